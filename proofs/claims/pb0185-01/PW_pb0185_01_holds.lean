import PyProof.Rows.All
import Wide.All
import OpenK.AllK
import Wide.FinOn
import PySem.Challenge.RW_pb0185_01
open PySem PySem.W PyProof.Rows
set_option Elab.async false
set_option maxRecDepth 100000
set_option maxHeartbeats 8000000
set_option linter.unusedSectionVars false
set_option linter.unusedVariables false
set_option linter.unusedSimpArgs false
set_option linter.constructorNameAsVariable false
set_option autoImplicit false
noncomputable section

/-! part Head -/
namespace HdT
noncomputable def nth : List Stmt → Nat → Stmt
  | s :: _, 0 => s
  | _ :: r, n + 1 => nth r n
  | [], _ => .Pass ⟨0, 0, 0, 0⟩
def cb : Stmt → List Stmt
  | .ClassDef _ _ _ b .. => b
  | _ => []
noncomputable def st (i : Nat) : Stmt := nth PySem.Challenge.pw_pb0185_01.main.body i
abbrev sv (x : String) (t : Nat) : Value := .str (Str.ofString x) t
abbrev de (P : Params) (x : String) (t : Nat) (v : Value) : DictEntry := ⟨PyData.keyHash P (Str.ofString x), .str (Str.ofString x) t, v⟩
abbrev fd {n : Str} {a : Arguments} {b : List Stmt} {ds : List Expr} {rt : Option Expr} {tp : List TypeParam} {sc : Scope} {so : Option Scope} {bn : Str} {ps : Pos} (q : String) (s : Stmt) (hs : s = .FunctionDef n a b ds rt tp sc so bn ps)
    (g : Addr) (cl : List (Str × Addr)) (d kd doc m : Value) (an : Option Addr) (c ct : Value) (bt : Addr) : Data := .func ⟨n, Str.ofString q, a, .stmts b, sc, g, cl, d, kd, doc, m, an, c, ct, bt⟩
abbrev nd := @BT.node
abbrev nl := BT.nil
noncomputable def o43 : Params → Obj := fun P => ⟨(.type "tuple"), none, (Data.seq #[] 0), #[]⟩
noncomputable def o44 : Params → Obj := fun P => ⟨.none, none, (Data.fields #[]), #[]⟩
noncomputable def o45 : Params → Obj := fun P => ⟨(.type "code"), none, (Data.fields #[(sv "<module>" 182), (sv "<module>" 183), (sv "/claim/cut.py" 184), (.int 1 0), (.int 0 0), (.int 0 0), (.int 0 0), (.int 0 0), (.ref 11), (.bool Bool.false), (.int 181 0), (.ref 12), .none, .none, .none, .none, (.int 185 0), (.int 1 0), (sv "/claim/cut.py" 186)]), #[]⟩
noncomputable def o46 : Params → Obj := fun P => ⟨(.type "frame"), none, Data.plain, #[(some (.ref 13)), (some (.ref 3)), (some (.ref 3)), none, (some (sv "__main__" 164)), none, (some (.ref 0))]⟩
noncomputable def o49 : Params → Obj := fun P => ⟨(.type "dict"), none, (Data.dict #[de P "__name__" 165 (sv "joinedhand.contexts" 260), de P "__doc__" 166 .none, de P "__package__" 167 .none, de P "__loader__" 168 (.builtin "__main__.__loader__#opaque"), de P "__spec__" 169 .none, de P "__annotations__" 170 (.ref 6), de P "__builtins__" 171 (.ref 4), de P "__file__" 173 (sv "/claim/cut.py" 172), de P "__cached__" 174 .none, de P "_wall" 193 (.ref 21), de P "Coverage" 250 (.ref 59), de P "coverage_of" 259 (.ref 70)] 12), #[]⟩
noncomputable def o50 : Params → Obj := fun P => ⟨.none, none, (Data.fields #[(.int 1 0), (.int 0 0), (.ref 20), (.int 5 0), (.int 0 0), (.ref 27), (.int 28 0), (.int 0 0), (.ref 69)]), #[]⟩
noncomputable def o51 : Params → Obj := fun P => ⟨(.type "tuple"), none, (Data.seq #[] 0), #[]⟩
noncomputable def o52 : Params → Obj := fun P => ⟨.none, none, (Data.fields #[]), #[]⟩
noncomputable def o53 : Params → Obj := fun P => ⟨(.type "tuple"), none, (Data.seq #[(sv "k" 190)] 0), #[]⟩
noncomputable def o54 : Params → Obj := fun P => ⟨(.type "tuple"), none, (Data.seq #[] 0), #[]⟩
noncomputable def o55 : Params → Obj := fun P => ⟨.none, none, (fd "_wall" (st 0) rfl 0 [] .none .none .none .none none .none .none 0), #[]⟩
noncomputable def o56 : Params → Obj := fun P => ⟨(.type "code"), none, (Data.fields #[(sv "_wall" 187), (sv "_wall" 188), (sv "/claim/cut.py" 189), (.int 1 0), (.int 1 0), (.int 0 0), (.int 0 0), (.int 3 0), (.ref 15), (.bool Bool.true), (.int 181 0), (.ref 16), .none, (.ref 17), (.ref 18), (.ref 19), (.int 191 0), (.int 1 0), (sv "/claim/cut.py" 192)]), #[]⟩
noncomputable def o57 : Params → Obj := fun P => ⟨(.type "function"), none, (fd "_wall" (st 0) rfl 3 [] .none .none .none (sv "__main__" 164) none (.ref 20) .none 0), #[]⟩
noncomputable def o58 : Params → Obj := fun P => ⟨(.type "tuple"), none, (Data.seq #[] 0), #[]⟩
noncomputable def o59 : Params → Obj := fun P => ⟨(.type "builtin_function_or_method"), none, (Data.fields #[(.builtin "type.__prepare__"), (.type "type")]), #[]⟩
noncomputable def o60 : Params → Obj := fun P => ⟨(.type "dict"), none, (Data.dict #[de P "__module__" 203 (sv "joinedhand.coverage" 194), de P "__qualname__" 205 (sv "Coverage" 204), de P "__firstlineno__" 207 (.int 5 206), de P "__init__" 215 (.ref 35), de P "index" 226 (.ref 42), de P "has" 234 (.ref 49), de P "told" 241 (.ref 56), de P "__static_attributes__" 243 (.ref 57)] 8), #[]⟩
noncomputable def o61 : Params → Obj := fun P => ⟨(.type "tuple"), none, (Data.seq #[] 0), #[]⟩
noncomputable def o62 : Params → Obj := fun P => ⟨.none, none, (Data.fields #[(.int 7 0), (.int 4 0), (.ref 34), (.int 10 0), (.int 4 0), (.ref 41), (.int 23 0), (.int 4 0), (.ref 48), (.int 26 0), (.int 4 0), (.ref 55)]), #[]⟩
noncomputable def o63 : Params → Obj := fun P => ⟨(.type "code"), none, (Data.fields #[(sv "Coverage" 198), (sv "Coverage" 199), (sv "/claim/cut.py" 200), (.int 5 0), (.int 0 0), (.int 0 0), (.int 0 0), (.int 0 0), (.ref 25), (.bool Bool.false), (.int 181 0), (.ref 26), .none, .none, .none, .none, (.int 201 0), (.int 5 0), (sv "/claim/cut.py" 202)]), #[]⟩
noncomputable def o64 : Params → Obj := fun P => ⟨(.type "frame"), none, Data.plain, #[(some (.ref 27)), (some (.ref 3)), (some (.ref 24)), none, (some (sv "joinedhand.coverage" 194)), none, (some (.ref 0))]⟩
noncomputable def o65 : Params → Obj := fun P => ⟨(.type "tuple"), none, (Data.seq #[] 0), #[]⟩
noncomputable def o66 : Params → Obj := fun P => ⟨.none, none, (Data.fields #[]), #[]⟩
noncomputable def o67 : Params → Obj := fun P => ⟨(.type "tuple"), none, (Data.seq #[(sv "self" 211), (sv "glyphs" 212)] 0), #[]⟩
noncomputable def o68 : Params → Obj := fun P => ⟨(.type "tuple"), none, (Data.seq #[] 0), #[]⟩
noncomputable def o69 : Params → Obj := fun P => ⟨.none, none, (fd "Coverage.__init__" (nth (cb (st 2)) 0) rfl 0 [] .none .none .none .none none .none .none 0), #[]⟩
noncomputable def o70 : Params → Obj := fun P => ⟨(.type "code"), none, (Data.fields #[(sv "__init__" 208), (sv "Coverage.__init__" 209), (sv "/claim/cut.py" 210), (.int 7 0), (.int 2 0), (.int 0 0), (.int 0 0), (.int 3 0), (.ref 29), (.bool Bool.true), (.int 181 0), (.ref 30), .none, (.ref 31), (.ref 32), (.ref 33), (.int 213 0), (.int 7 0), (sv "/claim/cut.py" 214)]), #[]⟩
noncomputable def o71 : Params → Obj := fun P => ⟨(.type "function"), none, (fd "Coverage.__init__" (nth (cb (st 2)) 0) rfl 3 [] .none .none .none (sv "joinedhand.coverage" 194) none (.ref 34) .none 0), #[]⟩
noncomputable def o72 : Params → Obj := fun P => ⟨(.type "tuple"), none, (Data.seq #[] 0), #[]⟩
noncomputable def o73 : Params → Obj := fun P => ⟨.none, none, (Data.fields #[]), #[]⟩
noncomputable def o74 : Params → Obj := fun P => ⟨(.type "tuple"), none, (Data.seq #[(sv "self" 219), (sv "glyph" 220), (sv "low" 221), (sv "high" 222), (sv "middle" 223)] 0), #[]⟩
noncomputable def o75 : Params → Obj := fun P => ⟨(.type "tuple"), none, (Data.seq #[] 0), #[]⟩
noncomputable def o76 : Params → Obj := fun P => ⟨.none, none, (fd "Coverage.index" (nth (cb (st 2)) 1) rfl 0 [] .none .none .none .none none .none .none 0), #[]⟩
noncomputable def o77 : Params → Obj := fun P => ⟨(.type "code"), none, (Data.fields #[(sv "index" 216), (sv "Coverage.index" 217), (sv "/claim/cut.py" 218), (.int 10 0), (.int 2 0), (.int 0 0), (.int 0 0), (.int 3 0), (.ref 36), (.bool Bool.true), (.int 181 0), (.ref 37), .none, (.ref 38), (.ref 39), (.ref 40), (.int 224 0), (.int 10 0), (sv "/claim/cut.py" 225)]), #[]⟩
noncomputable def o78 : Params → Obj := fun P => ⟨(.type "function"), none, (fd "Coverage.index" (nth (cb (st 2)) 1) rfl 3 [] .none .none .none (sv "joinedhand.coverage" 194) none (.ref 41) .none 0), #[]⟩
noncomputable def o79 : Params → Obj := fun P => ⟨(.type "tuple"), none, (Data.seq #[] 0), #[]⟩
noncomputable def o80 : Params → Obj := fun P => ⟨.none, none, (Data.fields #[]), #[]⟩
noncomputable def o81 : Params → Obj := fun P => ⟨(.type "tuple"), none, (Data.seq #[(sv "self" 230), (sv "glyph" 231)] 0), #[]⟩
noncomputable def o82 : Params → Obj := fun P => ⟨(.type "tuple"), none, (Data.seq #[] 0), #[]⟩
noncomputable def o83 : Params → Obj := fun P => ⟨.none, none, (fd "Coverage.has" (nth (cb (st 2)) 2) rfl 0 [] .none .none .none .none none .none .none 0), #[]⟩
noncomputable def o84 : Params → Obj := fun P => ⟨(.type "code"), none, (Data.fields #[(sv "has" 227), (sv "Coverage.has" 228), (sv "/claim/cut.py" 229), (.int 23 0), (.int 2 0), (.int 0 0), (.int 0 0), (.int 3 0), (.ref 43), (.bool Bool.true), (.int 181 0), (.ref 44), .none, (.ref 45), (.ref 46), (.ref 47), (.int 232 0), (.int 23 0), (sv "/claim/cut.py" 233)]), #[]⟩
noncomputable def o85 : Params → Obj := fun P => ⟨(.type "function"), none, (fd "Coverage.has" (nth (cb (st 2)) 2) rfl 3 [] .none .none .none (sv "joinedhand.coverage" 194) none (.ref 48) .none 0), #[]⟩
noncomputable def o86 : Params → Obj := fun P => ⟨(.type "tuple"), none, (Data.seq #[] 0), #[]⟩
noncomputable def o87 : Params → Obj := fun P => ⟨.none, none, (Data.fields #[]), #[]⟩
noncomputable def o88 : Params → Obj := fun P => ⟨(.type "tuple"), none, (Data.seq #[(sv "self" 238)] 0), #[]⟩
noncomputable def o89 : Params → Obj := fun P => ⟨(.type "tuple"), none, (Data.seq #[] 0), #[]⟩
noncomputable def o90 : Params → Obj := fun P => ⟨.none, none, (fd "Coverage.told" (nth (cb (st 2)) 3) rfl 0 [] .none .none .none .none none .none .none 0), #[]⟩
noncomputable def o91 : Params → Obj := fun P => ⟨(.type "code"), none, (Data.fields #[(sv "told" 235), (sv "Coverage.told" 236), (sv "/claim/cut.py" 237), (.int 26 0), (.int 1 0), (.int 0 0), (.int 0 0), (.int 3 0), (.ref 50), (.bool Bool.true), (.int 181 0), (.ref 51), .none, (.ref 52), (.ref 53), (.ref 54), (.int 239 0), (.int 26 0), (sv "/claim/cut.py" 240)]), #[]⟩
noncomputable def o92 : Params → Obj := fun P => ⟨(.type "function"), none, (fd "Coverage.told" (nth (cb (st 2)) 3) rfl 3 [] .none .none .none (sv "joinedhand.coverage" 194) none (.ref 55) .none 0), #[]⟩
noncomputable def o93 : Params → Obj := fun P => ⟨(.type "tuple"), none, (Data.seq #[(sv "glyphs" 242)] 0), #[]⟩
noncomputable def o94 : Params → Obj := fun P => ⟨(.type "dict"), none, (Data.dict #[de P "__module__" 203 (sv "joinedhand.coverage" 194), de P "__firstlineno__" 207 (.int 5 206), de P "__init__" 215 (.ref 35), de P "index" 226 (.ref 42), de P "has" 234 (.ref 49), de P "told" 241 (.ref 56), de P "__static_attributes__" 243 (.ref 57), de P "__dict__" 245 (.ref 60), de P "__weakref__" 247 (.ref 61), de P "__doc__" 248 .none] 4), #[]⟩
noncomputable def o95 : Params → Obj := fun P => ⟨(.type "type"), none, (Data.cls (ClassData.mk (Str.ofString "Coverage") [(.type "object")] [(.ref 59), (.type "object")] 58 (Str.ofString "Coverage") Bool.true [] [] Bool.false none Bool.false)), #[none, none, (some (sv "Coverage" 196)), (some (sv "Coverage" 204)), (some (.builtin "object.__new__")), (some (.bool Bool.true))]⟩
noncomputable def o96 : Params → Obj := fun P => ⟨(.type "getset_descriptor"), none, (Data.fields #[(sv "__dict__" 244), (.ref 59), (.builtin "function.__dict__"), (.builtin "function.__dict__#set")]), #[]⟩
noncomputable def o97 : Params → Obj := fun P => ⟨(.type "getset_descriptor"), none, (Data.fields #[(sv "__weakref__" 246), (.ref 59), (.builtin "ExceptionGroup.__weakref__"), .none]), #[]⟩
noncomputable def o98 : Params → Obj := fun P => ⟨(.type "super"), none, (Data.fields #[(.ref 59), (.ref 59), (.ref 59)]), #[]⟩
noncomputable def o99 : Params → Obj := fun P => ⟨(.type "builtin_function_or_method"), none, (Data.fields #[(.builtin "object.__init_subclass__"), (.ref 59)]), #[]⟩
noncomputable def o100 : Params → Obj := fun P => ⟨(.type "tuple"), none, (Data.seq #[] 0), #[]⟩
noncomputable def o101 : Params → Obj := fun P => ⟨.none, none, (Data.fields #[]), #[]⟩
noncomputable def o102 : Params → Obj := fun P => ⟨(.type "tuple"), none, (Data.seq #[(sv "glyphs" 254), (sv "found" 255), (sv "glyph" 256)] 0), #[]⟩
noncomputable def o103 : Params → Obj := fun P => ⟨(.type "tuple"), none, (Data.seq #[] 0), #[]⟩
noncomputable def o104 : Params → Obj := fun P => ⟨.none, none, (fd "coverage_of" (st 3) rfl 0 [] .none .none .none .none none .none .none 0), #[]⟩
noncomputable def o105 : Params → Obj := fun P => ⟨(.type "code"), none, (Data.fields #[(sv "coverage_of" 251), (sv "coverage_of" 252), (sv "/claim/cut.py" 253), (.int 28 0), (.int 1 0), (.int 0 0), (.int 0 0), (.int 3 0), (.ref 64), (.bool Bool.true), (.int 181 0), (.ref 65), .none, (.ref 66), (.ref 67), (.ref 68), (.int 257 0), (.int 28 0), (sv "/claim/cut.py" 258)]), #[]⟩
noncomputable def o106 : Params → Obj := fun P => ⟨(.type "function"), none, (fd "coverage_of" (st 3) rfl 3 [] .none .none .none (sv "joinedhand.coverage" 194) none (.ref 69) .none 0), #[]⟩
noncomputable def o107 : Params → Obj := fun P => ⟨(.type "dict"), none, (Data.dict #[de P "__name__" 165 (sv "joinedhand.contexts" 260), de P "__doc__" 166 .none, de P "__package__" 167 .none, de P "__loader__" 168 (.builtin "__main__.__loader__#opaque"), de P "__spec__" 169 .none, de P "__annotations__" 170 (.ref 6), de P "__builtins__" 171 (.ref 4), de P "__file__" 173 (sv "/claim/cut.py" 172), de P "__cached__" 174 .none, de P "_wall" 193 (.ref 21), de P "Coverage" 250 (.ref 59), de P "coverage_of" 259 (.ref 70), de P "BY_GLYPHS" 263 (.int 1 262), de P "BY_CLASSES" 265 (.int 2 264), de P "BY_COVERAGES" 267 (.int 3 266), de P "Rule" 316 (.ref 101)] 16), #[]⟩
noncomputable def o108 : Params → Obj := fun P => ⟨.none, none, (Data.fields #[(.int 1 0), (.int 0 0), (.ref 20), (.int 5 0), (.int 0 0), (.ref 27), (.int 28 0), (.int 0 0), (.ref 69), (.int 37 0), (.int 0 0), (.ref 76)]), #[]⟩
noncomputable def o109 : Params → Obj := fun P => ⟨(.type "tuple"), none, (Data.seq #[] 0), #[]⟩
noncomputable def o110 : Params → Obj := fun P => ⟨(.type "builtin_function_or_method"), none, (Data.fields #[(.builtin "type.__prepare__"), (.type "type")]), #[]⟩
noncomputable def o111 : Params → Obj := fun P => ⟨(.type "dict"), none, (Data.dict #[de P "__module__" 275 (sv "joinedhand.contexts" 260), de P "__qualname__" 277 (sv "Rule" 276), de P "__firstlineno__" 279 (.int 37 278), de P "__init__" 290 (.ref 84), de P "told" 297 (.ref 91), de P "reach" 304 (.ref 98), de P "__static_attributes__" 309 (.ref 99)] 7), #[]⟩
noncomputable def o112 : Params → Obj := fun P => ⟨(.type "tuple"), none, (Data.seq #[] 0), #[]⟩
noncomputable def o113 : Params → Obj := fun P => ⟨.none, none, (Data.fields #[(.int 39 0), (.int 4 0), (.ref 83), (.int 45 0), (.int 4 0), (.ref 90), (.int 48 0), (.int 4 0), (.ref 97)]), #[]⟩
noncomputable def o114 : Params → Obj := fun P => ⟨(.type "code"), none, (Data.fields #[(sv "Rule" 270), (sv "Rule" 271), (sv "/claim/cut.py" 272), (.int 37 0), (.int 0 0), (.int 0 0), (.int 0 0), (.int 0 0), (.ref 74), (.bool Bool.false), (.int 181 0), (.ref 75), .none, .none, .none, .none, (.int 273 0), (.int 37 0), (sv "/claim/cut.py" 274)]), #[]⟩
noncomputable def o115 : Params → Obj := fun P => ⟨(.type "frame"), none, Data.plain, #[(some (.ref 76)), (some (.ref 3)), (some (.ref 73)), none, (some (sv "joinedhand.contexts" 260)), none, (some (.ref 0))]⟩
noncomputable def o116 : Params → Obj := fun P => ⟨(.type "tuple"), none, (Data.seq #[] 0), #[]⟩
noncomputable def o117 : Params → Obj := fun P => ⟨.none, none, (Data.fields #[]), #[]⟩
noncomputable def o118 : Params → Obj := fun P => ⟨(.type "tuple"), none, (Data.seq #[(sv "self" 283), (sv "back" 284), (sv "inside" 285), (sv "ahead" 286), (sv "actions" 287)] 0), #[]⟩
noncomputable def o119 : Params → Obj := fun P => ⟨(.type "tuple"), none, (Data.seq #[] 0), #[]⟩
noncomputable def o120 : Params → Obj := fun P => ⟨.none, none, (fd "Rule.__init__" (nth (cb (st 8)) 0) rfl 0 [] .none .none .none .none none .none .none 0), #[]⟩
noncomputable def o121 : Params → Obj := fun P => ⟨(.type "code"), none, (Data.fields #[(sv "__init__" 280), (sv "Rule.__init__" 281), (sv "/claim/cut.py" 282), (.int 39 0), (.int 5 0), (.int 0 0), (.int 0 0), (.int 3 0), (.ref 78), (.bool Bool.true), (.int 181 0), (.ref 79), .none, (.ref 80), (.ref 81), (.ref 82), (.int 288 0), (.int 39 0), (sv "/claim/cut.py" 289)]), #[]⟩
noncomputable def o122 : Params → Obj := fun P => ⟨(.type "function"), none, (fd "Rule.__init__" (nth (cb (st 8)) 0) rfl 3 [] .none .none .none (sv "joinedhand.contexts" 260) none (.ref 83) .none 0), #[]⟩
noncomputable def o123 : Params → Obj := fun P => ⟨(.type "tuple"), none, (Data.seq #[] 0), #[]⟩
noncomputable def o124 : Params → Obj := fun P => ⟨.none, none, (Data.fields #[]), #[]⟩
noncomputable def o125 : Params → Obj := fun P => ⟨(.type "tuple"), none, (Data.seq #[(sv "self" 294)] 0), #[]⟩
noncomputable def o126 : Params → Obj := fun P => ⟨(.type "tuple"), none, (Data.seq #[] 0), #[]⟩
noncomputable def o127 : Params → Obj := fun P => ⟨.none, none, (fd "Rule.told" (nth (cb (st 8)) 1) rfl 0 [] .none .none .none .none none .none .none 0), #[]⟩
noncomputable def o128 : Params → Obj := fun P => ⟨(.type "code"), none, (Data.fields #[(sv "told" 291), (sv "Rule.told" 292), (sv "/claim/cut.py" 293), (.int 45 0), (.int 1 0), (.int 0 0), (.int 0 0), (.int 3 0), (.ref 85), (.bool Bool.true), (.int 181 0), (.ref 86), .none, (.ref 87), (.ref 88), (.ref 89), (.int 295 0), (.int 45 0), (sv "/claim/cut.py" 296)]), #[]⟩
noncomputable def o129 : Params → Obj := fun P => ⟨(.type "function"), none, (fd "Rule.told" (nth (cb (st 8)) 1) rfl 3 [] .none .none .none (sv "joinedhand.contexts" 260) none (.ref 90) .none 0), #[]⟩
noncomputable def o130 : Params → Obj := fun P => ⟨(.type "tuple"), none, (Data.seq #[] 0), #[]⟩
noncomputable def o131 : Params → Obj := fun P => ⟨.none, none, (Data.fields #[]), #[]⟩
noncomputable def o132 : Params → Obj := fun P => ⟨(.type "tuple"), none, (Data.seq #[(sv "self" 301)] 0), #[]⟩
noncomputable def o133 : Params → Obj := fun P => ⟨(.type "tuple"), none, (Data.seq #[] 0), #[]⟩
noncomputable def o134 : Params → Obj := fun P => ⟨.none, none, (fd "Rule.reach" (nth (cb (st 8)) 2) rfl 0 [] .none .none .none .none none .none .none 0), #[]⟩
noncomputable def o135 : Params → Obj := fun P => ⟨(.type "code"), none, (Data.fields #[(sv "reach" 298), (sv "Rule.reach" 299), (sv "/claim/cut.py" 300), (.int 48 0), (.int 1 0), (.int 0 0), (.int 0 0), (.int 3 0), (.ref 92), (.bool Bool.true), (.int 181 0), (.ref 93), .none, (.ref 94), (.ref 95), (.ref 96), (.int 302 0), (.int 48 0), (sv "/claim/cut.py" 303)]), #[]⟩
noncomputable def o136 : Params → Obj := fun P => ⟨(.type "function"), none, (fd "Rule.reach" (nth (cb (st 8)) 2) rfl 3 [] .none .none .none (sv "joinedhand.contexts" 260) none (.ref 97) .none 0), #[]⟩
noncomputable def o137 : Params → Obj := fun P => ⟨(.type "tuple"), none, (Data.seq #[(sv "actions" 305), (sv "ahead" 306), (sv "back" 307), (sv "inside" 308)] 0), #[]⟩
noncomputable def o138 : Params → Obj := fun P => ⟨(.type "dict"), none, (Data.dict #[de P "__module__" 275 (sv "joinedhand.contexts" 260), de P "__firstlineno__" 279 (.int 37 278), de P "__init__" 290 (.ref 84), de P "told" 297 (.ref 91), de P "reach" 304 (.ref 98), de P "__static_attributes__" 309 (.ref 99), de P "__dict__" 311 (.ref 102), de P "__weakref__" 313 (.ref 103), de P "__doc__" 314 .none] 4), #[]⟩
noncomputable def o139 : Params → Obj := fun P => ⟨(.type "type"), none, (Data.cls (ClassData.mk (Str.ofString "Rule") [(.type "object")] [(.ref 101), (.type "object")] 100 (Str.ofString "Rule") Bool.true [] [] Bool.false none Bool.false)), #[none, none, (some (sv "Rule" 268)), (some (sv "Rule" 276)), (some (.builtin "object.__new__")), (some (.bool Bool.true))]⟩
noncomputable def o140 : Params → Obj := fun P => ⟨(.type "getset_descriptor"), none, (Data.fields #[(sv "__dict__" 310), (.ref 101), (.builtin "function.__dict__"), (.builtin "function.__dict__#set")]), #[]⟩
noncomputable def o141 : Params → Obj := fun P => ⟨(.type "getset_descriptor"), none, (Data.fields #[(sv "__weakref__" 312), (.ref 101), (.builtin "ExceptionGroup.__weakref__"), .none]), #[]⟩
noncomputable def o142 : Params → Obj := fun P => ⟨(.type "super"), none, (Data.fields #[(.ref 101), (.ref 101), (.ref 101)]), #[]⟩
noncomputable def o143 : Params → Obj := fun P => ⟨(.type "builtin_function_or_method"), none, (Data.fields #[(.builtin "object.__init_subclass__"), (.ref 101)]), #[]⟩
noncomputable def o144 : Params → Obj := fun P => ⟨(.type "dict"), none, (Data.dict #[de P "__name__" 165 (sv "joinedhand.contexts" 260), de P "__doc__" 166 .none, de P "__package__" 167 .none, de P "__loader__" 168 (.builtin "__main__.__loader__#opaque"), de P "__spec__" 169 .none, de P "__annotations__" 170 (.ref 6), de P "__builtins__" 171 (.ref 4), de P "__file__" 173 (sv "/claim/cut.py" 172), de P "__cached__" 174 .none, de P "_wall" 193 (.ref 21), de P "Coverage" 250 (.ref 59), de P "coverage_of" 259 (.ref 70), de P "BY_GLYPHS" 263 (.int 1 262), de P "BY_CLASSES" 265 (.int 2 264), de P "BY_COVERAGES" 267 (.int 3 266), de P "Rule" 316 (.ref 101), de P "Contexts" 377 (.ref 144), de P "tests_of" 383 (.ref 153), de P "rule_tests" 395 (.ref 160)] 19), #[]⟩
noncomputable def o145 : Params → Obj := fun P => ⟨.none, none, (Data.fields #[(.int 1 0), (.int 0 0), (.ref 20), (.int 5 0), (.int 0 0), (.ref 27), (.int 28 0), (.int 0 0), (.ref 69), (.int 37 0), (.int 0 0), (.ref 76), (.int 50 0), (.int 0 0), (.ref 111), (.int 71 0), (.int 0 0), (.ref 152), (.int 75 0), (.int 0 0), (.ref 159)]), #[]⟩
noncomputable def o146 : Params → Obj := fun P => ⟨(.type "tuple"), none, (Data.seq #[] 0), #[]⟩
noncomputable def o147 : Params → Obj := fun P => ⟨(.type "builtin_function_or_method"), none, (Data.fields #[(.builtin "type.__prepare__"), (.type "type")]), #[]⟩
noncomputable def o148 : Params → Obj := fun P => ⟨(.type "dict"), none, (Data.dict #[de P "__module__" 324 (sv "joinedhand.contexts" 260), de P "__qualname__" 326 (sv "Contexts" 325), de P "__firstlineno__" 328 (.int 50 327), de P "__init__" 340 (.ref 120), de P "told" 347 (.ref 127), de P "used_classes" 354 (.ref 134), de P "rules" 364 (.ref 141), de P "__static_attributes__" 370 (.ref 142)] 8), #[]⟩
noncomputable def o149 : Params → Obj := fun P => ⟨(.type "tuple"), none, (Data.seq #[] 0), #[]⟩
noncomputable def o150 : Params → Obj := fun P => ⟨.none, none, (Data.fields #[(.int 52 0), (.int 4 0), (.ref 119), (.int 59 0), (.int 4 0), (.ref 126), (.int 62 0), (.int 4 0), (.ref 133), (.int 65 0), (.int 4 0), (.ref 140)]), #[]⟩
noncomputable def o151 : Params → Obj := fun P => ⟨(.type "code"), none, (Data.fields #[(sv "Contexts" 319), (sv "Contexts" 320), (sv "/claim/cut.py" 321), (.int 50 0), (.int 0 0), (.int 0 0), (.int 0 0), (.int 0 0), (.ref 109), (.bool Bool.false), (.int 181 0), (.ref 110), .none, .none, .none, .none, (.int 322 0), (.int 50 0), (sv "/claim/cut.py" 323)]), #[]⟩
noncomputable def o152 : Params → Obj := fun P => ⟨(.type "frame"), none, Data.plain, #[(some (.ref 111)), (some (.ref 3)), (some (.ref 108)), none, (some (sv "joinedhand.contexts" 260)), none, (some (.ref 0))]⟩
noncomputable def o153 : Params → Obj := fun P => ⟨(.type "tuple"), none, (Data.seq #[.none, .none] 0), #[]⟩
noncomputable def o154 : Params → Obj := fun P => ⟨(.type "tuple"), none, (Data.seq #[] 0), #[]⟩
noncomputable def o155 : Params → Obj := fun P => ⟨.none, none, (Data.fields #[]), #[]⟩
noncomputable def o156 : Params → Obj := fun P => ⟨(.type "tuple"), none, (Data.seq #[(sv "self" 332), (sv "form" 333), (sv "is_chained" 334), (sv "sets" 335), (sv "coverage" 336), (sv "classes" 337)] 0), #[]⟩
noncomputable def o157 : Params → Obj := fun P => ⟨(.type "tuple"), none, (Data.seq #[] 0), #[]⟩
noncomputable def o158 : Params → Obj := fun P => ⟨.none, none, (fd "Contexts.__init__" (nth (cb (st 9)) 0) rfl 0 [] .none .none .none .none none .none .none 0), #[]⟩
noncomputable def o159 : Params → Obj := fun P => ⟨(.type "code"), none, (Data.fields #[(sv "__init__" 329), (sv "Contexts.__init__" 330), (sv "/claim/cut.py" 331), (.int 52 0), (.int 6 0), (.int 0 0), (.int 0 0), (.int 3 0), (.ref 114), (.bool Bool.true), (.int 181 0), (.ref 115), .none, (.ref 116), (.ref 117), (.ref 118), (.int 338 0), (.int 52 0), (sv "/claim/cut.py" 339)]), #[]⟩
noncomputable def o160 : Params → Obj := fun P => ⟨(.type "function"), none, (fd "Contexts.__init__" (nth (cb (st 9)) 0) rfl 3 [] (.ref 113) .none .none (sv "joinedhand.contexts" 260) none (.ref 119) .none 0), #[]⟩
noncomputable def o161 : Params → Obj := fun P => ⟨(.type "tuple"), none, (Data.seq #[] 0), #[]⟩
noncomputable def o162 : Params → Obj := fun P => ⟨.none, none, (Data.fields #[]), #[]⟩
noncomputable def o163 : Params → Obj := fun P => ⟨(.type "tuple"), none, (Data.seq #[(sv "self" 344)] 0), #[]⟩
noncomputable def o164 : Params → Obj := fun P => ⟨(.type "tuple"), none, (Data.seq #[] 0), #[]⟩
noncomputable def o165 : Params → Obj := fun P => ⟨.none, none, (fd "Contexts.told" (nth (cb (st 9)) 1) rfl 0 [] .none .none .none .none none .none .none 0), #[]⟩
noncomputable def o166 : Params → Obj := fun P => ⟨(.type "code"), none, (Data.fields #[(sv "told" 341), (sv "Contexts.told" 342), (sv "/claim/cut.py" 343), (.int 59 0), (.int 1 0), (.int 0 0), (.int 0 0), (.int 3 0), (.ref 121), (.bool Bool.true), (.int 181 0), (.ref 122), .none, (.ref 123), (.ref 124), (.ref 125), (.int 345 0), (.int 59 0), (sv "/claim/cut.py" 346)]), #[]⟩
noncomputable def o167 : Params → Obj := fun P => ⟨(.type "function"), none, (fd "Contexts.told" (nth (cb (st 9)) 1) rfl 3 [] .none .none .none (sv "joinedhand.contexts" 260) none (.ref 126) .none 0), #[]⟩
noncomputable def o168 : Params → Obj := fun P => ⟨(.type "tuple"), none, (Data.seq #[] 0), #[]⟩
noncomputable def o169 : Params → Obj := fun P => ⟨.none, none, (Data.fields #[]), #[]⟩
noncomputable def o170 : Params → Obj := fun P => ⟨(.type "tuple"), none, (Data.seq #[(sv "self" 351)] 0), #[]⟩
noncomputable def o171 : Params → Obj := fun P => ⟨(.type "tuple"), none, (Data.seq #[] 0), #[]⟩
noncomputable def o172 : Params → Obj := fun P => ⟨.none, none, (fd "Contexts.used_classes" (nth (cb (st 9)) 2) rfl 0 [] .none .none .none .none none .none .none 0), #[]⟩
noncomputable def o173 : Params → Obj := fun P => ⟨(.type "code"), none, (Data.fields #[(sv "used_classes" 348), (sv "Contexts.used_classes" 349), (sv "/claim/cut.py" 350), (.int 62 0), (.int 1 0), (.int 0 0), (.int 0 0), (.int 3 0), (.ref 128), (.bool Bool.true), (.int 181 0), (.ref 129), .none, (.ref 130), (.ref 131), (.ref 132), (.int 352 0), (.int 62 0), (sv "/claim/cut.py" 353)]), #[]⟩
noncomputable def o174 : Params → Obj := fun P => ⟨(.type "function"), none, (fd "Contexts.used_classes" (nth (cb (st 9)) 2) rfl 3 [] .none .none .none (sv "joinedhand.contexts" 260) none (.ref 133) .none 0), #[]⟩
noncomputable def o175 : Params → Obj := fun P => ⟨(.type "tuple"), none, (Data.seq #[] 0), #[]⟩
noncomputable def o176 : Params → Obj := fun P => ⟨.none, none, (Data.fields #[]), #[]⟩
noncomputable def o177 : Params → Obj := fun P => ⟨(.type "tuple"), none, (Data.seq #[(sv "self" 358), (sv "found" 359), (sv "key" 360), (sv "rule" 361)] 0), #[]⟩
noncomputable def o178 : Params → Obj := fun P => ⟨(.type "tuple"), none, (Data.seq #[] 0), #[]⟩
noncomputable def o179 : Params → Obj := fun P => ⟨.none, none, (fd "Contexts.rules" (nth (cb (st 9)) 3) rfl 0 [] .none .none .none .none none .none .none 0), #[]⟩
noncomputable def o180 : Params → Obj := fun P => ⟨(.type "code"), none, (Data.fields #[(sv "rules" 355), (sv "Contexts.rules" 356), (sv "/claim/cut.py" 357), (.int 65 0), (.int 1 0), (.int 0 0), (.int 0 0), (.int 3 0), (.ref 135), (.bool Bool.true), (.int 181 0), (.ref 136), .none, (.ref 137), (.ref 138), (.ref 139), (.int 362 0), (.int 65 0), (sv "/claim/cut.py" 363)]), #[]⟩
noncomputable def o181 : Params → Obj := fun P => ⟨(.type "function"), none, (fd "Contexts.rules" (nth (cb (st 9)) 3) rfl 3 [] .none .none .none (sv "joinedhand.contexts" 260) none (.ref 140) .none 0), #[]⟩
noncomputable def o182 : Params → Obj := fun P => ⟨(.type "tuple"), none, (Data.seq #[(sv "classes" 365), (sv "coverage" 366), (sv "form" 367), (sv "is_chained" 368), (sv "sets" 369)] 0), #[]⟩
noncomputable def o183 : Params → Obj := fun P => ⟨(.type "dict"), none, (Data.dict #[de P "__module__" 324 (sv "joinedhand.contexts" 260), de P "__firstlineno__" 328 (.int 50 327), de P "__init__" 340 (.ref 120), de P "told" 347 (.ref 127), de P "used_classes" 354 (.ref 134), de P "rules" 364 (.ref 141), de P "__static_attributes__" 370 (.ref 142), de P "__dict__" 372 (.ref 145), de P "__weakref__" 374 (.ref 146), de P "__doc__" 375 .none] 4), #[]⟩
noncomputable def o184 : Params → Obj := fun P => ⟨(.type "type"), none, (Data.cls (ClassData.mk (Str.ofString "Contexts") [(.type "object")] [(.ref 144), (.type "object")] 143 (Str.ofString "Contexts") Bool.true [] [] Bool.false none Bool.false)), #[none, none, (some (sv "Contexts" 317)), (some (sv "Contexts" 325)), (some (.builtin "object.__new__")), (some (.bool Bool.true))]⟩
noncomputable def o185 : Params → Obj := fun P => ⟨(.type "getset_descriptor"), none, (Data.fields #[(sv "__dict__" 371), (.ref 144), (.builtin "function.__dict__"), (.builtin "function.__dict__#set")]), #[]⟩
noncomputable def o186 : Params → Obj := fun P => ⟨(.type "getset_descriptor"), none, (Data.fields #[(sv "__weakref__" 373), (.ref 144), (.builtin "ExceptionGroup.__weakref__"), .none]), #[]⟩
noncomputable def o187 : Params → Obj := fun P => ⟨(.type "super"), none, (Data.fields #[(.ref 144), (.ref 144), (.ref 144)]), #[]⟩
noncomputable def o188 : Params → Obj := fun P => ⟨(.type "builtin_function_or_method"), none, (Data.fields #[(.builtin "object.__init_subclass__"), (.ref 144)]), #[]⟩
noncomputable def o189 : Params → Obj := fun P => ⟨(.type "tuple"), none, (Data.seq #[] 0), #[]⟩
noncomputable def o190 : Params → Obj := fun P => ⟨.none, none, (Data.fields #[]), #[]⟩
noncomputable def o191 : Params → Obj := fun P => ⟨.none, none, (fd "tests_of" (st 10) rfl 0 [] .none .none .none .none none .none .none 0), #[]⟩
noncomputable def o192 : Params → Obj := fun P => ⟨(.type "code"), none, (Data.fields #[(sv "tests_of" 378), (sv "tests_of" 379), (sv "/claim/cut.py" 380), (.int 71 0), (.int 3 0), (.int 0 0), (.int 0 0), (.int 3 0), (.ref 149), (.bool Bool.true), (.int 181 0), (.ref 150), .none, .none, .none, (.ref 151), (.int 381 0), (.int 71 0), (sv "/claim/cut.py" 382)]), #[]⟩
noncomputable def o193 : Params → Obj := fun P => ⟨(.type "function"), none, (fd "tests_of" (st 10) rfl 3 [] .none .none .none (sv "joinedhand.contexts" 260) none (.ref 152) .none 0), #[]⟩
noncomputable def o194 : Params → Obj := fun P => ⟨(.type "tuple"), none, (Data.seq #[] 0), #[]⟩
noncomputable def o195 : Params → Obj := fun P => ⟨.none, none, (Data.fields #[]), #[]⟩
noncomputable def o196 : Params → Obj := fun P => ⟨(.type "tuple"), none, (Data.seq #[(sv "table" 387), (sv "rule" 388), (sv "word" 389), (sv "back" 390), (sv "inside" 391), (sv "ahead" 392)] 0), #[]⟩
noncomputable def o197 : Params → Obj := fun P => ⟨(.type "tuple"), none, (Data.seq #[] 0), #[]⟩
noncomputable def o198 : Params → Obj := fun P => ⟨.none, none, (fd "rule_tests" (st 11) rfl 0 [] .none .none .none .none none .none .none 0), #[]⟩
noncomputable def o199 : Params → Obj := fun P => ⟨(.type "code"), none, (Data.fields #[(sv "rule_tests" 384), (sv "rule_tests" 385), (sv "/claim/cut.py" 386), (.int 75 0), (.int 2 0), (.int 0 0), (.int 0 0), (.int 3 0), (.ref 154), (.bool Bool.true), (.int 181 0), (.ref 155), .none, (.ref 156), (.ref 157), (.ref 158), (.int 393 0), (.int 75 0), (sv "/claim/cut.py" 394)]), #[]⟩
noncomputable def o200 : Params → Obj := fun P => ⟨(.type "function"), none, (fd "rule_tests" (st 11) rfl 3 [] .none .none .none (sv "joinedhand.contexts" 260) none (.ref 159) .none 0), #[]⟩
noncomputable def o201 : Params → Obj := fun P => ⟨.none, none, (Data.dict #[de P "type.__subclasses__.Exception.0" 442 (.int 192 0), de P "type.__subclasses__.Exception.n" 443 (.int 1 0)] 2), #[]⟩
noncomputable def o202 : Params → Obj := fun P => ⟨(.type "dict"), none, (Data.dict #[de P "__name__" 165 (sv "joinedhand.errors" 402), de P "__doc__" 166 .none, de P "__package__" 167 .none, de P "__loader__" 168 (.builtin "__main__.__loader__#opaque"), de P "__spec__" 169 .none, de P "__annotations__" 170 (.ref 6), de P "__builtins__" 171 (.ref 4), de P "__file__" 173 (sv "/claim/cut.py" 172), de P "__cached__" 174 .none, de P "_wall" 193 (.ref 21), de P "Coverage" 250 (.ref 59), de P "coverage_of" 259 (.ref 70), de P "BY_GLYPHS" 263 (.int 1 262), de P "BY_CLASSES" 265 (.int 2 264), de P "BY_COVERAGES" 267 (.int 3 266), de P "Rule" 316 (.ref 101), de P "Contexts" 377 (.ref 144), de P "tests_of" 383 (.ref 153), de P "rule_tests" 395 (.ref 160), de P "rules_at" 401 (.ref 165), de P "ShapeError" 445 (.ref 192)] 21), #[]⟩
noncomputable def o203 : Params → Obj := fun P => ⟨.none, none, (Data.fields #[(.int 1 0), (.int 0 0), (.ref 20), (.int 5 0), (.int 0 0), (.ref 27), (.int 28 0), (.int 0 0), (.ref 69), (.int 37 0), (.int 0 0), (.ref 76), (.int 50 0), (.int 0 0), (.ref 111), (.int 71 0), (.int 0 0), (.ref 152), (.int 75 0), (.int 0 0), (.ref 159), (.int 79 0), (.int 0 0), (.ref 164), (.int 88 0), (.int 0 0), (.ref 172)]), #[]⟩
noncomputable def o204 : Params → Obj := fun P => ⟨(.type "tuple"), none, (Data.seq #[] 0), #[]⟩
noncomputable def o205 : Params → Obj := fun P => ⟨.none, none, (Data.fields #[]), #[]⟩
noncomputable def o206 : Params → Obj := fun P => ⟨.none, none, (fd "rules_at" (st 12) rfl 0 [] .none .none .none .none none .none .none 0), #[]⟩
noncomputable def o207 : Params → Obj := fun P => ⟨(.type "code"), none, (Data.fields #[(sv "rules_at" 396), (sv "rules_at" 397), (sv "/claim/cut.py" 398), (.int 79 0), (.int 2 0), (.int 0 0), (.int 0 0), (.int 3 0), (.ref 161), (.bool Bool.true), (.int 181 0), (.ref 162), .none, .none, .none, (.ref 163), (.int 399 0), (.int 79 0), (sv "/claim/cut.py" 400)]), #[]⟩
noncomputable def o208 : Params → Obj := fun P => ⟨(.type "function"), none, (fd "rules_at" (st 12) rfl 3 [] .none .none .none (sv "joinedhand.contexts" 260) none (.ref 164) .none 0), #[]⟩
noncomputable def o209 : Params → Obj := fun P => ⟨(.type "tuple"), none, (Data.seq #[(.type "Exception")] 0), #[]⟩
noncomputable def o210 : Params → Obj := fun P => ⟨(.type "builtin_function_or_method"), none, (Data.fields #[(.builtin "type.__prepare__"), (.type "type")]), #[]⟩
noncomputable def o211 : Params → Obj := fun P => ⟨(.type "dict"), none, (Data.dict #[de P "__module__" 411 (sv "joinedhand.errors" 402), de P "__qualname__" 413 (sv "ShapeError" 412), de P "__firstlineno__" 415 (.int 88 414), de P "__init__" 427 (.ref 182), de P "told" 434 (.ref 189), de P "__static_attributes__" 437 (.ref 190), de P "__classcell__" 438 (.ref 169)] 7), #[]⟩
noncomputable def o212 : Params → Obj := fun P => ⟨(.type "cell"), none, (Data.cell (some (.ref 192))), #[]⟩
noncomputable def o213 : Params → Obj := fun P => ⟨(.type "tuple"), none, (Data.seq #[] 0), #[]⟩
noncomputable def o214 : Params → Obj := fun P => ⟨.none, none, (Data.fields #[(.int 90 0), (.int 4 0), (.ref 181), (.int 95 0), (.int 4 0), (.ref 188)]), #[]⟩
noncomputable def o215 : Params → Obj := fun P => ⟨(.type "code"), none, (Data.fields #[(sv "ShapeError" 406), (sv "ShapeError" 407), (sv "/claim/cut.py" 408), (.int 88 0), (.int 0 0), (.int 0 0), (.int 0 0), (.int 0 0), (.ref 170), (.bool Bool.false), (.int 181 0), (.ref 171), .none, .none, .none, .none, (.int 409 0), (.int 88 0), (sv "/claim/cut.py" 410)]), #[]⟩
noncomputable def o216 : Params → Obj := fun P => ⟨(.type "frame"), none, Data.plain, #[(some (.ref 172)), (some (.ref 3)), (some (.ref 168)), none, (some (sv "joinedhand.errors" 402)), none, (some (.ref 0))]⟩
noncomputable def o217 : Params → Obj := fun P => ⟨(.type "tuple"), none, (Data.seq #[(.int (-1) 417)] 0), #[]⟩
noncomputable def o218 : Params → Obj := fun P => ⟨(.type "tuple"), none, (Data.seq #[(.ref 169)] 0), #[]⟩
noncomputable def o219 : Params → Obj := fun P => ⟨(.type "tuple"), none, (Data.seq #[(sv "__class__" 421)] 0), #[]⟩
noncomputable def o220 : Params → Obj := fun P => ⟨.none, none, (Data.fields #[]), #[]⟩
noncomputable def o221 : Params → Obj := fun P => ⟨(.type "tuple"), none, (Data.seq #[(sv "self" 422), (sv "what" 423), (sv "at" 424)] 0), #[]⟩
noncomputable def o222 : Params → Obj := fun P => ⟨(.type "tuple"), none, (Data.seq #[] 0), #[]⟩
noncomputable def o223 : Params → Obj := fun P => ⟨.none, none, (fd "ShapeError.__init__" (nth (cb (st 14)) 0) rfl 0 [] .none .none .none .none none .none .none 0), #[]⟩
noncomputable def o224 : Params → Obj := fun P => ⟨(.type "code"), none, (Data.fields #[(sv "__init__" 418), (sv "ShapeError.__init__" 419), (sv "/claim/cut.py" 420), (.int 90 0), (.int 3 0), (.int 0 0), (.int 0 0), (.int 3 0), (.ref 176), (.bool Bool.true), (.int 181 0), (.ref 177), .none, (.ref 178), (.ref 179), (.ref 180), (.int 425 0), (.int 90 0), (sv "/claim/cut.py" 426)]), #[]⟩
noncomputable def o225 : Params → Obj := fun P => ⟨(.type "function"), none, (fd "ShapeError.__init__" (nth (cb (st 14)) 0) rfl 3 [(Prod.mk (Str.ofString "__class__") 169)] (.ref 174) .none .none (sv "joinedhand.errors" 402) none (.ref 181) (.ref 175) 0), #[]⟩
noncomputable def o226 : Params → Obj := fun P => ⟨(.type "tuple"), none, (Data.seq #[] 0), #[]⟩
noncomputable def o227 : Params → Obj := fun P => ⟨.none, none, (Data.fields #[]), #[]⟩
noncomputable def o228 : Params → Obj := fun P => ⟨(.type "tuple"), none, (Data.seq #[(sv "self" 431)] 0), #[]⟩
noncomputable def o229 : Params → Obj := fun P => ⟨(.type "tuple"), none, (Data.seq #[] 0), #[]⟩
noncomputable def o230 : Params → Obj := fun P => ⟨.none, none, (fd "ShapeError.told" (nth (cb (st 14)) 1) rfl 0 [] .none .none .none .none none .none .none 0), #[]⟩
noncomputable def o231 : Params → Obj := fun P => ⟨(.type "code"), none, (Data.fields #[(sv "told" 428), (sv "ShapeError.told" 429), (sv "/claim/cut.py" 430), (.int 95 0), (.int 1 0), (.int 0 0), (.int 0 0), (.int 3 0), (.ref 183), (.bool Bool.true), (.int 181 0), (.ref 184), .none, (.ref 185), (.ref 186), (.ref 187), (.int 432 0), (.int 95 0), (sv "/claim/cut.py" 433)]), #[]⟩
noncomputable def o232 : Params → Obj := fun P => ⟨(.type "function"), none, (fd "ShapeError.told" (nth (cb (st 14)) 1) rfl 3 [] .none .none .none (sv "joinedhand.errors" 402) none (.ref 188) .none 0), #[]⟩
noncomputable def o233 : Params → Obj := fun P => ⟨(.type "tuple"), none, (Data.seq #[(sv "at" 435), (sv "what" 436)] 0), #[]⟩
noncomputable def o234 : Params → Obj := fun P => ⟨(.type "dict"), none, (Data.dict #[de P "__module__" 411 (sv "joinedhand.errors" 402), de P "__firstlineno__" 415 (.int 88 414), de P "__init__" 427 (.ref 182), de P "told" 434 (.ref 189), de P "__static_attributes__" 437 (.ref 190), de P "__weakref__" 440 (.ref 193), de P "__doc__" 441 .none] 4), #[]⟩
noncomputable def o235 : Params → Obj := fun P => ⟨(.type "type"), none, (Data.cls (ClassData.mk (Str.ofString "ShapeError") [(.type "Exception")] [(.ref 192), (.type "Exception"), (.type "BaseException"), (.type "object")] 191 (Str.ofString "ShapeError") Bool.true [] [] Bool.false none Bool.false)), #[(some (.ref 166)), none, (some (sv "ShapeError" 404)), (some (sv "ShapeError" 412)), (some (.builtin "Exception.__new__")), (some (.bool Bool.true))]⟩
noncomputable def o236 : Params → Obj := fun P => ⟨(.type "getset_descriptor"), none, (Data.fields #[(sv "__weakref__" 439), (.ref 192), (.builtin "ExceptionGroup.__weakref__"), .none]), #[]⟩
noncomputable def o237 : Params → Obj := fun P => ⟨(.type "super"), none, (Data.fields #[(.ref 192), (.ref 192), (.ref 192)]), #[]⟩
noncomputable def o238 : Params → Obj := fun P => ⟨(.type "builtin_function_or_method"), none, (Data.fields #[(.builtin "object.__init_subclass__"), (.ref 192)]), #[]⟩
noncomputable def o239 : Params → Obj := fun P => ⟨(.type "dict"), none, (Data.dict #[de P "__name__" 165 (sv "joinedhand.builder" 462), de P "__doc__" 166 .none, de P "__package__" 167 .none, de P "__loader__" 168 (.builtin "__main__.__loader__#opaque"), de P "__spec__" 169 .none, de P "__annotations__" 170 (.ref 6), de P "__builtins__" 171 (.ref 4), de P "__file__" 173 (sv "/claim/cut.py" 172), de P "__cached__" 174 .none, de P "_wall" 193 (.ref 21), de P "Coverage" 250 (.ref 59), de P "coverage_of" 259 (.ref 70), de P "BY_GLYPHS" 263 (.int 1 262), de P "BY_CLASSES" 265 (.int 2 264), de P "BY_COVERAGES" 267 (.int 3 266), de P "Rule" 316 (.ref 101), de P "Contexts" 377 (.ref 144), de P "tests_of" 383 (.ref 153), de P "rule_tests" 395 (.ref 160), de P "rules_at" 401 (.ref 165), de P "ShapeError" 445 (.ref 192), de P "RuleFault" 461 (.ref 205), de P "glyph_of_name" 471 (.ref 214), de P "glyphs_of_names" 477 (.ref 219), de P "is_of_glyphs" 483 (.ref 224), de P "actions_of" 494 (.ref 231), de P "glyph_rule" 500 (.ref 236), de P "cover_rule" 506 (.ref 241)] 28), #[]⟩
noncomputable def o240 : Params → Obj := fun P => ⟨.none, none, (Data.fields #[(.int 1 0), (.int 0 0), (.ref 20), (.int 5 0), (.int 0 0), (.ref 27), (.int 28 0), (.int 0 0), (.ref 69), (.int 37 0), (.int 0 0), (.ref 76), (.int 50 0), (.int 0 0), (.ref 111), (.int 71 0), (.int 0 0), (.ref 152), (.int 75 0), (.int 0 0), (.ref 159), (.int 79 0), (.int 0 0), (.ref 164), (.int 88 0), (.int 0 0), (.ref 172), (.int 97 0), (.int 0 0), (.ref 201), (.int 100 0), (.int 0 0), (.ref 213), (.int 104 0), (.int 0 0), (.ref 218), (.int 106 0), (.int 0 0), (.ref 223), (.int 108 0), (.int 0 0), (.ref 230), (.int 115 0), (.int 0 0), (.ref 235), (.int 118 0), (.int 0 0), (.ref 240)]), #[]⟩
noncomputable def o241 : Params → Obj := fun P => ⟨(.type "type"), none, (Data.cls (ClassData.mk (Str.ofString "ShapeError") [(.type "Exception")] [(.ref 192), (.type "Exception"), (.type "BaseException"), (.type "object")] 191 (Str.ofString "ShapeError") Bool.true [] [(.ref 205)] Bool.false none Bool.false)), #[(some (.ref 166)), none, (some (sv "ShapeError" 404)), (some (sv "ShapeError" 412)), (some (.builtin "Exception.__new__")), (some (.bool Bool.true))]⟩
noncomputable def o242 : Params → Obj := fun P => ⟨(.type "tuple"), none, (Data.seq #[(.ref 192)] 0), #[]⟩
noncomputable def o243 : Params → Obj := fun P => ⟨(.type "builtin_function_or_method"), none, (Data.fields #[(.builtin "type.__prepare__"), (.type "type")]), #[]⟩
noncomputable def o244 : Params → Obj := fun P => ⟨(.type "dict"), none, (Data.dict #[de P "__module__" 453 (sv "joinedhand.errors" 402), de P "__qualname__" 455 (sv "RuleFault" 454), de P "__firstlineno__" 457 (.int 97 456), de P "__static_attributes__" 458 (.ref 203)] 4), #[]⟩
noncomputable def o245 : Params → Obj := fun P => ⟨(.type "tuple"), none, (Data.seq #[] 0), #[]⟩
noncomputable def o246 : Params → Obj := fun P => ⟨.none, none, (Data.fields #[]), #[]⟩
noncomputable def o247 : Params → Obj := fun P => ⟨(.type "code"), none, (Data.fields #[(sv "RuleFault" 448), (sv "RuleFault" 449), (sv "/claim/cut.py" 450), (.int 97 0), (.int 0 0), (.int 0 0), (.int 0 0), (.int 0 0), (.ref 199), (.bool Bool.false), (.int 181 0), (.ref 200), .none, .none, .none, .none, (.int 451 0), (.int 97 0), (sv "/claim/cut.py" 452)]), #[]⟩
noncomputable def o248 : Params → Obj := fun P => ⟨(.type "frame"), none, Data.plain, #[(some (.ref 201)), (some (.ref 3)), (some (.ref 198)), none, (some (sv "joinedhand.errors" 402)), none, (some (.ref 0))]⟩
noncomputable def o249 : Params → Obj := fun P => ⟨(.type "tuple"), none, (Data.seq #[] 0), #[]⟩
noncomputable def o250 : Params → Obj := fun P => ⟨(.type "dict"), none, (Data.dict #[de P "__module__" 453 (sv "joinedhand.errors" 402), de P "__firstlineno__" 457 (.int 97 456), de P "__static_attributes__" 458 (.ref 203), de P "__doc__" 459 .none] 2), #[]⟩
noncomputable def o251 : Params → Obj := fun P => ⟨(.type "type"), none, (Data.cls (ClassData.mk (Str.ofString "RuleFault") [(.ref 192)] [(.ref 205), (.ref 192), (.type "Exception"), (.type "BaseException"), (.type "object")] 204 (Str.ofString "RuleFault") Bool.true [] [] Bool.false none Bool.false)), #[(some (.ref 196)), none, (some (sv "RuleFault" 446)), (some (sv "RuleFault" 454)), (some (.builtin "Exception.__new__")), (some (.bool Bool.true))]⟩
noncomputable def o252 : Params → Obj := fun P => ⟨(.type "super"), none, (Data.fields #[(.ref 205), (.ref 205), (.ref 205)]), #[]⟩
noncomputable def o253 : Params → Obj := fun P => ⟨(.type "builtin_function_or_method"), none, (Data.fields #[(.builtin "object.__init_subclass__"), (.ref 205)]), #[]⟩
noncomputable def o254 : Params → Obj := fun P => ⟨(.type "tuple"), none, (Data.seq #[] 0), #[]⟩
noncomputable def o255 : Params → Obj := fun P => ⟨.none, none, (Data.fields #[]), #[]⟩
noncomputable def o256 : Params → Obj := fun P => ⟨(.type "tuple"), none, (Data.seq #[(sv "names" 467), (sv "name" 468)] 0), #[]⟩
noncomputable def o257 : Params → Obj := fun P => ⟨(.type "tuple"), none, (Data.seq #[] 0), #[]⟩
noncomputable def o258 : Params → Obj := fun P => ⟨.none, none, (fd "glyph_of_name" (st 17) rfl 0 [] .none .none .none .none none .none .none 0), #[]⟩
noncomputable def o259 : Params → Obj := fun P => ⟨(.type "code"), none, (Data.fields #[(sv "glyph_of_name" 464), (sv "glyph_of_name" 465), (sv "/claim/cut.py" 466), (.int 100 0), (.int 2 0), (.int 0 0), (.int 0 0), (.int 3 0), (.ref 208), (.bool Bool.true), (.int 181 0), (.ref 209), .none, (.ref 210), (.ref 211), (.ref 212), (.int 469 0), (.int 100 0), (sv "/claim/cut.py" 470)]), #[]⟩
noncomputable def o260 : Params → Obj := fun P => ⟨(.type "function"), none, (fd "glyph_of_name" (st 17) rfl 3 [] .none .none .none (sv "joinedhand.builder" 462) none (.ref 213) .none 0), #[]⟩
noncomputable def o261 : Params → Obj := fun P => ⟨(.type "tuple"), none, (Data.seq #[] 0), #[]⟩
noncomputable def o262 : Params → Obj := fun P => ⟨.none, none, (Data.fields #[]), #[]⟩
noncomputable def o263 : Params → Obj := fun P => ⟨.none, none, (fd "glyphs_of_names" (st 18) rfl 0 [] .none .none .none .none none .none .none 0), #[]⟩
noncomputable def o264 : Params → Obj := fun P => ⟨(.type "code"), none, (Data.fields #[(sv "glyphs_of_names" 472), (sv "glyphs_of_names" 473), (sv "/claim/cut.py" 474), (.int 104 0), (.int 2 0), (.int 0 0), (.int 0 0), (.int 3 0), (.ref 215), (.bool Bool.true), (.int 181 0), (.ref 216), .none, .none, .none, (.ref 217), (.int 475 0), (.int 104 0), (sv "/claim/cut.py" 476)]), #[]⟩
noncomputable def o265 : Params → Obj := fun P => ⟨(.type "function"), none, (fd "glyphs_of_names" (st 18) rfl 3 [] .none .none .none (sv "joinedhand.builder" 462) none (.ref 218) .none 0), #[]⟩
noncomputable def o266 : Params → Obj := fun P => ⟨(.type "tuple"), none, (Data.seq #[] 0), #[]⟩
noncomputable def o267 : Params → Obj := fun P => ⟨.none, none, (Data.fields #[]), #[]⟩
noncomputable def o268 : Params → Obj := fun P => ⟨.none, none, (fd "is_of_glyphs" (st 19) rfl 0 [] .none .none .none .none none .none .none 0), #[]⟩
noncomputable def o269 : Params → Obj := fun P => ⟨(.type "code"), none, (Data.fields #[(sv "is_of_glyphs" 478), (sv "is_of_glyphs" 479), (sv "/claim/cut.py" 480), (.int 106 0), (.int 1 0), (.int 0 0), (.int 0 0), (.int 3 0), (.ref 220), (.bool Bool.true), (.int 181 0), (.ref 221), .none, .none, .none, (.ref 222), (.int 481 0), (.int 106 0), (sv "/claim/cut.py" 482)]), #[]⟩
noncomputable def o270 : Params → Obj := fun P => ⟨(.type "function"), none, (fd "is_of_glyphs" (st 19) rfl 3 [] .none .none .none (sv "joinedhand.builder" 462) none (.ref 223) .none 0), #[]⟩
noncomputable def o271 : Params → Obj := fun P => ⟨(.type "tuple"), none, (Data.seq #[] 0), #[]⟩
noncomputable def o272 : Params → Obj := fun P => ⟨.none, none, (Data.fields #[]), #[]⟩
noncomputable def o273 : Params → Obj := fun P => ⟨(.type "tuple"), none, (Data.seq #[(sv "row" 487), (sv "numbers" 488), (sv "found" 489), (sv "index" 490), (sv "name" 491)] 0), #[]⟩
noncomputable def o274 : Params → Obj := fun P => ⟨(.type "tuple"), none, (Data.seq #[] 0), #[]⟩
noncomputable def o275 : Params → Obj := fun P => ⟨.none, none, (fd "actions_of" (st 20) rfl 0 [] .none .none .none .none none .none .none 0), #[]⟩
noncomputable def o276 : Params → Obj := fun P => ⟨(.type "code"), none, (Data.fields #[(sv "actions_of" 484), (sv "actions_of" 485), (sv "/claim/cut.py" 486), (.int 108 0), (.int 2 0), (.int 0 0), (.int 0 0), (.int 3 0), (.ref 225), (.bool Bool.true), (.int 181 0), (.ref 226), .none, (.ref 227), (.ref 228), (.ref 229), (.int 492 0), (.int 108 0), (sv "/claim/cut.py" 493)]), #[]⟩
noncomputable def o277 : Params → Obj := fun P => ⟨(.type "function"), none, (fd "actions_of" (st 20) rfl 3 [] .none .none .none (sv "joinedhand.builder" 462) none (.ref 230) .none 0), #[]⟩
noncomputable def o278 : Params → Obj := fun P => ⟨(.type "tuple"), none, (Data.seq #[] 0), #[]⟩
noncomputable def o279 : Params → Obj := fun P => ⟨.none, none, (Data.fields #[]), #[]⟩
noncomputable def o280 : Params → Obj := fun P => ⟨.none, none, (fd "glyph_rule" (st 21) rfl 0 [] .none .none .none .none none .none .none 0), #[]⟩
noncomputable def o281 : Params → Obj := fun P => ⟨(.type "code"), none, (Data.fields #[(sv "glyph_rule" 495), (sv "glyph_rule" 496), (sv "/claim/cut.py" 497), (.int 115 0), (.int 3 0), (.int 0 0), (.int 0 0), (.int 3 0), (.ref 232), (.bool Bool.true), (.int 181 0), (.ref 233), .none, .none, .none, (.ref 234), (.int 498 0), (.int 115 0), (sv "/claim/cut.py" 499)]), #[]⟩
noncomputable def o282 : Params → Obj := fun P => ⟨(.type "function"), none, (fd "glyph_rule" (st 21) rfl 3 [] .none .none .none (sv "joinedhand.builder" 462) none (.ref 235) .none 0), #[]⟩
noncomputable def o283 : Params → Obj := fun P => ⟨(.type "tuple"), none, (Data.seq #[] 0), #[]⟩
noncomputable def o284 : Params → Obj := fun P => ⟨.none, none, (Data.fields #[]), #[]⟩
noncomputable def o285 : Params → Obj := fun P => ⟨.none, none, (fd "cover_rule" (st 22) rfl 0 [] .none .none .none .none none .none .none 0), #[]⟩
noncomputable def o286 : Params → Obj := fun P => ⟨(.type "code"), none, (Data.fields #[(sv "cover_rule" 501), (sv "cover_rule" 502), (sv "/claim/cut.py" 503), (.int 118 0), (.int 3 0), (.int 0 0), (.int 0 0), (.int 3 0), (.ref 237), (.bool Bool.true), (.int 181 0), (.ref 238), .none, .none, .none, (.ref 239), (.int 504 0), (.int 118 0), (sv "/claim/cut.py" 505)]), #[]⟩
noncomputable def o287 : Params → Obj := fun P => ⟨(.type "function"), none, (fd "cover_rule" (st 22) rfl 3 [] .none .none .none (sv "joinedhand.builder" 462) none (.ref 240) .none 0), #[]⟩
noncomputable def o288 : Params → Obj := fun P => ⟨(.type "dict"), none, (Data.dict #[de P "__name__" 165 (sv "joinedhand.rules" 541), de P "__doc__" 166 .none, de P "__package__" 167 .none, de P "__loader__" 168 (.builtin "__main__.__loader__#opaque"), de P "__spec__" 169 .none, de P "__annotations__" 170 (.ref 6), de P "__builtins__" 171 (.ref 4), de P "__file__" 173 (sv "/claim/cut.py" 172), de P "__cached__" 174 .none, de P "_wall" 193 (.ref 21), de P "Coverage" 250 (.ref 59), de P "coverage_of" 259 (.ref 70), de P "BY_GLYPHS" 263 (.int 1 262), de P "BY_CLASSES" 265 (.int 2 264), de P "BY_COVERAGES" 267 (.int 3 266), de P "Rule" 316 (.ref 101), de P "Contexts" 377 (.ref 144), de P "tests_of" 383 (.ref 153), de P "rule_tests" 395 (.ref 160), de P "rules_at" 401 (.ref 165), de P "ShapeError" 445 (.ref 192), de P "RuleFault" 461 (.ref 205), de P "glyph_of_name" 471 (.ref 214), de P "glyphs_of_names" 477 (.ref 219), de P "is_of_glyphs" 483 (.ref 224), de P "actions_of" 494 (.ref 231), de P "glyph_rule" 500 (.ref 236), de P "cover_rule" 506 (.ref 241), de P "glyphs_chain" 518 (.ref 248), de P "chain_tables" 530 (.ref 255), de P "fits" 540 (.ref 262)] 31), #[]⟩
noncomputable def o289 : Params → Obj := fun P => ⟨.none, none, (Data.fields #[(.int 1 0), (.int 0 0), (.ref 20), (.int 5 0), (.int 0 0), (.ref 27), (.int 28 0), (.int 0 0), (.ref 69), (.int 37 0), (.int 0 0), (.ref 76), (.int 50 0), (.int 0 0), (.ref 111), (.int 71 0), (.int 0 0), (.ref 152), (.int 75 0), (.int 0 0), (.ref 159), (.int 79 0), (.int 0 0), (.ref 164), (.int 88 0), (.int 0 0), (.ref 172), (.int 97 0), (.int 0 0), (.ref 201), (.int 100 0), (.int 0 0), (.ref 213), (.int 104 0), (.int 0 0), (.ref 218), (.int 106 0), (.int 0 0), (.ref 223), (.int 108 0), (.int 0 0), (.ref 230), (.int 115 0), (.int 0 0), (.ref 235), (.int 118 0), (.int 0 0), (.ref 240), (.int 121 0), (.int 0 0), (.ref 247), (.int 129 0), (.int 0 0), (.ref 254), (.int 144 0), (.int 0 0), (.ref 261)]), #[]⟩
noncomputable def o290 : Params → Obj := fun P => ⟨(.type "tuple"), none, (Data.seq #[] 0), #[]⟩
noncomputable def o291 : Params → Obj := fun P => ⟨.none, none, (Data.fields #[]), #[]⟩
noncomputable def o292 : Params → Obj := fun P => ⟨(.type "tuple"), none, (Data.seq #[(sv "rows" 510), (sv "names" 511), (sv "numbers" 512), (sv "sets" 513), (sv "row" 514), (sv "rule" 515)] 0), #[]⟩
noncomputable def o293 : Params → Obj := fun P => ⟨(.type "tuple"), none, (Data.seq #[] 0), #[]⟩
noncomputable def o294 : Params → Obj := fun P => ⟨.none, none, (fd "glyphs_chain" (st 23) rfl 0 [] .none .none .none .none none .none .none 0), #[]⟩
noncomputable def o295 : Params → Obj := fun P => ⟨(.type "code"), none, (Data.fields #[(sv "glyphs_chain" 507), (sv "glyphs_chain" 508), (sv "/claim/cut.py" 509), (.int 121 0), (.int 3 0), (.int 0 0), (.int 0 0), (.int 3 0), (.ref 242), (.bool Bool.true), (.int 181 0), (.ref 243), .none, (.ref 244), (.ref 245), (.ref 246), (.int 516 0), (.int 121 0), (sv "/claim/cut.py" 517)]), #[]⟩
noncomputable def o296 : Params → Obj := fun P => ⟨(.type "function"), none, (fd "glyphs_chain" (st 23) rfl 3 [] .none .none .none (sv "joinedhand.builder" 462) none (.ref 247) .none 0), #[]⟩
noncomputable def o297 : Params → Obj := fun P => ⟨(.type "tuple"), none, (Data.seq #[] 0), #[]⟩
noncomputable def o298 : Params → Obj := fun P => ⟨.none, none, (Data.fields #[]), #[]⟩
noncomputable def o299 : Params → Obj := fun P => ⟨(.type "tuple"), none, (Data.seq #[(sv "rows" 522), (sv "names" 523), (sv "numbers" 524), (sv "found" 525), (sv "plain" 526), (sv "row" 527)] 0), #[]⟩
noncomputable def o300 : Params → Obj := fun P => ⟨(.type "tuple"), none, (Data.seq #[] 0), #[]⟩
noncomputable def o301 : Params → Obj := fun P => ⟨.none, none, (fd "chain_tables" (st 24) rfl 0 [] .none .none .none .none none .none .none 0), #[]⟩
noncomputable def o302 : Params → Obj := fun P => ⟨(.type "code"), none, (Data.fields #[(sv "chain_tables" 519), (sv "chain_tables" 520), (sv "/claim/cut.py" 521), (.int 129 0), (.int 3 0), (.int 0 0), (.int 0 0), (.int 3 0), (.ref 249), (.bool Bool.true), (.int 181 0), (.ref 250), .none, (.ref 251), (.ref 252), (.ref 253), (.int 528 0), (.int 129 0), (sv "/claim/cut.py" 529)]), #[]⟩
noncomputable def o303 : Params → Obj := fun P => ⟨(.type "function"), none, (fd "chain_tables" (st 24) rfl 3 [] .none .none .none (sv "joinedhand.builder" 462) none (.ref 254) .none 0), #[]⟩
noncomputable def o304 : Params → Obj := fun P => ⟨(.type "tuple"), none, (Data.seq #[] 0), #[]⟩
noncomputable def o305 : Params → Obj := fun P => ⟨.none, none, (Data.fields #[]), #[]⟩
noncomputable def o306 : Params → Obj := fun P => ⟨(.type "tuple"), none, (Data.seq #[(sv "test" 536), (sv "glyph" 537)] 0), #[]⟩
noncomputable def o307 : Params → Obj := fun P => ⟨(.type "tuple"), none, (Data.seq #[] 0), #[]⟩
noncomputable def o308 : Params → Obj := fun P => ⟨.none, none, (fd "fits" (st 26) rfl 0 [] .none .none .none .none none .none .none 0), #[]⟩
noncomputable def o309 : Params → Obj := fun P => ⟨(.type "code"), none, (Data.fields #[(sv "fits" 533), (sv "fits" 534), (sv "/claim/cut.py" 535), (.int 144 0), (.int 2 0), (.int 0 0), (.int 0 0), (.int 3 0), (.ref 256), (.bool Bool.true), (.int 181 0), (.ref 257), .none, (.ref 258), (.ref 259), (.ref 260), (.int 538 0), (.int 144 0), (sv "/claim/cut.py" 539)]), #[]⟩
noncomputable def o310 : Params → Obj := fun P => ⟨(.type "function"), none, (fd "fits" (st 26) rfl 3 [] .none .none .none (sv "joinedhand.matching" 531) none (.ref 261) .none 0), #[]⟩
noncomputable def o311 : Params → Obj := fun P => ⟨(.type "dict"), none, (Data.dict #[de P "__name__" 165 (sv "law_pb0185_01" 595), de P "__doc__" 166 .none, de P "__package__" 167 .none, de P "__loader__" 168 (.builtin "__main__.__loader__#opaque"), de P "__spec__" 169 .none, de P "__annotations__" 170 (.ref 6), de P "__builtins__" 171 (.ref 4), de P "__file__" 173 (sv "/claim/cut.py" 172), de P "__cached__" 174 .none, de P "_wall" 193 (.ref 21), de P "Coverage" 250 (.ref 59), de P "coverage_of" 259 (.ref 70), de P "BY_GLYPHS" 263 (.int 1 262), de P "BY_CLASSES" 265 (.int 2 264), de P "BY_COVERAGES" 267 (.int 3 266), de P "Rule" 316 (.ref 101), de P "Contexts" 377 (.ref 144), de P "tests_of" 383 (.ref 153), de P "rule_tests" 395 (.ref 160), de P "rules_at" 401 (.ref 165), de P "ShapeError" 445 (.ref 192), de P "RuleFault" 461 (.ref 205), de P "glyph_of_name" 471 (.ref 214), de P "glyphs_of_names" 477 (.ref 219), de P "is_of_glyphs" 483 (.ref 224), de P "actions_of" 494 (.ref 231), de P "glyph_rule" 500 (.ref 236), de P "cover_rule" 506 (.ref 241), de P "glyphs_chain" 518 (.ref 248), de P "chain_tables" 530 (.ref 255), de P "fits" 540 (.ref 262), de P "RuleRow" 594 (.ref 300), de P "_law_draw" 605 (.ref 311)] 33), #[]⟩
noncomputable def o312 : Params → Obj := fun P => ⟨.none, none, (Data.fields #[(.int 1 0), (.int 0 0), (.ref 20), (.int 5 0), (.int 0 0), (.ref 27), (.int 28 0), (.int 0 0), (.ref 69), (.int 37 0), (.int 0 0), (.ref 76), (.int 50 0), (.int 0 0), (.ref 111), (.int 71 0), (.int 0 0), (.ref 152), (.int 75 0), (.int 0 0), (.ref 159), (.int 79 0), (.int 0 0), (.ref 164), (.int 88 0), (.int 0 0), (.ref 172), (.int 97 0), (.int 0 0), (.ref 201), (.int 100 0), (.int 0 0), (.ref 213), (.int 104 0), (.int 0 0), (.ref 218), (.int 106 0), (.int 0 0), (.ref 223), (.int 108 0), (.int 0 0), (.ref 230), (.int 115 0), (.int 0 0), (.ref 235), (.int 118 0), (.int 0 0), (.ref 240), (.int 121 0), (.int 0 0), (.ref 247), (.int 129 0), (.int 0 0), (.ref 254), (.int 144 0), (.int 0 0), (.ref 261), (.int 151 0), (.int 0 0), (.ref 268), (.int 168 0), (.int 0 0), (.ref 310)]), #[]⟩
noncomputable def o313 : Params → Obj := fun P => ⟨(.type "tuple"), none, (Data.seq #[] 0), #[]⟩
noncomputable def o314 : Params → Obj := fun P => ⟨(.type "builtin_function_or_method"), none, (Data.fields #[(.builtin "type.__prepare__"), (.type "type")]), #[]⟩
noncomputable def o315 : Params → Obj := fun P => ⟨(.type "dict"), none, (Data.dict #[de P "__module__" 550 (sv "joinedhand.rules" 541), de P "__qualname__" 552 (sv "RuleRow" 551), de P "__firstlineno__" 554 (.int 151 553), de P "__init__" 563 (.ref 276), de P "told" 570 (.ref 283), de P "word" 577 (.ref 290), de P "left" 584 (.ref 297), de P "__static_attributes__" 587 (.ref 298)] 8), #[]⟩
noncomputable def o316 : Params → Obj := fun P => ⟨(.type "tuple"), none, (Data.seq #[] 0), #[]⟩
noncomputable def o317 : Params → Obj := fun P => ⟨.none, none, (Data.fields #[(.int 153 0), (.int 4 0), (.ref 275), (.int 157 0), (.int 4 0), (.ref 282), (.int 160 0), (.int 4 0), (.ref 289), (.int 165 0), (.int 4 0), (.ref 296)]), #[]⟩
noncomputable def o318 : Params → Obj := fun P => ⟨(.type "code"), none, (Data.fields #[(sv "RuleRow" 545), (sv "RuleRow" 546), (sv "/claim/cut.py" 547), (.int 151 0), (.int 0 0), (.int 0 0), (.int 0 0), (.int 0 0), (.ref 266), (.bool Bool.false), (.int 181 0), (.ref 267), .none, .none, .none, .none, (.int 548 0), (.int 151 0), (sv "/claim/cut.py" 549)]), #[]⟩
noncomputable def o319 : Params → Obj := fun P => ⟨(.type "frame"), none, Data.plain, #[(some (.ref 268)), (some (.ref 3)), (some (.ref 265)), none, (some (sv "joinedhand.rules" 541)), none, (some (.ref 0))]⟩
noncomputable def o320 : Params → Obj := fun P => ⟨(.type "tuple"), none, (Data.seq #[] 0), #[]⟩
noncomputable def o321 : Params → Obj := fun P => ⟨.none, none, (Data.fields #[]), #[]⟩
noncomputable def o322 : Params → Obj := fun P => ⟨(.type "tuple"), none, (Data.seq #[(sv "self" 558), (sv "kind" 559), (sv "parts" 560)] 0), #[]⟩
noncomputable def o323 : Params → Obj := fun P => ⟨(.type "tuple"), none, (Data.seq #[] 0), #[]⟩
noncomputable def o324 : Params → Obj := fun P => ⟨.none, none, (fd "RuleRow.__init__" (nth (cb (st 28)) 0) rfl 0 [] .none .none .none .none none .none .none 0), #[]⟩
noncomputable def o325 : Params → Obj := fun P => ⟨(.type "code"), none, (Data.fields #[(sv "__init__" 555), (sv "RuleRow.__init__" 556), (sv "/claim/cut.py" 557), (.int 153 0), (.int 3 0), (.int 0 0), (.int 0 0), (.int 3 0), (.ref 270), (.bool Bool.true), (.int 181 0), (.ref 271), .none, (.ref 272), (.ref 273), (.ref 274), (.int 561 0), (.int 153 0), (sv "/claim/cut.py" 562)]), #[]⟩
noncomputable def o326 : Params → Obj := fun P => ⟨(.type "function"), none, (fd "RuleRow.__init__" (nth (cb (st 28)) 0) rfl 3 [] .none .none .none (sv "joinedhand.rules" 541) none (.ref 275) .none 0), #[]⟩
noncomputable def o327 : Params → Obj := fun P => ⟨(.type "tuple"), none, (Data.seq #[] 0), #[]⟩
noncomputable def o328 : Params → Obj := fun P => ⟨.none, none, (Data.fields #[]), #[]⟩
noncomputable def o329 : Params → Obj := fun P => ⟨(.type "tuple"), none, (Data.seq #[(sv "self" 567)] 0), #[]⟩
noncomputable def o330 : Params → Obj := fun P => ⟨(.type "tuple"), none, (Data.seq #[] 0), #[]⟩
noncomputable def o331 : Params → Obj := fun P => ⟨.none, none, (fd "RuleRow.told" (nth (cb (st 28)) 1) rfl 0 [] .none .none .none .none none .none .none 0), #[]⟩
noncomputable def o332 : Params → Obj := fun P => ⟨(.type "code"), none, (Data.fields #[(sv "told" 564), (sv "RuleRow.told" 565), (sv "/claim/cut.py" 566), (.int 157 0), (.int 1 0), (.int 0 0), (.int 0 0), (.int 3 0), (.ref 277), (.bool Bool.true), (.int 181 0), (.ref 278), .none, (.ref 279), (.ref 280), (.ref 281), (.int 568 0), (.int 157 0), (sv "/claim/cut.py" 569)]), #[]⟩
noncomputable def o333 : Params → Obj := fun P => ⟨(.type "function"), none, (fd "RuleRow.told" (nth (cb (st 28)) 1) rfl 3 [] .none .none .none (sv "joinedhand.rules" 541) none (.ref 282) .none 0), #[]⟩
noncomputable def o334 : Params → Obj := fun P => ⟨(.type "tuple"), none, (Data.seq #[] 0), #[]⟩
noncomputable def o335 : Params → Obj := fun P => ⟨.none, none, (Data.fields #[]), #[]⟩
noncomputable def o336 : Params → Obj := fun P => ⟨(.type "tuple"), none, (Data.seq #[(sv "self" 574)] 0), #[]⟩
noncomputable def o337 : Params → Obj := fun P => ⟨(.type "tuple"), none, (Data.seq #[] 0), #[]⟩
noncomputable def o338 : Params → Obj := fun P => ⟨.none, none, (fd "RuleRow.word" (nth (cb (st 28)) 2) rfl 0 [] .none .none .none .none none .none .none 0), #[]⟩
noncomputable def o339 : Params → Obj := fun P => ⟨(.type "code"), none, (Data.fields #[(sv "word" 571), (sv "RuleRow.word" 572), (sv "/claim/cut.py" 573), (.int 160 0), (.int 1 0), (.int 0 0), (.int 0 0), (.int 3 0), (.ref 284), (.bool Bool.true), (.int 181 0), (.ref 285), .none, (.ref 286), (.ref 287), (.ref 288), (.int 575 0), (.int 160 0), (sv "/claim/cut.py" 576)]), #[]⟩
noncomputable def o340 : Params → Obj := fun P => ⟨(.type "function"), none, (fd "RuleRow.word" (nth (cb (st 28)) 2) rfl 3 [] .none .none .none (sv "joinedhand.rules" 541) none (.ref 289) .none 0), #[]⟩
noncomputable def o341 : Params → Obj := fun P => ⟨(.type "tuple"), none, (Data.seq #[] 0), #[]⟩
noncomputable def o342 : Params → Obj := fun P => ⟨.none, none, (Data.fields #[]), #[]⟩
noncomputable def o343 : Params → Obj := fun P => ⟨(.type "tuple"), none, (Data.seq #[(sv "self" 581)] 0), #[]⟩
noncomputable def o344 : Params → Obj := fun P => ⟨(.type "tuple"), none, (Data.seq #[] 0), #[]⟩
noncomputable def o345 : Params → Obj := fun P => ⟨.none, none, (fd "RuleRow.left" (nth (cb (st 28)) 3) rfl 0 [] .none .none .none .none none .none .none 0), #[]⟩
noncomputable def o346 : Params → Obj := fun P => ⟨(.type "code"), none, (Data.fields #[(sv "left" 578), (sv "RuleRow.left" 579), (sv "/claim/cut.py" 580), (.int 165 0), (.int 1 0), (.int 0 0), (.int 0 0), (.int 3 0), (.ref 291), (.bool Bool.true), (.int 181 0), (.ref 292), .none, (.ref 293), (.ref 294), (.ref 295), (.int 582 0), (.int 165 0), (sv "/claim/cut.py" 583)]), #[]⟩
noncomputable def o347 : Params → Obj := fun P => ⟨(.type "function"), none, (fd "RuleRow.left" (nth (cb (st 28)) 3) rfl 3 [] .none .none .none (sv "joinedhand.rules" 541) none (.ref 296) .none 0), #[]⟩
noncomputable def o348 : Params → Obj := fun P => ⟨(.type "tuple"), none, (Data.seq #[(sv "kind" 585), (sv "parts" 586)] 0), #[]⟩
noncomputable def o349 : Params → Obj := fun P => ⟨(.type "dict"), none, (Data.dict #[de P "__module__" 550 (sv "joinedhand.rules" 541), de P "__firstlineno__" 554 (.int 151 553), de P "__init__" 563 (.ref 276), de P "told" 570 (.ref 283), de P "word" 577 (.ref 290), de P "left" 584 (.ref 297), de P "__static_attributes__" 587 (.ref 298), de P "__dict__" 589 (.ref 301), de P "__weakref__" 591 (.ref 302), de P "__doc__" 592 .none] 4), #[]⟩
noncomputable def o350 : Params → Obj := fun P => ⟨(.type "type"), none, (Data.cls (ClassData.mk (Str.ofString "RuleRow") [(.type "object")] [(.ref 300), (.type "object")] 299 (Str.ofString "RuleRow") Bool.true [] [] Bool.false none Bool.false)), #[none, none, (some (sv "RuleRow" 543)), (some (sv "RuleRow" 551)), (some (.builtin "object.__new__")), (some (.bool Bool.true))]⟩
noncomputable def o351 : Params → Obj := fun P => ⟨(.type "getset_descriptor"), none, (Data.fields #[(sv "__dict__" 588), (.ref 300), (.builtin "function.__dict__"), (.builtin "function.__dict__#set")]), #[]⟩
noncomputable def o352 : Params → Obj := fun P => ⟨(.type "getset_descriptor"), none, (Data.fields #[(sv "__weakref__" 590), (.ref 300), (.builtin "ExceptionGroup.__weakref__"), .none]), #[]⟩
noncomputable def o353 : Params → Obj := fun P => ⟨(.type "super"), none, (Data.fields #[(.ref 300), (.ref 300), (.ref 300)]), #[]⟩
noncomputable def o354 : Params → Obj := fun P => ⟨(.type "builtin_function_or_method"), none, (Data.fields #[(.builtin "object.__init_subclass__"), (.ref 300)]), #[]⟩
noncomputable def o355 : Params → Obj := fun P => ⟨(.type "tuple"), none, (Data.seq #[] 0), #[]⟩
noncomputable def o356 : Params → Obj := fun P => ⟨.none, none, (Data.fields #[]), #[]⟩
noncomputable def o357 : Params → Obj := fun P => ⟨(.type "tuple"), none, (Data.seq #[(sv "pen" 600), (sv "many" 601), (sv "spot" 602)] 0), #[]⟩
noncomputable def o358 : Params → Obj := fun P => ⟨(.type "tuple"), none, (Data.seq #[] 0), #[]⟩
noncomputable def o359 : Params → Obj := fun P => ⟨.none, none, (fd "_law_draw" (st 30) rfl 0 [] .none .none .none .none none .none .none 0), #[]⟩
noncomputable def o360 : Params → Obj := fun P => ⟨(.type "code"), none, (Data.fields #[(sv "_law_draw" 597), (sv "_law_draw" 598), (sv "/claim/cut.py" 599), (.int 168 0), (.int 2 0), (.int 0 0), (.int 0 0), (.int 3 0), (.ref 305), (.bool Bool.true), (.int 181 0), (.ref 306), .none, (.ref 307), (.ref 308), (.ref 309), (.int 603 0), (.int 168 0), (sv "/claim/cut.py" 604)]), #[]⟩
noncomputable def o361 : Params → Obj := fun P => ⟨(.type "function"), none, (fd "_law_draw" (st 30) rfl 3 [] .none .none .none (sv "law_pb0185_01" 595) none (.ref 310) .none 0), #[]⟩
noncomputable def o362 : Params → Obj := fun P => ⟨(.type "dict"), none, (Data.dict #[de P "__name__" 165 (sv "law_pb0185_01" 595), de P "__doc__" 166 .none, de P "__package__" 167 .none, de P "__loader__" 168 (.builtin "__main__.__loader__#opaque"), de P "__spec__" 169 .none, de P "__annotations__" 170 (.ref 6), de P "__builtins__" 171 (.ref 4), de P "__file__" 173 (sv "/claim/cut.py" 172), de P "__cached__" 174 .none, de P "_wall" 193 (.ref 21), de P "Coverage" 250 (.ref 59), de P "coverage_of" 259 (.ref 70), de P "BY_GLYPHS" 263 (.int 1 262), de P "BY_CLASSES" 265 (.int 2 264), de P "BY_COVERAGES" 267 (.int 3 266), de P "Rule" 316 (.ref 101), de P "Contexts" 377 (.ref 144), de P "tests_of" 383 (.ref 153), de P "rule_tests" 395 (.ref 160), de P "rules_at" 401 (.ref 165), de P "ShapeError" 445 (.ref 192), de P "RuleFault" 461 (.ref 205), de P "glyph_of_name" 471 (.ref 214), de P "glyphs_of_names" 477 (.ref 219), de P "is_of_glyphs" 483 (.ref 224), de P "actions_of" 494 (.ref 231), de P "glyph_rule" 500 (.ref 236), de P "cover_rule" 506 (.ref 241), de P "glyphs_chain" 518 (.ref 248), de P "chain_tables" 530 (.ref 255), de P "fits" 540 (.ref 262), de P "RuleRow" 594 (.ref 300), de P "_law_draw" 605 (.ref 311), de P "_law_names" 618 (.ref 312), de P "_law_sets" 624 (.ref 317), de P "_law_fits" 630 (.ref 322), de P "_law_hit" 636 (.ref 327), de P "law" 642 (.ref 332)] 38), #[]⟩
noncomputable def o363 : Params → Obj := fun P => ⟨.none, none, (Data.fields #[(.int 1 0), (.int 0 0), (.ref 20), (.int 5 0), (.int 0 0), (.ref 27), (.int 28 0), (.int 0 0), (.ref 69), (.int 37 0), (.int 0 0), (.ref 76), (.int 50 0), (.int 0 0), (.ref 111), (.int 71 0), (.int 0 0), (.ref 152), (.int 75 0), (.int 0 0), (.ref 159), (.int 79 0), (.int 0 0), (.ref 164), (.int 88 0), (.int 0 0), (.ref 172), (.int 97 0), (.int 0 0), (.ref 201), (.int 100 0), (.int 0 0), (.ref 213), (.int 104 0), (.int 0 0), (.ref 218), (.int 106 0), (.int 0 0), (.ref 223), (.int 108 0), (.int 0 0), (.ref 230), (.int 115 0), (.int 0 0), (.ref 235), (.int 118 0), (.int 0 0), (.ref 240), (.int 121 0), (.int 0 0), (.ref 247), (.int 129 0), (.int 0 0), (.ref 254), (.int 144 0), (.int 0 0), (.ref 261), (.int 151 0), (.int 0 0), (.ref 268), (.int 168 0), (.int 0 0), (.ref 310), (.int 175 0), (.int 0 0), (.ref 316), (.int 177 0), (.int 0 0), (.ref 321), (.int 184 0), (.int 0 0), (.ref 326), (.int 190 0), (.int 0 0), (.ref 331)]), #[]⟩
noncomputable def o364 : Params → Obj := fun P => ⟨(.type "dict"), none, (Data.dict #[de P "a" 606 (.int 1 607), de P "b" 608 (.int 2 609), de P "c" 610 (.int 3 611), de P "d" 612 (.int 4 613)] 4), #[]⟩
noncomputable def o365 : Params → Obj := fun P => ⟨(.type "tuple"), none, (Data.seq #[] 0), #[]⟩
noncomputable def o366 : Params → Obj := fun P => ⟨.none, none, (Data.fields #[]), #[]⟩
noncomputable def o367 : Params → Obj := fun P => ⟨.none, none, (fd "_law_sets" (st 32) rfl 0 [] .none .none .none .none none .none .none 0), #[]⟩
noncomputable def o368 : Params → Obj := fun P => ⟨(.type "code"), none, (Data.fields #[(sv "_law_sets" 619), (sv "_law_sets" 620), (sv "/claim/cut.py" 621), (.int 175 0), (.int 2 0), (.int 0 0), (.int 0 0), (.int 3 0), (.ref 313), (.bool Bool.true), (.int 181 0), (.ref 314), .none, .none, .none, (.ref 315), (.int 622 0), (.int 175 0), (sv "/claim/cut.py" 623)]), #[]⟩
noncomputable def o369 : Params → Obj := fun P => ⟨(.type "function"), none, (fd "_law_sets" (st 32) rfl 3 [] .none .none .none (sv "law_pb0185_01" 595) none (.ref 316) .none 0), #[]⟩
noncomputable def o370 : Params → Obj := fun P => ⟨(.type "tuple"), none, (Data.seq #[] 0), #[]⟩
noncomputable def o371 : Params → Obj := fun P => ⟨.none, none, (Data.fields #[]), #[]⟩
noncomputable def o372 : Params → Obj := fun P => ⟨.none, none, (fd "_law_fits" (st 33) rfl 0 [] .none .none .none .none none .none .none 0), #[]⟩
noncomputable def o373 : Params → Obj := fun P => ⟨(.type "code"), none, (Data.fields #[(sv "_law_fits" 625), (sv "_law_fits" 626), (sv "/claim/cut.py" 627), (.int 177 0), (.int 3 0), (.int 0 0), (.int 0 0), (.int 3 0), (.ref 318), (.bool Bool.true), (.int 181 0), (.ref 319), .none, .none, .none, (.ref 320), (.int 628 0), (.int 177 0), (sv "/claim/cut.py" 629)]), #[]⟩
noncomputable def o374 : Params → Obj := fun P => ⟨(.type "function"), none, (fd "_law_fits" (st 33) rfl 3 [] .none .none .none (sv "law_pb0185_01" 595) none (.ref 321) .none 0), #[]⟩
noncomputable def o375 : Params → Obj := fun P => ⟨(.type "tuple"), none, (Data.seq #[] 0), #[]⟩
noncomputable def o376 : Params → Obj := fun P => ⟨.none, none, (Data.fields #[]), #[]⟩
noncomputable def o377 : Params → Obj := fun P => ⟨.none, none, (fd "_law_hit" (st 34) rfl 0 [] .none .none .none .none none .none .none 0), #[]⟩
noncomputable def o378 : Params → Obj := fun P => ⟨(.type "code"), none, (Data.fields #[(sv "_law_hit" 631), (sv "_law_hit" 632), (sv "/claim/cut.py" 633), (.int 184 0), (.int 3 0), (.int 0 0), (.int 0 0), (.int 3 0), (.ref 323), (.bool Bool.true), (.int 181 0), (.ref 324), .none, .none, .none, (.ref 325), (.int 634 0), (.int 184 0), (sv "/claim/cut.py" 635)]), #[]⟩
noncomputable def o379 : Params → Obj := fun P => ⟨(.type "function"), none, (fd "_law_hit" (st 34) rfl 3 [] .none .none .none (sv "law_pb0185_01" 595) none (.ref 326) .none 0), #[]⟩
noncomputable def o380 : Params → Obj := fun P => ⟨(.type "tuple"), none, (Data.seq #[] 0), #[]⟩
noncomputable def o381 : Params → Obj := fun P => ⟨.none, none, (Data.fields #[]), #[]⟩
noncomputable def o382 : Params → Obj := fun P => ⟨.none, none, (fd "law" (st 35) rfl 0 [] .none .none .none .none none .none .none 0), #[]⟩
noncomputable def o383 : Params → Obj := fun P => ⟨(.type "code"), none, (Data.fields #[(sv "law" 637), (sv "law" 638), (sv "/claim/cut.py" 639), (.int 190 0), (.int 1 0), (.int 0 0), (.int 0 0), (.int 3 0), (.ref 328), (.bool Bool.true), (.int 181 0), (.ref 329), .none, .none, .none, (.ref 330), (.int 640 0), (.int 190 0), (sv "/claim/cut.py" 641)]), #[]⟩
noncomputable def o384 : Params → Obj := fun P => ⟨(.type "function"), none, (fd "law" (st 35) rfl 3 [] .none .none .none (sv "law_pb0185_01" 595) none (.ref 331) .none 0), #[]⟩
noncomputable def t47 : Params → BT := fun P => (nd (boot_o_0 P) (nd (boot_o_1 P) (nd (boot_o_3 P) (nd (boot_o_7 P) nl nl) (nd (o43 P) nl nl)) (nd (boot_o_5 P) (nd (boot_o_9 P) nl nl) (nd (o45 P) nl nl))) (nd (boot_o_2 P) (nd (boot_o_4 P) (nd (boot_o_8 P) nl nl) (nd (o44 P) nl nl)) (nd (boot_o_6 P) (nd (boot_o_10 P) nl nl) (nd (o46 P) nl nl))))
noncomputable def t106 : Params → BT := fun P => (nd (boot_o_0 P) (nd (boot_o_1 P) (nd (o49 P) (nd (boot_o_7 P) (nd (o51 P) (nd (o67 P) (nd (o99 P) nl nl) nl) (nd (o83 P) nl nl)) (nd (o59 P) (nd (o75 P) nl nl) (nd (o91 P) nl nl))) (nd (o43 P) (nd (o55 P) (nd (o71 P) (nd (o103 P) nl nl) nl) (nd (o87 P) nl nl)) (nd (o63 P) (nd (o79 P) nl nl) (nd (o95 P) nl nl)))) (nd (boot_o_5 P) (nd (boot_o_9 P) (nd (o53 P) (nd (o69 P) (nd (o101 P) nl nl) nl) (nd (o85 P) nl nl)) (nd (o61 P) (nd (o77 P) nl nl) (nd (o93 P) nl nl))) (nd (o45 P) (nd (o57 P) (nd (o73 P) (nd (o105 P) nl nl) nl) (nd (o89 P) nl nl)) (nd (o65 P) (nd (o81 P) nl nl) (nd (o97 P) nl nl))))) (nd (boot_o_2 P) (nd (boot_o_4 P) (nd (boot_o_8 P) (nd (o52 P) (nd (o68 P) (nd (o100 P) nl nl) nl) (nd (o84 P) nl nl)) (nd (o60 P) (nd (o76 P) nl nl) (nd (o92 P) nl nl))) (nd (o50 P) (nd (o56 P) (nd (o72 P) (nd (o104 P) nl nl) nl) (nd (o88 P) nl nl)) (nd (o64 P) (nd (o80 P) nl nl) (nd (o96 P) nl nl)))) (nd (boot_o_6 P) (nd (boot_o_10 P) (nd (o54 P) (nd (o70 P) (nd (o102 P) nl nl) nl) (nd (o86 P) nl nl)) (nd (o62 P) (nd (o78 P) nl nl) (nd (o94 P) nl nl))) (nd (o46 P) (nd (o58 P) (nd (o74 P) (nd (o106 P) nl nl) nl) (nd (o90 P) nl nl)) (nd (o66 P) (nd (o82 P) nl nl) (nd (o98 P) nl nl))))))
noncomputable def t143 : Params → BT := fun P => (nd (boot_o_0 P) (nd (boot_o_1 P) (nd (o107 P) (nd (boot_o_7 P) (nd (o51 P) (nd (o67 P) (nd (o99 P) nl nl) (nd (o133 P) nl nl)) (nd (o83 P) (nd (o117 P) nl nl) nl)) (nd (o59 P) (nd (o75 P) (nd (o109 P) nl nl) (nd (o141 P) nl nl)) (nd (o91 P) (nd (o125 P) nl nl) nl))) (nd (o43 P) (nd (o55 P) (nd (o71 P) (nd (o103 P) nl nl) (nd (o137 P) nl nl)) (nd (o87 P) (nd (o121 P) nl nl) nl)) (nd (o63 P) (nd (o79 P) (nd (o113 P) nl nl) nl) (nd (o95 P) (nd (o129 P) nl nl) nl)))) (nd (boot_o_5 P) (nd (boot_o_9 P) (nd (o53 P) (nd (o69 P) (nd (o101 P) nl nl) (nd (o135 P) nl nl)) (nd (o85 P) (nd (o119 P) nl nl) nl)) (nd (o61 P) (nd (o77 P) (nd (o111 P) nl nl) (nd (o143 P) nl nl)) (nd (o93 P) (nd (o127 P) nl nl) nl))) (nd (o45 P) (nd (o57 P) (nd (o73 P) (nd (o105 P) nl nl) (nd (o139 P) nl nl)) (nd (o89 P) (nd (o123 P) nl nl) nl)) (nd (o65 P) (nd (o81 P) (nd (o115 P) nl nl) nl) (nd (o97 P) (nd (o131 P) nl nl) nl))))) (nd (boot_o_2 P) (nd (boot_o_4 P) (nd (boot_o_8 P) (nd (o52 P) (nd (o68 P) (nd (o100 P) nl nl) (nd (o134 P) nl nl)) (nd (o84 P) (nd (o118 P) nl nl) nl)) (nd (o60 P) (nd (o76 P) (nd (o110 P) nl nl) (nd (o142 P) nl nl)) (nd (o92 P) (nd (o126 P) nl nl) nl))) (nd (o108 P) (nd (o56 P) (nd (o72 P) (nd (o104 P) nl nl) (nd (o138 P) nl nl)) (nd (o88 P) (nd (o122 P) nl nl) nl)) (nd (o64 P) (nd (o80 P) (nd (o114 P) nl nl) nl) (nd (o96 P) (nd (o130 P) nl nl) nl)))) (nd (boot_o_6 P) (nd (boot_o_10 P) (nd (o54 P) (nd (o70 P) (nd (o102 P) nl nl) (nd (o136 P) nl nl)) (nd (o86 P) (nd (o120 P) nl nl) nl)) (nd (o62 P) (nd (o78 P) (nd (o112 P) nl nl) nl) (nd (o94 P) (nd (o128 P) nl nl) nl))) (nd (o46 P) (nd (o58 P) (nd (o74 P) (nd (o106 P) nl nl) (nd (o140 P) nl nl)) (nd (o90 P) (nd (o124 P) nl nl) nl)) (nd (o66 P) (nd (o82 P) (nd (o116 P) nl nl) nl) (nd (o98 P) (nd (o132 P) nl nl) nl))))))
noncomputable def t200 : Params → BT := fun P => (nd (boot_o_0 P) (nd (boot_o_1 P) (nd (o144 P) (nd (boot_o_7 P) (nd (o51 P) (nd (o67 P) (nd (o99 P) (nd (o167 P) nl nl) nl) (nd (o133 P) (nd (o199 P) nl nl) nl)) (nd (o83 P) (nd (o117 P) (nd (o183 P) nl nl) nl) (nd (o151 P) nl nl))) (nd (o59 P) (nd (o75 P) (nd (o109 P) (nd (o175 P) nl nl) nl) (nd (o141 P) nl nl)) (nd (o91 P) (nd (o125 P) (nd (o191 P) nl nl) nl) (nd (o159 P) nl nl)))) (nd (o43 P) (nd (o55 P) (nd (o71 P) (nd (o103 P) (nd (o171 P) nl nl) nl) (nd (o137 P) nl nl)) (nd (o87 P) (nd (o121 P) (nd (o187 P) nl nl) nl) (nd (o155 P) nl nl))) (nd (o63 P) (nd (o79 P) (nd (o113 P) (nd (o179 P) nl nl) nl) (nd (o147 P) nl nl)) (nd (o95 P) (nd (o129 P) (nd (o195 P) nl nl) nl) (nd (o163 P) nl nl))))) (nd (boot_o_5 P) (nd (boot_o_9 P) (nd (o53 P) (nd (o69 P) (nd (o101 P) (nd (o169 P) nl nl) nl) (nd (o135 P) nl nl)) (nd (o85 P) (nd (o119 P) (nd (o185 P) nl nl) nl) (nd (o153 P) nl nl))) (nd (o61 P) (nd (o77 P) (nd (o111 P) (nd (o177 P) nl nl) nl) (nd (o143 P) nl nl)) (nd (o93 P) (nd (o127 P) (nd (o193 P) nl nl) nl) (nd (o161 P) nl nl)))) (nd (o45 P) (nd (o57 P) (nd (o73 P) (nd (o105 P) (nd (o173 P) nl nl) nl) (nd (o139 P) nl nl)) (nd (o89 P) (nd (o123 P) (nd (o189 P) nl nl) nl) (nd (o157 P) nl nl))) (nd (o65 P) (nd (o81 P) (nd (o115 P) (nd (o181 P) nl nl) nl) (nd (o149 P) nl nl)) (nd (o97 P) (nd (o131 P) (nd (o197 P) nl nl) nl) (nd (o165 P) nl nl)))))) (nd (boot_o_2 P) (nd (boot_o_4 P) (nd (boot_o_8 P) (nd (o52 P) (nd (o68 P) (nd (o100 P) (nd (o168 P) nl nl) nl) (nd (o134 P) (nd (o200 P) nl nl) nl)) (nd (o84 P) (nd (o118 P) (nd (o184 P) nl nl) nl) (nd (o152 P) nl nl))) (nd (o60 P) (nd (o76 P) (nd (o110 P) (nd (o176 P) nl nl) nl) (nd (o142 P) nl nl)) (nd (o92 P) (nd (o126 P) (nd (o192 P) nl nl) nl) (nd (o160 P) nl nl)))) (nd (o145 P) (nd (o56 P) (nd (o72 P) (nd (o104 P) (nd (o172 P) nl nl) nl) (nd (o138 P) nl nl)) (nd (o88 P) (nd (o122 P) (nd (o188 P) nl nl) nl) (nd (o156 P) nl nl))) (nd (o64 P) (nd (o80 P) (nd (o114 P) (nd (o180 P) nl nl) nl) (nd (o148 P) nl nl)) (nd (o96 P) (nd (o130 P) (nd (o196 P) nl nl) nl) (nd (o164 P) nl nl))))) (nd (boot_o_6 P) (nd (boot_o_10 P) (nd (o54 P) (nd (o70 P) (nd (o102 P) (nd (o170 P) nl nl) nl) (nd (o136 P) nl nl)) (nd (o86 P) (nd (o120 P) (nd (o186 P) nl nl) nl) (nd (o154 P) nl nl))) (nd (o62 P) (nd (o78 P) (nd (o112 P) (nd (o178 P) nl nl) nl) (nd (o146 P) nl nl)) (nd (o94 P) (nd (o128 P) (nd (o194 P) nl nl) nl) (nd (o162 P) nl nl)))) (nd (o46 P) (nd (o58 P) (nd (o74 P) (nd (o106 P) (nd (o174 P) nl nl) nl) (nd (o140 P) nl nl)) (nd (o90 P) (nd (o124 P) (nd (o190 P) nl nl) nl) (nd (o158 P) nl nl))) (nd (o66 P) (nd (o82 P) (nd (o116 P) (nd (o182 P) nl nl) nl) (nd (o150 P) nl nl)) (nd (o98 P) (nd (o132 P) (nd (o198 P) nl nl) nl) (nd (o166 P) nl nl)))))))
noncomputable def t238 : Params → BT := fun P => (nd (boot_o_0 P) (nd (boot_o_1 P) (nd (o202 P) (nd (boot_o_7 P) (nd (o51 P) (nd (o67 P) (nd (o99 P) (nd (o167 P) nl nl) (nd (o234 P) nl nl)) (nd (o133 P) (nd (o199 P) nl nl) nl)) (nd (o83 P) (nd (o117 P) (nd (o183 P) nl nl) nl) (nd (o151 P) (nd (o218 P) nl nl) nl))) (nd (o59 P) (nd (o75 P) (nd (o109 P) (nd (o175 P) nl nl) nl) (nd (o141 P) (nd (o210 P) nl nl) nl)) (nd (o91 P) (nd (o125 P) (nd (o191 P) nl nl) nl) (nd (o159 P) (nd (o226 P) nl nl) nl)))) (nd (o43 P) (nd (o55 P) (nd (o71 P) (nd (o103 P) (nd (o171 P) nl nl) (nd (o238 P) nl nl)) (nd (o137 P) (nd (o206 P) nl nl) nl)) (nd (o87 P) (nd (o121 P) (nd (o187 P) nl nl) nl) (nd (o155 P) (nd (o222 P) nl nl) nl))) (nd (o63 P) (nd (o79 P) (nd (o113 P) (nd (o179 P) nl nl) nl) (nd (o147 P) (nd (o214 P) nl nl) nl)) (nd (o95 P) (nd (o129 P) (nd (o195 P) nl nl) nl) (nd (o163 P) (nd (o230 P) nl nl) nl))))) (nd (boot_o_5 P) (nd (boot_o_9 P) (nd (o53 P) (nd (o69 P) (nd (o101 P) (nd (o169 P) nl nl) (nd (o236 P) nl nl)) (nd (o135 P) (nd (o204 P) nl nl) nl)) (nd (o85 P) (nd (o119 P) (nd (o185 P) nl nl) nl) (nd (o153 P) (nd (o220 P) nl nl) nl))) (nd (o61 P) (nd (o77 P) (nd (o111 P) (nd (o177 P) nl nl) nl) (nd (o143 P) (nd (o212 P) nl nl) nl)) (nd (o93 P) (nd (o127 P) (nd (o193 P) nl nl) nl) (nd (o161 P) (nd (o228 P) nl nl) nl)))) (nd (o45 P) (nd (o57 P) (nd (o73 P) (nd (o105 P) (nd (o173 P) nl nl) nl) (nd (o139 P) (nd (o208 P) nl nl) nl)) (nd (o89 P) (nd (o123 P) (nd (o189 P) nl nl) nl) (nd (o157 P) (nd (o224 P) nl nl) nl))) (nd (o65 P) (nd (o81 P) (nd (o115 P) (nd (o181 P) nl nl) nl) (nd (o149 P) (nd (o216 P) nl nl) nl)) (nd (o97 P) (nd (o131 P) (nd (o197 P) nl nl) nl) (nd (o165 P) (nd (o232 P) nl nl) nl)))))) (nd (o201 P) (nd (boot_o_4 P) (nd (boot_o_8 P) (nd (o52 P) (nd (o68 P) (nd (o100 P) (nd (o168 P) nl nl) (nd (o235 P) nl nl)) (nd (o134 P) (nd (o200 P) nl nl) nl)) (nd (o84 P) (nd (o118 P) (nd (o184 P) nl nl) nl) (nd (o152 P) (nd (o219 P) nl nl) nl))) (nd (o60 P) (nd (o76 P) (nd (o110 P) (nd (o176 P) nl nl) nl) (nd (o142 P) (nd (o211 P) nl nl) nl)) (nd (o92 P) (nd (o126 P) (nd (o192 P) nl nl) nl) (nd (o160 P) (nd (o227 P) nl nl) nl)))) (nd (o203 P) (nd (o56 P) (nd (o72 P) (nd (o104 P) (nd (o172 P) nl nl) nl) (nd (o138 P) (nd (o207 P) nl nl) nl)) (nd (o88 P) (nd (o122 P) (nd (o188 P) nl nl) nl) (nd (o156 P) (nd (o223 P) nl nl) nl))) (nd (o64 P) (nd (o80 P) (nd (o114 P) (nd (o180 P) nl nl) nl) (nd (o148 P) (nd (o215 P) nl nl) nl)) (nd (o96 P) (nd (o130 P) (nd (o196 P) nl nl) nl) (nd (o164 P) (nd (o231 P) nl nl) nl))))) (nd (boot_o_6 P) (nd (boot_o_10 P) (nd (o54 P) (nd (o70 P) (nd (o102 P) (nd (o170 P) nl nl) (nd (o237 P) nl nl)) (nd (o136 P) (nd (o205 P) nl nl) nl)) (nd (o86 P) (nd (o120 P) (nd (o186 P) nl nl) nl) (nd (o154 P) (nd (o221 P) nl nl) nl))) (nd (o62 P) (nd (o78 P) (nd (o112 P) (nd (o178 P) nl nl) nl) (nd (o146 P) (nd (o213 P) nl nl) nl)) (nd (o94 P) (nd (o128 P) (nd (o194 P) nl nl) nl) (nd (o162 P) (nd (o229 P) nl nl) nl)))) (nd (o46 P) (nd (o58 P) (nd (o74 P) (nd (o106 P) (nd (o174 P) nl nl) nl) (nd (o140 P) (nd (o209 P) nl nl) nl)) (nd (o90 P) (nd (o124 P) (nd (o190 P) nl nl) nl) (nd (o158 P) (nd (o225 P) nl nl) nl))) (nd (o66 P) (nd (o82 P) (nd (o116 P) (nd (o182 P) nl nl) nl) (nd (o150 P) (nd (o217 P) nl nl) nl)) (nd (o98 P) (nd (o132 P) (nd (o198 P) nl nl) nl) (nd (o166 P) (nd (o233 P) nl nl) nl)))))))
noncomputable def t287 : Params → BT := fun P => (nd (boot_o_0 P) (nd (boot_o_1 P) (nd (o239 P) (nd (boot_o_7 P) (nd (o51 P) (nd (o67 P) (nd (o99 P) (nd (o167 P) nl nl) (nd (o234 P) nl nl)) (nd (o133 P) (nd (o199 P) nl nl) (nd (o269 P) nl nl))) (nd (o83 P) (nd (o117 P) (nd (o183 P) nl nl) (nd (o253 P) nl nl)) (nd (o151 P) (nd (o218 P) nl nl) (nd (o285 P) nl nl)))) (nd (o59 P) (nd (o75 P) (nd (o109 P) (nd (o175 P) nl nl) (nd (o245 P) nl nl)) (nd (o141 P) (nd (o210 P) nl nl) (nd (o277 P) nl nl))) (nd (o91 P) (nd (o125 P) (nd (o191 P) nl nl) (nd (o261 P) nl nl)) (nd (o159 P) (nd (o226 P) nl nl) nl)))) (nd (o43 P) (nd (o55 P) (nd (o71 P) (nd (o103 P) (nd (o171 P) nl nl) (nd (o238 P) nl nl)) (nd (o137 P) (nd (o206 P) nl nl) (nd (o273 P) nl nl))) (nd (o87 P) (nd (o121 P) (nd (o187 P) nl nl) (nd (o257 P) nl nl)) (nd (o155 P) (nd (o222 P) nl nl) nl))) (nd (o63 P) (nd (o79 P) (nd (o113 P) (nd (o179 P) nl nl) (nd (o249 P) nl nl)) (nd (o147 P) (nd (o214 P) nl nl) (nd (o281 P) nl nl))) (nd (o95 P) (nd (o129 P) (nd (o195 P) nl nl) (nd (o265 P) nl nl)) (nd (o163 P) (nd (o230 P) nl nl) nl))))) (nd (boot_o_5 P) (nd (boot_o_9 P) (nd (o53 P) (nd (o69 P) (nd (o101 P) (nd (o169 P) nl nl) (nd (o236 P) nl nl)) (nd (o135 P) (nd (o204 P) nl nl) (nd (o271 P) nl nl))) (nd (o85 P) (nd (o119 P) (nd (o185 P) nl nl) (nd (o255 P) nl nl)) (nd (o153 P) (nd (o220 P) nl nl) (nd (o287 P) nl nl)))) (nd (o61 P) (nd (o77 P) (nd (o111 P) (nd (o177 P) nl nl) (nd (o247 P) nl nl)) (nd (o143 P) (nd (o212 P) nl nl) (nd (o279 P) nl nl))) (nd (o93 P) (nd (o127 P) (nd (o193 P) nl nl) (nd (o263 P) nl nl)) (nd (o161 P) (nd (o228 P) nl nl) nl)))) (nd (o45 P) (nd (o57 P) (nd (o73 P) (nd (o105 P) (nd (o173 P) nl nl) (nd (o243 P) nl nl)) (nd (o139 P) (nd (o208 P) nl nl) (nd (o275 P) nl nl))) (nd (o89 P) (nd (o123 P) (nd (o189 P) nl nl) (nd (o259 P) nl nl)) (nd (o157 P) (nd (o224 P) nl nl) nl))) (nd (o65 P) (nd (o81 P) (nd (o115 P) (nd (o181 P) nl nl) (nd (o251 P) nl nl)) (nd (o149 P) (nd (o216 P) nl nl) (nd (o283 P) nl nl))) (nd (o97 P) (nd (o131 P) (nd (o197 P) nl nl) (nd (o267 P) nl nl)) (nd (o165 P) (nd (o232 P) nl nl) nl)))))) (nd (o201 P) (nd (boot_o_4 P) (nd (boot_o_8 P) (nd (o52 P) (nd (o68 P) (nd (o100 P) (nd (o168 P) nl nl) (nd (o241 P) nl nl)) (nd (o134 P) (nd (o200 P) nl nl) (nd (o270 P) nl nl))) (nd (o84 P) (nd (o118 P) (nd (o184 P) nl nl) (nd (o254 P) nl nl)) (nd (o152 P) (nd (o219 P) nl nl) (nd (o286 P) nl nl)))) (nd (o60 P) (nd (o76 P) (nd (o110 P) (nd (o176 P) nl nl) (nd (o246 P) nl nl)) (nd (o142 P) (nd (o211 P) nl nl) (nd (o278 P) nl nl))) (nd (o92 P) (nd (o126 P) (nd (o192 P) nl nl) (nd (o262 P) nl nl)) (nd (o160 P) (nd (o227 P) nl nl) nl)))) (nd (o240 P) (nd (o56 P) (nd (o72 P) (nd (o104 P) (nd (o172 P) nl nl) (nd (o242 P) nl nl)) (nd (o138 P) (nd (o207 P) nl nl) (nd (o274 P) nl nl))) (nd (o88 P) (nd (o122 P) (nd (o188 P) nl nl) (nd (o258 P) nl nl)) (nd (o156 P) (nd (o223 P) nl nl) nl))) (nd (o64 P) (nd (o80 P) (nd (o114 P) (nd (o180 P) nl nl) (nd (o250 P) nl nl)) (nd (o148 P) (nd (o215 P) nl nl) (nd (o282 P) nl nl))) (nd (o96 P) (nd (o130 P) (nd (o196 P) nl nl) (nd (o266 P) nl nl)) (nd (o164 P) (nd (o231 P) nl nl) nl))))) (nd (boot_o_6 P) (nd (boot_o_10 P) (nd (o54 P) (nd (o70 P) (nd (o102 P) (nd (o170 P) nl nl) (nd (o237 P) nl nl)) (nd (o136 P) (nd (o205 P) nl nl) (nd (o272 P) nl nl))) (nd (o86 P) (nd (o120 P) (nd (o186 P) nl nl) (nd (o256 P) nl nl)) (nd (o154 P) (nd (o221 P) nl nl) nl))) (nd (o62 P) (nd (o78 P) (nd (o112 P) (nd (o178 P) nl nl) (nd (o248 P) nl nl)) (nd (o146 P) (nd (o213 P) nl nl) (nd (o280 P) nl nl))) (nd (o94 P) (nd (o128 P) (nd (o194 P) nl nl) (nd (o264 P) nl nl)) (nd (o162 P) (nd (o229 P) nl nl) nl)))) (nd (o46 P) (nd (o58 P) (nd (o74 P) (nd (o106 P) (nd (o174 P) nl nl) (nd (o244 P) nl nl)) (nd (o140 P) (nd (o209 P) nl nl) (nd (o276 P) nl nl))) (nd (o90 P) (nd (o124 P) (nd (o190 P) nl nl) (nd (o260 P) nl nl)) (nd (o158 P) (nd (o225 P) nl nl) nl))) (nd (o66 P) (nd (o82 P) (nd (o116 P) (nd (o182 P) nl nl) (nd (o252 P) nl nl)) (nd (o150 P) (nd (o217 P) nl nl) (nd (o284 P) nl nl))) (nd (o98 P) (nd (o132 P) (nd (o198 P) nl nl) (nd (o268 P) nl nl)) (nd (o166 P) (nd (o233 P) nl nl) nl)))))))
noncomputable def t310 : Params → BT := fun P => (nd (boot_o_0 P) (nd (boot_o_1 P) (nd (o288 P) (nd (boot_o_7 P) (nd (o51 P) (nd (o67 P) (nd (o99 P) (nd (o167 P) (nd (o303 P) nl nl) nl) (nd (o234 P) nl nl)) (nd (o133 P) (nd (o199 P) nl nl) (nd (o269 P) nl nl))) (nd (o83 P) (nd (o117 P) (nd (o183 P) nl nl) (nd (o253 P) nl nl)) (nd (o151 P) (nd (o218 P) nl nl) (nd (o285 P) nl nl)))) (nd (o59 P) (nd (o75 P) (nd (o109 P) (nd (o175 P) nl nl) (nd (o245 P) nl nl)) (nd (o141 P) (nd (o210 P) nl nl) (nd (o277 P) nl nl))) (nd (o91 P) (nd (o125 P) (nd (o191 P) nl nl) (nd (o261 P) nl nl)) (nd (o159 P) (nd (o226 P) nl nl) (nd (o295 P) nl nl))))) (nd (o43 P) (nd (o55 P) (nd (o71 P) (nd (o103 P) (nd (o171 P) (nd (o307 P) nl nl) nl) (nd (o238 P) nl nl)) (nd (o137 P) (nd (o206 P) nl nl) (nd (o273 P) nl nl))) (nd (o87 P) (nd (o121 P) (nd (o187 P) nl nl) (nd (o257 P) nl nl)) (nd (o155 P) (nd (o222 P) nl nl) (nd (o291 P) nl nl)))) (nd (o63 P) (nd (o79 P) (nd (o113 P) (nd (o179 P) nl nl) (nd (o249 P) nl nl)) (nd (o147 P) (nd (o214 P) nl nl) (nd (o281 P) nl nl))) (nd (o95 P) (nd (o129 P) (nd (o195 P) nl nl) (nd (o265 P) nl nl)) (nd (o163 P) (nd (o230 P) nl nl) (nd (o299 P) nl nl)))))) (nd (boot_o_5 P) (nd (boot_o_9 P) (nd (o53 P) (nd (o69 P) (nd (o101 P) (nd (o169 P) (nd (o305 P) nl nl) nl) (nd (o236 P) nl nl)) (nd (o135 P) (nd (o204 P) nl nl) (nd (o271 P) nl nl))) (nd (o85 P) (nd (o119 P) (nd (o185 P) nl nl) (nd (o255 P) nl nl)) (nd (o153 P) (nd (o220 P) nl nl) (nd (o287 P) nl nl)))) (nd (o61 P) (nd (o77 P) (nd (o111 P) (nd (o177 P) nl nl) (nd (o247 P) nl nl)) (nd (o143 P) (nd (o212 P) nl nl) (nd (o279 P) nl nl))) (nd (o93 P) (nd (o127 P) (nd (o193 P) nl nl) (nd (o263 P) nl nl)) (nd (o161 P) (nd (o228 P) nl nl) (nd (o297 P) nl nl))))) (nd (o45 P) (nd (o57 P) (nd (o73 P) (nd (o105 P) (nd (o173 P) (nd (o309 P) nl nl) nl) (nd (o243 P) nl nl)) (nd (o139 P) (nd (o208 P) nl nl) (nd (o275 P) nl nl))) (nd (o89 P) (nd (o123 P) (nd (o189 P) nl nl) (nd (o259 P) nl nl)) (nd (o157 P) (nd (o224 P) nl nl) (nd (o293 P) nl nl)))) (nd (o65 P) (nd (o81 P) (nd (o115 P) (nd (o181 P) nl nl) (nd (o251 P) nl nl)) (nd (o149 P) (nd (o216 P) nl nl) (nd (o283 P) nl nl))) (nd (o97 P) (nd (o131 P) (nd (o197 P) nl nl) (nd (o267 P) nl nl)) (nd (o165 P) (nd (o232 P) nl nl) (nd (o301 P) nl nl))))))) (nd (o201 P) (nd (boot_o_4 P) (nd (boot_o_8 P) (nd (o52 P) (nd (o68 P) (nd (o100 P) (nd (o168 P) (nd (o304 P) nl nl) nl) (nd (o241 P) nl nl)) (nd (o134 P) (nd (o200 P) nl nl) (nd (o270 P) nl nl))) (nd (o84 P) (nd (o118 P) (nd (o184 P) nl nl) (nd (o254 P) nl nl)) (nd (o152 P) (nd (o219 P) nl nl) (nd (o286 P) nl nl)))) (nd (o60 P) (nd (o76 P) (nd (o110 P) (nd (o176 P) nl nl) (nd (o246 P) nl nl)) (nd (o142 P) (nd (o211 P) nl nl) (nd (o278 P) nl nl))) (nd (o92 P) (nd (o126 P) (nd (o192 P) nl nl) (nd (o262 P) nl nl)) (nd (o160 P) (nd (o227 P) nl nl) (nd (o296 P) nl nl))))) (nd (o289 P) (nd (o56 P) (nd (o72 P) (nd (o104 P) (nd (o172 P) (nd (o308 P) nl nl) nl) (nd (o242 P) nl nl)) (nd (o138 P) (nd (o207 P) nl nl) (nd (o274 P) nl nl))) (nd (o88 P) (nd (o122 P) (nd (o188 P) nl nl) (nd (o258 P) nl nl)) (nd (o156 P) (nd (o223 P) nl nl) (nd (o292 P) nl nl)))) (nd (o64 P) (nd (o80 P) (nd (o114 P) (nd (o180 P) nl nl) (nd (o250 P) nl nl)) (nd (o148 P) (nd (o215 P) nl nl) (nd (o282 P) nl nl))) (nd (o96 P) (nd (o130 P) (nd (o196 P) nl nl) (nd (o266 P) nl nl)) (nd (o164 P) (nd (o231 P) nl nl) (nd (o300 P) nl nl)))))) (nd (boot_o_6 P) (nd (boot_o_10 P) (nd (o54 P) (nd (o70 P) (nd (o102 P) (nd (o170 P) (nd (o306 P) nl nl) nl) (nd (o237 P) nl nl)) (nd (o136 P) (nd (o205 P) nl nl) (nd (o272 P) nl nl))) (nd (o86 P) (nd (o120 P) (nd (o186 P) nl nl) (nd (o256 P) nl nl)) (nd (o154 P) (nd (o221 P) nl nl) (nd (o290 P) nl nl)))) (nd (o62 P) (nd (o78 P) (nd (o112 P) (nd (o178 P) nl nl) (nd (o248 P) nl nl)) (nd (o146 P) (nd (o213 P) nl nl) (nd (o280 P) nl nl))) (nd (o94 P) (nd (o128 P) (nd (o194 P) nl nl) (nd (o264 P) nl nl)) (nd (o162 P) (nd (o229 P) nl nl) (nd (o298 P) nl nl))))) (nd (o46 P) (nd (o58 P) (nd (o74 P) (nd (o106 P) (nd (o174 P) (nd (o310 P) nl nl) nl) (nd (o244 P) nl nl)) (nd (o140 P) (nd (o209 P) nl nl) (nd (o276 P) nl nl))) (nd (o90 P) (nd (o124 P) (nd (o190 P) nl nl) (nd (o260 P) nl nl)) (nd (o158 P) (nd (o225 P) nl nl) (nd (o294 P) nl nl)))) (nd (o66 P) (nd (o82 P) (nd (o116 P) (nd (o182 P) nl nl) (nd (o252 P) nl nl)) (nd (o150 P) (nd (o217 P) nl nl) (nd (o284 P) nl nl))) (nd (o98 P) (nd (o132 P) (nd (o198 P) nl nl) (nd (o268 P) nl nl)) (nd (o166 P) (nd (o233 P) nl nl) (nd (o302 P) nl nl))))))))
noncomputable def t361 : Params → BT := fun P => (nd (boot_o_0 P) (nd (boot_o_1 P) (nd (o311 P) (nd (boot_o_7 P) (nd (o51 P) (nd (o67 P) (nd (o99 P) (nd (o167 P) (nd (o303 P) nl nl) nl) (nd (o234 P) nl nl)) (nd (o133 P) (nd (o199 P) (nd (o337 P) nl nl) nl) (nd (o269 P) nl nl))) (nd (o83 P) (nd (o117 P) (nd (o183 P) (nd (o321 P) nl nl) nl) (nd (o253 P) nl nl)) (nd (o151 P) (nd (o218 P) (nd (o353 P) nl nl) nl) (nd (o285 P) nl nl)))) (nd (o59 P) (nd (o75 P) (nd (o109 P) (nd (o175 P) (nd (o313 P) nl nl) nl) (nd (o245 P) nl nl)) (nd (o141 P) (nd (o210 P) (nd (o345 P) nl nl) nl) (nd (o277 P) nl nl))) (nd (o91 P) (nd (o125 P) (nd (o191 P) (nd (o329 P) nl nl) nl) (nd (o261 P) nl nl)) (nd (o159 P) (nd (o226 P) (nd (o361 P) nl nl) nl) (nd (o295 P) nl nl))))) (nd (o43 P) (nd (o55 P) (nd (o71 P) (nd (o103 P) (nd (o171 P) (nd (o307 P) nl nl) nl) (nd (o238 P) nl nl)) (nd (o137 P) (nd (o206 P) (nd (o341 P) nl nl) nl) (nd (o273 P) nl nl))) (nd (o87 P) (nd (o121 P) (nd (o187 P) (nd (o325 P) nl nl) nl) (nd (o257 P) nl nl)) (nd (o155 P) (nd (o222 P) (nd (o357 P) nl nl) nl) (nd (o291 P) nl nl)))) (nd (o63 P) (nd (o79 P) (nd (o113 P) (nd (o179 P) (nd (o317 P) nl nl) nl) (nd (o249 P) nl nl)) (nd (o147 P) (nd (o214 P) (nd (o349 P) nl nl) nl) (nd (o281 P) nl nl))) (nd (o95 P) (nd (o129 P) (nd (o195 P) (nd (o333 P) nl nl) nl) (nd (o265 P) nl nl)) (nd (o163 P) (nd (o230 P) nl nl) (nd (o299 P) nl nl)))))) (nd (boot_o_5 P) (nd (boot_o_9 P) (nd (o53 P) (nd (o69 P) (nd (o101 P) (nd (o169 P) (nd (o305 P) nl nl) nl) (nd (o236 P) nl nl)) (nd (o135 P) (nd (o204 P) (nd (o339 P) nl nl) nl) (nd (o271 P) nl nl))) (nd (o85 P) (nd (o119 P) (nd (o185 P) (nd (o323 P) nl nl) nl) (nd (o255 P) nl nl)) (nd (o153 P) (nd (o220 P) (nd (o355 P) nl nl) nl) (nd (o287 P) nl nl)))) (nd (o61 P) (nd (o77 P) (nd (o111 P) (nd (o177 P) (nd (o315 P) nl nl) nl) (nd (o247 P) nl nl)) (nd (o143 P) (nd (o212 P) (nd (o347 P) nl nl) nl) (nd (o279 P) nl nl))) (nd (o93 P) (nd (o127 P) (nd (o193 P) (nd (o331 P) nl nl) nl) (nd (o263 P) nl nl)) (nd (o161 P) (nd (o228 P) nl nl) (nd (o297 P) nl nl))))) (nd (o45 P) (nd (o57 P) (nd (o73 P) (nd (o105 P) (nd (o173 P) (nd (o309 P) nl nl) nl) (nd (o243 P) nl nl)) (nd (o139 P) (nd (o208 P) (nd (o343 P) nl nl) nl) (nd (o275 P) nl nl))) (nd (o89 P) (nd (o123 P) (nd (o189 P) (nd (o327 P) nl nl) nl) (nd (o259 P) nl nl)) (nd (o157 P) (nd (o224 P) (nd (o359 P) nl nl) nl) (nd (o293 P) nl nl)))) (nd (o65 P) (nd (o81 P) (nd (o115 P) (nd (o181 P) (nd (o319 P) nl nl) nl) (nd (o251 P) nl nl)) (nd (o149 P) (nd (o216 P) (nd (o351 P) nl nl) nl) (nd (o283 P) nl nl))) (nd (o97 P) (nd (o131 P) (nd (o197 P) (nd (o335 P) nl nl) nl) (nd (o267 P) nl nl)) (nd (o165 P) (nd (o232 P) nl nl) (nd (o301 P) nl nl))))))) (nd (o201 P) (nd (boot_o_4 P) (nd (boot_o_8 P) (nd (o52 P) (nd (o68 P) (nd (o100 P) (nd (o168 P) (nd (o304 P) nl nl) nl) (nd (o241 P) nl nl)) (nd (o134 P) (nd (o200 P) (nd (o338 P) nl nl) nl) (nd (o270 P) nl nl))) (nd (o84 P) (nd (o118 P) (nd (o184 P) (nd (o322 P) nl nl) nl) (nd (o254 P) nl nl)) (nd (o152 P) (nd (o219 P) (nd (o354 P) nl nl) nl) (nd (o286 P) nl nl)))) (nd (o60 P) (nd (o76 P) (nd (o110 P) (nd (o176 P) (nd (o314 P) nl nl) nl) (nd (o246 P) nl nl)) (nd (o142 P) (nd (o211 P) (nd (o346 P) nl nl) nl) (nd (o278 P) nl nl))) (nd (o92 P) (nd (o126 P) (nd (o192 P) (nd (o330 P) nl nl) nl) (nd (o262 P) nl nl)) (nd (o160 P) (nd (o227 P) nl nl) (nd (o296 P) nl nl))))) (nd (o312 P) (nd (o56 P) (nd (o72 P) (nd (o104 P) (nd (o172 P) (nd (o308 P) nl nl) nl) (nd (o242 P) nl nl)) (nd (o138 P) (nd (o207 P) (nd (o342 P) nl nl) nl) (nd (o274 P) nl nl))) (nd (o88 P) (nd (o122 P) (nd (o188 P) (nd (o326 P) nl nl) nl) (nd (o258 P) nl nl)) (nd (o156 P) (nd (o223 P) (nd (o358 P) nl nl) nl) (nd (o292 P) nl nl)))) (nd (o64 P) (nd (o80 P) (nd (o114 P) (nd (o180 P) (nd (o318 P) nl nl) nl) (nd (o250 P) nl nl)) (nd (o148 P) (nd (o215 P) (nd (o350 P) nl nl) nl) (nd (o282 P) nl nl))) (nd (o96 P) (nd (o130 P) (nd (o196 P) (nd (o334 P) nl nl) nl) (nd (o266 P) nl nl)) (nd (o164 P) (nd (o231 P) nl nl) (nd (o300 P) nl nl)))))) (nd (boot_o_6 P) (nd (boot_o_10 P) (nd (o54 P) (nd (o70 P) (nd (o102 P) (nd (o170 P) (nd (o306 P) nl nl) nl) (nd (o237 P) nl nl)) (nd (o136 P) (nd (o205 P) (nd (o340 P) nl nl) nl) (nd (o272 P) nl nl))) (nd (o86 P) (nd (o120 P) (nd (o186 P) (nd (o324 P) nl nl) nl) (nd (o256 P) nl nl)) (nd (o154 P) (nd (o221 P) (nd (o356 P) nl nl) nl) (nd (o290 P) nl nl)))) (nd (o62 P) (nd (o78 P) (nd (o112 P) (nd (o178 P) (nd (o316 P) nl nl) nl) (nd (o248 P) nl nl)) (nd (o146 P) (nd (o213 P) (nd (o348 P) nl nl) nl) (nd (o280 P) nl nl))) (nd (o94 P) (nd (o128 P) (nd (o194 P) (nd (o332 P) nl nl) nl) (nd (o264 P) nl nl)) (nd (o162 P) (nd (o229 P) nl nl) (nd (o298 P) nl nl))))) (nd (o46 P) (nd (o58 P) (nd (o74 P) (nd (o106 P) (nd (o174 P) (nd (o310 P) nl nl) nl) (nd (o244 P) nl nl)) (nd (o140 P) (nd (o209 P) (nd (o344 P) nl nl) nl) (nd (o276 P) nl nl))) (nd (o90 P) (nd (o124 P) (nd (o190 P) (nd (o328 P) nl nl) nl) (nd (o260 P) nl nl)) (nd (o158 P) (nd (o225 P) (nd (o360 P) nl nl) nl) (nd (o294 P) nl nl)))) (nd (o66 P) (nd (o82 P) (nd (o116 P) (nd (o182 P) (nd (o320 P) nl nl) nl) (nd (o252 P) nl nl)) (nd (o150 P) (nd (o217 P) (nd (o352 P) nl nl) nl) (nd (o284 P) nl nl))) (nd (o98 P) (nd (o132 P) (nd (o198 P) (nd (o336 P) nl nl) nl) (nd (o268 P) nl nl)) (nd (o166 P) (nd (o233 P) nl nl) (nd (o302 P) nl nl))))))))
noncomputable def t384 : Params → BT := fun P => (nd (boot_o_0 P) (nd (boot_o_1 P) (nd (o362 P) (nd (boot_o_7 P) (nd (o51 P) (nd (o67 P) (nd (o99 P) (nd (o167 P) (nd (o303 P) nl nl) nl) (nd (o234 P) (nd (o371 P) nl nl) nl)) (nd (o133 P) (nd (o199 P) (nd (o337 P) nl nl) nl) (nd (o269 P) nl nl))) (nd (o83 P) (nd (o117 P) (nd (o183 P) (nd (o321 P) nl nl) nl) (nd (o253 P) nl nl)) (nd (o151 P) (nd (o218 P) (nd (o353 P) nl nl) nl) (nd (o285 P) nl nl)))) (nd (o59 P) (nd (o75 P) (nd (o109 P) (nd (o175 P) (nd (o313 P) nl nl) nl) (nd (o245 P) (nd (o379 P) nl nl) nl)) (nd (o141 P) (nd (o210 P) (nd (o345 P) nl nl) nl) (nd (o277 P) nl nl))) (nd (o91 P) (nd (o125 P) (nd (o191 P) (nd (o329 P) nl nl) nl) (nd (o261 P) nl nl)) (nd (o159 P) (nd (o226 P) (nd (o361 P) nl nl) nl) (nd (o295 P) nl nl))))) (nd (o43 P) (nd (o55 P) (nd (o71 P) (nd (o103 P) (nd (o171 P) (nd (o307 P) nl nl) nl) (nd (o238 P) (nd (o375 P) nl nl) nl)) (nd (o137 P) (nd (o206 P) (nd (o341 P) nl nl) nl) (nd (o273 P) nl nl))) (nd (o87 P) (nd (o121 P) (nd (o187 P) (nd (o325 P) nl nl) nl) (nd (o257 P) nl nl)) (nd (o155 P) (nd (o222 P) (nd (o357 P) nl nl) nl) (nd (o291 P) nl nl)))) (nd (o63 P) (nd (o79 P) (nd (o113 P) (nd (o179 P) (nd (o317 P) nl nl) nl) (nd (o249 P) (nd (o383 P) nl nl) nl)) (nd (o147 P) (nd (o214 P) (nd (o349 P) nl nl) nl) (nd (o281 P) nl nl))) (nd (o95 P) (nd (o129 P) (nd (o195 P) (nd (o333 P) nl nl) nl) (nd (o265 P) nl nl)) (nd (o163 P) (nd (o230 P) (nd (o367 P) nl nl) nl) (nd (o299 P) nl nl)))))) (nd (boot_o_5 P) (nd (boot_o_9 P) (nd (o53 P) (nd (o69 P) (nd (o101 P) (nd (o169 P) (nd (o305 P) nl nl) nl) (nd (o236 P) (nd (o373 P) nl nl) nl)) (nd (o135 P) (nd (o204 P) (nd (o339 P) nl nl) nl) (nd (o271 P) nl nl))) (nd (o85 P) (nd (o119 P) (nd (o185 P) (nd (o323 P) nl nl) nl) (nd (o255 P) nl nl)) (nd (o153 P) (nd (o220 P) (nd (o355 P) nl nl) nl) (nd (o287 P) nl nl)))) (nd (o61 P) (nd (o77 P) (nd (o111 P) (nd (o177 P) (nd (o315 P) nl nl) nl) (nd (o247 P) (nd (o381 P) nl nl) nl)) (nd (o143 P) (nd (o212 P) (nd (o347 P) nl nl) nl) (nd (o279 P) nl nl))) (nd (o93 P) (nd (o127 P) (nd (o193 P) (nd (o331 P) nl nl) nl) (nd (o263 P) nl nl)) (nd (o161 P) (nd (o228 P) (nd (o365 P) nl nl) nl) (nd (o297 P) nl nl))))) (nd (o45 P) (nd (o57 P) (nd (o73 P) (nd (o105 P) (nd (o173 P) (nd (o309 P) nl nl) nl) (nd (o243 P) (nd (o377 P) nl nl) nl)) (nd (o139 P) (nd (o208 P) (nd (o343 P) nl nl) nl) (nd (o275 P) nl nl))) (nd (o89 P) (nd (o123 P) (nd (o189 P) (nd (o327 P) nl nl) nl) (nd (o259 P) nl nl)) (nd (o157 P) (nd (o224 P) (nd (o359 P) nl nl) nl) (nd (o293 P) nl nl)))) (nd (o65 P) (nd (o81 P) (nd (o115 P) (nd (o181 P) (nd (o319 P) nl nl) nl) (nd (o251 P) nl nl)) (nd (o149 P) (nd (o216 P) (nd (o351 P) nl nl) nl) (nd (o283 P) nl nl))) (nd (o97 P) (nd (o131 P) (nd (o197 P) (nd (o335 P) nl nl) nl) (nd (o267 P) nl nl)) (nd (o165 P) (nd (o232 P) (nd (o369 P) nl nl) nl) (nd (o301 P) nl nl))))))) (nd (o201 P) (nd (boot_o_4 P) (nd (boot_o_8 P) (nd (o52 P) (nd (o68 P) (nd (o100 P) (nd (o168 P) (nd (o304 P) nl nl) nl) (nd (o241 P) (nd (o372 P) nl nl) nl)) (nd (o134 P) (nd (o200 P) (nd (o338 P) nl nl) nl) (nd (o270 P) nl nl))) (nd (o84 P) (nd (o118 P) (nd (o184 P) (nd (o322 P) nl nl) nl) (nd (o254 P) nl nl)) (nd (o152 P) (nd (o219 P) (nd (o354 P) nl nl) nl) (nd (o286 P) nl nl)))) (nd (o60 P) (nd (o76 P) (nd (o110 P) (nd (o176 P) (nd (o314 P) nl nl) nl) (nd (o246 P) (nd (o380 P) nl nl) nl)) (nd (o142 P) (nd (o211 P) (nd (o346 P) nl nl) nl) (nd (o278 P) nl nl))) (nd (o92 P) (nd (o126 P) (nd (o192 P) (nd (o330 P) nl nl) nl) (nd (o262 P) nl nl)) (nd (o160 P) (nd (o227 P) (nd (o364 P) nl nl) nl) (nd (o296 P) nl nl))))) (nd (o363 P) (nd (o56 P) (nd (o72 P) (nd (o104 P) (nd (o172 P) (nd (o308 P) nl nl) nl) (nd (o242 P) (nd (o376 P) nl nl) nl)) (nd (o138 P) (nd (o207 P) (nd (o342 P) nl nl) nl) (nd (o274 P) nl nl))) (nd (o88 P) (nd (o122 P) (nd (o188 P) (nd (o326 P) nl nl) nl) (nd (o258 P) nl nl)) (nd (o156 P) (nd (o223 P) (nd (o358 P) nl nl) nl) (nd (o292 P) nl nl)))) (nd (o64 P) (nd (o80 P) (nd (o114 P) (nd (o180 P) (nd (o318 P) nl nl) nl) (nd (o250 P) (nd (o384 P) nl nl) nl)) (nd (o148 P) (nd (o215 P) (nd (o350 P) nl nl) nl) (nd (o282 P) nl nl))) (nd (o96 P) (nd (o130 P) (nd (o196 P) (nd (o334 P) nl nl) nl) (nd (o266 P) nl nl)) (nd (o164 P) (nd (o231 P) (nd (o368 P) nl nl) nl) (nd (o300 P) nl nl)))))) (nd (boot_o_6 P) (nd (boot_o_10 P) (nd (o54 P) (nd (o70 P) (nd (o102 P) (nd (o170 P) (nd (o306 P) nl nl) nl) (nd (o237 P) (nd (o374 P) nl nl) nl)) (nd (o136 P) (nd (o205 P) (nd (o340 P) nl nl) nl) (nd (o272 P) nl nl))) (nd (o86 P) (nd (o120 P) (nd (o186 P) (nd (o324 P) nl nl) nl) (nd (o256 P) nl nl)) (nd (o154 P) (nd (o221 P) (nd (o356 P) nl nl) nl) (nd (o290 P) nl nl)))) (nd (o62 P) (nd (o78 P) (nd (o112 P) (nd (o178 P) (nd (o316 P) nl nl) nl) (nd (o248 P) (nd (o382 P) nl nl) nl)) (nd (o146 P) (nd (o213 P) (nd (o348 P) nl nl) nl) (nd (o280 P) nl nl))) (nd (o94 P) (nd (o128 P) (nd (o194 P) (nd (o332 P) nl nl) nl) (nd (o264 P) nl nl)) (nd (o162 P) (nd (o229 P) (nd (o366 P) nl nl) nl) (nd (o298 P) nl nl))))) (nd (o46 P) (nd (o58 P) (nd (o74 P) (nd (o106 P) (nd (o174 P) (nd (o310 P) nl nl) nl) (nd (o244 P) (nd (o378 P) nl nl) nl)) (nd (o140 P) (nd (o209 P) (nd (o344 P) nl nl) nl) (nd (o276 P) nl nl))) (nd (o90 P) (nd (o124 P) (nd (o190 P) (nd (o328 P) nl nl) nl) (nd (o260 P) nl nl)) (nd (o158 P) (nd (o225 P) (nd (o360 P) nl nl) nl) (nd (o294 P) nl nl)))) (nd (o66 P) (nd (o82 P) (nd (o116 P) (nd (o182 P) (nd (o320 P) nl nl) nl) (nd (o252 P) nl nl)) (nd (o150 P) (nd (o217 P) (nd (o352 P) nl nl) nl) (nd (o284 P) nl nl))) (nd (o98 P) (nd (o132 P) (nd (o198 P) (nd (o336 P) nl nl) nl) (nd (o268 P) nl nl)) (nd (o166 P) (nd (o233 P) (nd (o370 P) nl nl) nl) (nd (o302 P) nl nl))))))))
noncomputable def h46 : Params → Heap := fun P => ⟨⟨[boot_o_0 P, boot_o_1 P, boot_o_2 P, boot_o_3 P, boot_o_4 P, boot_o_5 P, boot_o_6 P, boot_o_7 P, boot_o_8 P, boot_o_9 P, boot_o_10 P, o43 P, o44 P, o45 P, o46 P]⟩, {}⟩
noncomputable def h387 : Params → Heap := fun P => ⟨⟨[boot_o_0 P, boot_o_1 P, o201 P, o362 P, boot_o_4 P, boot_o_5 P, boot_o_6 P, boot_o_7 P, boot_o_8 P, boot_o_9 P, boot_o_10 P, o43 P, o363 P, o45 P, o46 P, o51 P, o52 P, o53 P, o54 P, o55 P, o56 P, o57 P, o58 P, o59 P, o60 P, o61 P, o62 P, o63 P, o64 P, o65 P, o66 P, o67 P, o68 P, o69 P, o70 P, o71 P, o72 P, o73 P, o74 P, o75 P, o76 P, o77 P, o78 P, o79 P, o80 P, o81 P, o82 P, o83 P, o84 P, o85 P, o86 P, o87 P, o88 P, o89 P, o90 P, o91 P, o92 P, o93 P, o94 P, o95 P, o96 P, o97 P, o98 P, o99 P, o100 P, o101 P, o102 P, o103 P, o104 P, o105 P, o106 P, o109 P, o110 P, o111 P, o112 P, o113 P, o114 P, o115 P, o116 P, o117 P, o118 P, o119 P, o120 P, o121 P, o122 P, o123 P, o124 P, o125 P, o126 P, o127 P, o128 P, o129 P, o130 P, o131 P, o132 P, o133 P, o134 P, o135 P, o136 P, o137 P, o138 P, o139 P, o140 P, o141 P, o142 P, o143 P, o146 P, o147 P, o148 P, o149 P, o150 P, o151 P, o152 P, o153 P, o154 P, o155 P, o156 P, o157 P, o158 P, o159 P, o160 P, o161 P, o162 P, o163 P, o164 P, o165 P, o166 P, o167 P, o168 P, o169 P, o170 P, o171 P, o172 P, o173 P, o174 P, o175 P, o176 P, o177 P, o178 P, o179 P, o180 P, o181 P, o182 P, o183 P, o184 P, o185 P, o186 P, o187 P, o188 P, o189 P, o190 P, o191 P, o192 P, o193 P, o194 P, o195 P, o196 P, o197 P, o198 P, o199 P, o200 P, o204 P, o205 P, o206 P, o207 P, o208 P, o209 P, o210 P, o211 P, o212 P, o213 P, o214 P, o215 P, o216 P, o217 P, o218 P, o219 P, o220 P, o221 P, o222 P, o223 P, o224 P, o225 P, o226 P, o227 P, o228 P, o229 P, o230 P, o231 P, o232 P, o233 P, o234 P, o241 P, o236 P, o237 P, o238 P, o242 P, o243 P, o244 P, o245 P, o246 P, o247 P, o248 P, o249 P, o250 P, o251 P, o252 P, o253 P, o254 P, o255 P, o256 P, o257 P, o258 P, o259 P, o260 P, o261 P, o262 P, o263 P, o264 P, o265 P, o266 P, o267 P, o268 P, o269 P, o270 P, o271 P, o272 P, o273 P, o274 P, o275 P, o276 P, o277 P, o278 P, o279 P, o280 P, o281 P, o282 P, o283 P, o284 P, o285 P, o286 P, o287 P, o290 P, o291 P, o292 P, o293 P, o294 P, o295 P, o296 P, o297 P, o298 P, o299 P, o300 P, o301 P, o302 P, o303 P, o304 P, o305 P, o306 P, o307 P, o308 P, o309 P, o310 P, o313 P, o314 P, o315 P, o316 P, o317 P, o318 P, o319 P, o320 P, o321 P, o322 P, o323 P, o324 P, o325 P, o326 P, o327 P, o328 P, o329 P, o330 P, o331 P, o332 P, o333 P, o334 P, o335 P, o336 P, o337 P, o338 P, o339 P, o340 P, o341 P, o342 P, o343 P, o344 P, o345 P, o346 P, o347 P, o348 P, o349 P, o350 P, o351 P, o352 P, o353 P, o354 P, o355 P, o356 P, o357 P, o358 P, o359 P, o360 P, o361 P, o364 P, o365 P, o366 P, o367 P, o368 P, o369 P, o370 P, o371 P, o372 P, o373 P, o374 P, o375 P, o376 P, o377 P, o378 P, o379 P, o380 P, o381 P, o382 P, o383 P, o384 P]⟩, {}⟩
noncomputable def K39 : Params → Frag := fun P => [(2, o201 P), (3, o362 P), (15, o51 P), (17, o53 P), (18, o54 P), (20, o56 P), (21, o57 P), (29, o65 P), (31, o67 P), (32, o68 P), (34, o70 P), (35, o71 P), (36, o72 P), (38, o74 P), (39, o75 P), (41, o77 P), (42, o78 P), (43, o79 P), (45, o81 P), (46, o82 P), (48, o84 P), (49, o85 P), (50, o86 P), (52, o88 P), (53, o89 P), (55, o91 P), (56, o92 P), (57, o93 P), (58, o94 P), (59, o95 P), (60, o96 P), (61, o97 P), (64, o100 P), (66, o102 P), (67, o103 P), (69, o105 P), (70, o106 P), (78, o116 P), (80, o118 P), (81, o119 P), (83, o121 P), (84, o122 P), (85, o123 P), (87, o125 P), (88, o126 P), (90, o128 P), (91, o129 P), (92, o130 P), (94, o132 P), (95, o133 P), (97, o135 P), (98, o136 P), (99, o137 P), (100, o138 P), (101, o139 P), (102, o140 P), (103, o141 P), (113, o153 P), (114, o154 P), (116, o156 P), (117, o157 P), (119, o159 P), (120, o160 P), (121, o161 P), (123, o163 P), (124, o164 P), (126, o166 P), (127, o167 P), (128, o168 P), (130, o170 P), (131, o171 P), (133, o173 P), (134, o174 P), (135, o175 P), (137, o177 P), (138, o178 P), (140, o180 P), (141, o181 P), (142, o182 P), (143, o183 P), (144, o184 P), (145, o185 P), (146, o186 P), (149, o189 P), (152, o192 P), (153, o193 P), (154, o194 P), (156, o196 P), (157, o197 P), (159, o199 P), (160, o200 P), (161, o204 P), (164, o207 P), (165, o208 P), (166, o209 P), (169, o212 P), (174, o217 P), (175, o218 P), (176, o219 P), (178, o221 P), (179, o222 P), (181, o224 P), (182, o225 P), (183, o226 P), (185, o228 P), (186, o229 P), (188, o231 P), (189, o232 P), (190, o233 P), (191, o234 P), (192, o241 P), (193, o236 P), (196, o242 P), (203, o249 P), (204, o250 P), (205, o251 P), (208, o254 P), (210, o256 P), (211, o257 P), (213, o259 P), (214, o260 P), (215, o261 P), (218, o264 P), (219, o265 P), (220, o266 P), (223, o269 P), (224, o270 P), (225, o271 P), (227, o273 P), (228, o274 P), (230, o276 P), (231, o277 P), (232, o278 P), (235, o281 P), (236, o282 P), (237, o283 P), (240, o286 P), (241, o287 P), (242, o290 P), (244, o292 P), (245, o293 P), (247, o295 P), (248, o296 P), (249, o297 P), (251, o299 P), (252, o300 P), (254, o302 P), (255, o303 P), (256, o304 P), (258, o306 P), (259, o307 P), (261, o309 P), (262, o310 P), (270, o320 P), (272, o322 P), (273, o323 P), (275, o325 P), (276, o326 P), (277, o327 P), (279, o329 P), (280, o330 P), (282, o332 P), (283, o333 P), (284, o334 P), (286, o336 P), (287, o337 P), (289, o339 P), (290, o340 P), (291, o341 P), (293, o343 P), (294, o344 P), (296, o346 P), (297, o347 P), (298, o348 P), (299, o349 P), (300, o350 P), (301, o351 P), (302, o352 P), (305, o355 P), (307, o357 P), (308, o358 P), (310, o360 P), (311, o361 P), (312, o364 P), (313, o365 P), (316, o368 P), (317, o369 P), (318, o370 P), (321, o373 P), (322, o374 P), (323, o375 P), (326, o378 P), (327, o379 P), (328, o380 P), (331, o383 P), (332, o384 P)]
def as39 : List Addr := [2, 3, 15, 17, 18, 20, 21, 29, 31, 32, 34, 35, 36, 38, 39, 41, 42, 43, 45, 46, 48, 49, 50, 52, 53, 55, 56, 57, 58, 59, 60, 61, 64, 66, 67, 69, 70, 78, 80, 81, 83, 84, 85, 87, 88, 90, 91, 92, 94, 95, 97, 98, 99, 100, 101, 102, 103, 113, 114, 116, 117, 119, 120, 121, 123, 124, 126, 127, 128, 130, 131, 133, 134, 135, 137, 138, 140, 141, 142, 143, 144, 145, 146, 149, 152, 153, 154, 156, 157, 159, 160, 161, 164, 165, 166, 169, 174, 175, 176, 178, 179, 181, 182, 183, 185, 186, 188, 189, 190, 191, 192, 193, 196, 203, 204, 205, 208, 210, 211, 213, 214, 215, 218, 219, 220, 223, 224, 225, 227, 228, 230, 231, 232, 235, 236, 237, 240, 241, 242, 244, 245, 247, 248, 249, 251, 252, 254, 255, 256, 258, 259, 261, 262, 270, 272, 273, 275, 276, 277, 279, 280, 282, 283, 284, 286, 287, 289, 290, 291, 293, 294, 296, 297, 298, 299, 300, 301, 302, 305, 307, 308, 310, 311, 312, 313, 316, 317, 318, 321, 322, 323, 326, 327, 328, 331, 332]
theorem as_ok : ∀ P, as39 = (K39 P).map (·.1) := fun P => by kernel_rfl
abbrev pw : Program := PySem.Challenge.pw_pb0185_01
noncomputable def q0 : Program := { pw with main := { pw.main with body := [st 0, st 2, st 3, st 5, st 6, st 7, st 8, st 9, st 10, st 11, st 12, st 14, st 15, st 17, st 18, st 19, st 20, st 21, st 22, st 23, st 24, st 26, st 28, st 30, st 31, st 32, st 33, st 34, st 35] } }
def loose0 : List Str := [Str.ofString "ShapeError", Str.ofString "_law_names"]
noncomputable def env0 : Env := { scope := pw.main.scope, locals := mainNs, globals := mainNs, cells := [], code := Value.ref 13, frame := some 14 }
noncomputable def C0 : Code := Code.body (behindTheImports pw) env0
def z0 : Pos := ⟨0, 0, 0, 0⟩
abbrev an0 : Option Value := some (.ref 6)
noncomputable def s49 : List Stmt := [st 0, st 1, st 2, st 3, st 4]
noncomputable def s107 : List Stmt := [st 5, st 6, st 7, st 8]
noncomputable def s144 : List Stmt := [st 9, st 10, st 11]
noncomputable def s201 : List Stmt := [st 12, st 13, st 14]
noncomputable def s239 : List Stmt := [st 15, st 16, st 17, st 18, st 19, st 20, st 21, st 22]
noncomputable def s288 : List Stmt := [st 23, st 24, st 25, st 26, st 27]
noncomputable def s311 : List Stmt := [st 28, st 29, st 30]
noncomputable def s362 : List Stmt := [st 31, st 32, st 33, st 34, st 35]
theorem parts : behindTheImports pw = s49 ++ (s107 ++ (s144 ++ (s201 ++ (s239 ++ (s288 ++ (s311 ++ (s362 ++ ([])))))))) := by kernel_rfl
theorem pre0 (w : World) : (fun os => topGo treeTable pw w 11 an0 12 ⟨boot_heap w.params, #[], boot_drawn, boot_toks, os⟩ (topStub pw)) =
    fun os => some (⟨h46 w.params, #[], {}, 187, os⟩, ⟨denote treeTable C0, C0, z0, [topFrame z0]⟩) := by
  rewrite [PySem.W.Fast.te15667345088766844465, PySem.W.Fast.te14364793385576792824, PySem.W.Fast.te11892475500146522536]; kernel_rfl
theorem blk0 (w : World) : (fun os => segRun treeTable pw w 11 an0 1 1 ⟨h46 w.params, #[], {}, 187, os⟩ (blockOf (behindTheImports pw) env0 C0 z0 [topFrame z0])) =
    fun os => some (Flow.next, SharedT.abs ⟨t47 w.params, 15, {}, #[], {}, 187, os⟩, C0, z0) := by
  rewrite [PySem.W.Fast.te14374325043358763698, PySem.W.Fast.te14364793385576792824]; kernel_rfl
def Seg (w : World) (n : Nat) (t : Params → BT) (k tk : Nat) (ss : List Stmt) (q : Pos) (t' : Params → BT) (k' tk' : Nat) (q' : Pos) : Prop :=
  (fun os => segRunT treeTable pw w 11 an0 1 n ⟨t w.params, k, {}, #[], {}, tk, os⟩ (piecesOf ss env0 C0 q [topFrame z0])) =
    fun os => some (Flow.next, ⟨t' w.params, k', {}, #[], {}, tk', os⟩, C0, q')
theorem Seg.run {w : World} {n : Nat} {t : Params → BT} {k tk : Nat} {ss : List Stmt} {q : Pos} {t' : Params → BT} {k' tk' : Nat} {q' : Pos} (h : Seg w n t k tk ss q t' k' tk' q') (os : OsState) :
    segRun treeTable pw w 11 an0 1 n (SharedT.abs ⟨t w.params, k, {}, #[], {}, tk, os⟩) (piecesOf ss env0 C0 q [topFrame z0]) = some (Flow.next, SharedT.abs ⟨t' w.params, k', {}, #[], {}, tk', os⟩, C0, q') :=
  segRun_of (congrFun h os)
theorem p107 (w : World) : Seg w 399 t47 15 187 s49 z0 t106 71 262 ⟨33, 0, 33, 8⟩ := by
  unfold Seg; rewrite [PySem.W.Fast.te10110043849684766642, PySem.W.Fast.te14364793385576792824]; kernel_rfl
theorem p144 (w : World) : Seg w 318 t106 71 262 s107 ⟨33, 0, 33, 8⟩ t143 106 317 ⟨37, 0, 49, 16⟩ := by
  unfold Seg; rewrite [PySem.W.Fast.te10110043849684766642, PySem.W.Fast.te14364793385576792824]; kernel_rfl
theorem p201 (w : World) : Seg w 388 t143 106 317 s144 ⟨37, 0, 49, 16⟩ t200 161 396 ⟨75, 0, 78, 130⟩ := by
  unfold Seg; rewrite [PySem.W.Fast.te10110043849684766642, PySem.W.Fast.te14364793385576792824]; kernel_rfl
theorem p239 (w : World) : Seg w 320 t200 161 396 s201 ⟨75, 0, 78, 130⟩ t238 196 446 ⟨88, 0, 96, 16⟩ := by
  unfold Seg; rewrite [PySem.W.Fast.te10110043849684766642, PySem.W.Fast.te14364793385576792824]; kernel_rfl
theorem p288 (w : World) : Seg w 390 t238 196 446 s239 ⟨88, 0, 96, 16⟩ t287 242 507 ⟨118, 0, 120, 77⟩ := by
  unfold Seg; rewrite [PySem.W.Fast.te10110043849684766642, PySem.W.Fast.te14364793385576792824]; kernel_rfl
theorem p311 (w : World) : Seg w 117 t287 242 507 s288 ⟨118, 0, 120, 77⟩ t310 263 543 ⟨150, 0, 150, 8⟩ := by
  unfold Seg; rewrite [PySem.W.Fast.te10110043849684766642, PySem.W.Fast.te14364793385576792824]; kernel_rfl
theorem p362 (w : World) : Seg w 358 t310 263 543 s311 ⟨150, 0, 150, 8⟩ t361 312 606 ⟨168, 0, 173, 56⟩ := by
  unfold Seg; rewrite [PySem.W.Fast.te10110043849684766642, PySem.W.Fast.te14364793385576792824]; kernel_rfl
theorem p385f (w : World) : Seg (w.withFollow "special-get-raises" false) 175 t361 312 606 s362 ⟨168, 0, 173, 56⟩ t384 333 643 ⟨190, 0, 208, 15⟩ := by
  unfold Seg; rewrite [PySem.W.Fast.te10110043849684766642, PySem.W.Fast.te14364793385576792824]; kernel_rfl
theorem p385t (w : World) : Seg (w.withFollow "special-get-raises" true) 175 t361 312 606 s362 ⟨168, 0, 173, 56⟩ t384 333 643 ⟨190, 0, 208, 15⟩ := by
  unfold Seg; rewrite [PySem.W.Fast.te10110043849684766642, PySem.W.Fast.te14364793385576792824]; kernel_rfl
theorem p385 (w : World) : Seg w 175 t361 312 606 s362 ⟨168, 0, 173, 56⟩ t384 333 643 ⟨190, 0, 208, 15⟩ := byRow2 "special-get-raises" (P := fun w => Seg w 175 t361 312 606 s362 ⟨168, 0, 173, 56⟩ t384 333 643 ⟨190, 0, 208, 15⟩) p385f p385t w
theorem fin0 (w : World) : (fun os => topRun treeTable pw w 11 an0 2 (SharedT.abs ⟨t384 w.params, 333, {}, #[], {}, 643, os⟩) ⟨doneF Flow.next, C0, ⟨190, 0, 208, 15⟩, [topFrame z0]⟩) =
    fun os => some ⟨h387 w.params, #[], {}, 643, os⟩ := by
  rewrite [PySem.W.Fast.te14082659384304107361, PySem.W.Fast.te14364793385576792824]; kernel_rfl
theorem run0 (w : World) (os : OsState) : topRun treeTable pw w 11 an0 (12 + (1 + (399 + (318 + (388 + (320 + (390 + (117 + (358 + (175 + 2)))))))))) ⟨boot_heap w.params, #[], boot_drawn, boot_toks, os⟩ (topStub pw) = some ⟨h387 w.params, #[], {}, 643, os⟩ := by
  refine go_top (congrFun (pre0 w) os) (piece_block (congrFun (blk0 w) os) ?_)
  have e : restOf (behindTheImports pw) env0 C0 z0 [topFrame z0] = restOf (s49 ++ (s107 ++ (s144 ++ (s201 ++ (s239 ++ (s288 ++ (s311 ++ (s362 ++ ([]))))))))) env0 C0 z0 [topFrame z0] := congrArg (fun b => restOf b env0 C0 z0 [topFrame z0]) parts
  refine (congrArg (topRun treeTable pw w 11 an0 _ _) e).trans ?_
  exact piece_app ((p107 w).run os) (piece_app ((p144 w).run os) (piece_app ((p201 w).run os) (piece_app ((p239 w).run os) (piece_app ((p288 w).run os) (piece_app ((p311 w).run os) (piece_app ((p362 w).run os) (piece_app ((p385 w).run os) ((piece_nil (congrFun (fin0 w) os))))))))))
theorem lk2 (w : World) : (fun os => seen ((recsOf q0).map (·.name)) (ownsOf q0) [] { (⟨h387 w.params, #[], {}, 643, os⟩ : Shared) with gens := #[] }) = fun _ => expectedOf q0 := by
  rewrite [PySem.W.Fast.te5160383126252970620, PySem.W.R.mapR_eq, PySem.W.Fast.te3399658132070893891, PySem.W.Fast.te5991557255702980513]; kernel_rfl
theorem lk3 (w : World) : (fun os => (⟨h387 w.params, #[], {}, 643, os⟩ : Shared).heap.bltView) = fun _ => bltViewBooted := by
  kernel_rfl
theorem lk5 (w : World) : (fun os => tabsOk q0 (⟨h387 w.params, #[], {}, 643, os⟩ : Shared)) = fun _ => true := by
  rewrite [PySem.W.Fast.te479339242167458305]; kernel_rfl
theorem lk6 (w : World) : (fun os => pinSeenD q0 (drecsOf q0) (⟨h387 w.params, #[], {}, 643, os⟩ : Shared)) = fun _ => pinGoodD (drecsOf q0) := by
  rewrite [PySem.W.Fast.te16090120013241838585, PySem.W.Fast.te3247288618530077131]; kernel_rfl
theorem lk7 (w : World) : (fun os => plainSeenE q0 (looseW q0 loose0) (⟨h387 w.params, #[], {}, 643, os⟩ : Shared)) = fun _ => plainGoodE q0 (looseW q0 loose0) := by
  rewrite [PySem.W.Fast.te2386780881361962483, PySem.W.Fast.te821141287760084731]; kernel_rfl
theorem lk8 (w : World) : (fun os => plainSeenD q0 loose0 (⟨h387 w.params, #[], {}, 643, os⟩ : Shared)) = fun _ => plainGoodD q0 loose0 := by
  rewrite [PySem.W.Fast.te11698064438423848299]; kernel_rfl
theorem lk9 (w : World) : (fun os => wideSeen q0 (⟨h387 w.params, #[], {}, 643, os⟩ : Shared)) = fun _ => wideGood q0 := by
  rewrite [PySem.W.Fast.te7317090234206586261]; kernel_rfl
theorem lk10 (w : World) : (fun os => clsSeenW q0 loose0 (⟨h387 w.params, #[], {}, 643, os⟩ : Shared)) = fun _ => clsGoodW q0 loose0 := by
  rewrite [PySem.W.Fast.te7369524293546568484]; kernel_rfl
theorem lk11 (w : World) : (fun os => (kHook K39 as39 as_ok).obs (⟨h387 w.params, #[], {}, 643, os⟩ : Shared)) = fun _ => (kHook K39 as39 as_ok).val w := by
  kernel_rfl
theorem size0 (w : World) : ((boot_heap w.params).isNs mainGlobals && (#[] : Array GenState).size == 0, (boot_heap w.params).objs.size, (boot_heap w.params).nsMap mainGlobals "__annotations__") = (true, 11, an0) := by
  rewrite [PySem.W.Fast.te8920871248978507458]; kernel_rfl
theorem open1 : opening pw = plainProg pw.main.scope.names := by kernel_rfl
theorem open2 (s : Shared) : fenceModules? pw s = some s := by kernel_rfl
theorem left0 : LeftO pw q0 loose0 (fun s => xlAt q0 [] s && recOk (RowW.records PySem.Challenge.rw_pb0185_01.row.toRowW) s) (kHook K39 as39 as_ok).obs (kHook K39 as39 as_ok).val 5040 :=
  LeftO.of_pieces (boot_open open1 (by decide) open2) size0 run0 (by decide) (fun w => funext fun os =>
    looks_pair (by rewrite [PySem.W.Fast.te5923862056798008813]; kernel_rfl) (looks_pair (looks_pair (congrFun (lk2 w) os) (looks_pair (congrFun (lk3 w) os) (looks_pair (by rewrite [PySem.W.Fast.te10880121769531294198, PySem.W.Fast.te821141287760084731, PySem.W.R.mapR_eq, PySem.W.Fast.te3399658132070893891, PySem.W.Fast.te7409074990110511671, PySem.W.Fast.te13664370479719496447, PySem.W.Fast.te14722251495701143533, PySem.W.Fast.te5923862056798008813, PySem.W.Fast.te10994771534591457954]; kernel_rfl) (looks_pair (congrFun (lk5 w) os)
      (looks_pair (congrFun (lk6 w) os) (looks_pair (congrFun (lk7 w) os) (looks_pair (congrFun (lk8 w) os) (looks_pair (congrFun (lk9 w) os) (congrFun (lk10 w) os))))))))) (congrFun (lk11 w) os)))
end HdT

/-! part Lay1 -/
namespace Mine

inductive PV where
  | none
  | bool (b : Bool)
  | int (i : Int)
  | str (s : Str)
  | tup (l : List PV)
  | lst (l : List PV)
  | dictI (l : List (Int × PV))
  | dictS (l : List (Str × PV))
  | obj (c : Addr) (fs : List (Str × PV))
  | mref (i : Nat)
  | raw (a : Addr)

inductive MO where
  | lst (l : List PV)
  | arr (l : List PV)
  | dict (l : List (Int × PV))

abbrev St := List MO

structure Cfg where
  g : Addr → Option Obj
  ρ : List Addr

section
variable (prog : Program) (w : World)

mutual
inductive Rep (C : Cfg) : Value → PV → Prop
  | none : Rep C .none .none
  | bool (b : Bool) : Rep C (.bool b) (.bool b)
  | int (i : Int) (t : Tok) : Rep C (.int i t) (.int i)
  | str (x : Str) (t : Tok) : Rep C (.str x t) (.str x)
  | tup {a : Addr} {o : Obj} {items : List Value} {n : Nat} {l : List PV} : C.g a = some o → o.cls = .type "tuple" → o.data = .seq items.toArray n → RepL C items l → items.length ≤ 100000 → Rep C (.ref a) (.tup l)
  | lst {a : Addr} {o : Obj} {items : List Value} {n : Nat} {l : List PV} : C.g a = some o → o.cls = .type "list" → o.dict = none → o.data = .seq items.toArray n → RepL C items l → items.length ≤ 100000 → Rep C (.ref a) (.lst l)
  | dictI {a : Addr} {o : Obj} {kvs : List (Int × Value)} {l : List (Int × PV)} : C.g a = some o → (a == sysModules) = false → o.IsDictOf (intKind prog w) kvs → RepDI C kvs l → Rep C (.ref a) (.dictI l)
  | dictS {a : Addr} {o : Obj} {kvs : List (Str × Value)} {l : List (Str × PV)} : C.g a = some o → (a == sysModules) = false → o.IsDictOf (strKind prog w) kvs → RepDS C kvs l → Rep C (.ref a) (.dictS l)
  | obj {a dx c : Addr} {sl : Array (Option Value)} {es : List DictEntry} {n : Nat} {fs : List (Str × PV)} : C.g a = some ⟨.ref c, some dx, .plain, sl⟩ → C.g dx = some (dictOf es n) → RepF C es fs → Rep C (.ref a) (.obj c fs)
  | mref {a : Addr} {i : Nat} : C.ρ[i]? = some a → Rep C (.ref a) (.mref i)
  | raw (a : Addr) : Rep C (.ref a) (.raw a)
inductive RepL (C : Cfg) : List Value → List PV → Prop
  | nil : RepL C [] []
  | cons {v : Value} {p : PV} {vs : List Value} {ps : List PV} : Rep C v p → RepL C vs ps → RepL C (v :: vs) (p :: ps)
inductive RepDI (C : Cfg) : List (Int × Value) → List (Int × PV) → Prop
  | nil : RepDI C [] []
  | cons {k : Int} {v : Value} {p : PV} {vs : List (Int × Value)} {ps : List (Int × PV)} : Rep C v p → RepDI C vs ps → RepDI C ((k, v) :: vs) ((k, p) :: ps)
inductive RepDS (C : Cfg) : List (Str × Value) → List (Str × PV) → Prop
  | nil : RepDS C [] []
  | cons {k : Str} {v : Value} {p : PV} {vs : List (Str × Value)} {ps : List (Str × PV)} : Rep C v p → RepDS C vs ps → RepDS C ((k, v) :: vs) ((k, p) :: ps)
inductive RepF (C : Cfg) : List DictEntry → List (Str × PV) → Prop
  | nil : RepF C [] []
  | cons {h : Int} {k : Str} {t : Tok} {v : Value} {p : PV} {vs : List DictEntry} {ps : List (Str × PV)} : Rep C v p → RepF C vs ps → RepF C (⟨h, .str k t, v⟩ :: vs) ((k, p) :: ps)
end
end

structure CLe (C C' : Cfg) : Prop where
  g : ∀ b o, C.g b = some o → C'.g b = some o
  ρ : ∃ r, C'.ρ = C.ρ ++ r

theorem CLe.refl (C : Cfg) : CLe C C := ⟨fun _ _ e => e, [], by simp⟩
theorem CLe.trans {C₁ C₂ C₃ : Cfg} (a : CLe C₁ C₂) (b : CLe C₂ C₃) : CLe C₁ C₃ := ⟨fun x o e => b.g x o (a.g x o e), by
  obtain ⟨r, hr⟩ := a.ρ; obtain ⟨r', hr'⟩ := b.ρ; exact ⟨r ++ r', by rw [hr', hr, List.append_assoc]⟩⟩
theorem CLe.at {C C' : Cfg} (a : CLe C C') {i : Nat} {x : Addr} (h : C.ρ[i]? = some x) : C'.ρ[i]? = some x := by
  obtain ⟨r, hr⟩ := a.ρ
  rw [hr, List.getElem?_append_left (List.getElem?_eq_some_iff.mp h).1, h]

section
variable {prog : Program} {w : World} {C C' : Cfg} (le : CLe C C')
include le
mutual
theorem Rep.mono {v : Value} {p : PV} (h : Rep prog w C v p) : Rep prog w C' v p := match h with
  | .none => .none
  | .bool b => .bool b
  | .int i t => .int i t
  | .str x t => .str x t
  | .tup a b c r z => .tup (le.g _ _ a) b c (RepL.mono r) z
  | .lst a b d c r z => .lst (le.g _ _ a) b d c (RepL.mono r) z
  | .dictI a b c r => .dictI (le.g _ _ a) b c (RepDI.mono r)
  | .dictS a b c r => .dictS (le.g _ _ a) b c (RepDS.mono r)
  | .obj a b r => .obj (le.g _ _ a) (le.g _ _ b) (RepF.mono r)
  | .mref a => .mref (le.at a)
  | .raw a => .raw a
theorem RepL.mono {v : List Value} {p : List PV} (h : RepL prog w C v p) : RepL prog w C' v p := match h with
  | .nil => .nil
  | .cons a r => .cons (Rep.mono a) (RepL.mono r)
theorem RepDI.mono {v : List (Int × Value)} {p : List (Int × PV)} (h : RepDI prog w C v p) : RepDI prog w C' v p := match h with
  | .nil => .nil
  | .cons a r => .cons (Rep.mono a) (RepDI.mono r)
theorem RepDS.mono {v : List (Str × Value)} {p : List (Str × PV)} (h : RepDS prog w C v p) : RepDS prog w C' v p := match h with
  | .nil => .nil
  | .cons a r => .cons (Rep.mono a) (RepDS.mono r)
theorem RepF.mono {v : List DictEntry} {p : List (Str × PV)} (h : RepF prog w C v p) : RepF prog w C' v p := match h with
  | .nil => .nil
  | .cons a r => .cons (Rep.mono a) (RepF.mono r)
end
end

section
variable {prog : Program} {w : World} {C : Cfg}

theorem RepL.length {vs : List Value} {ps : List PV} (h : RepL prog w C vs ps) : vs.length = ps.length := by
  induction vs generalizing ps with
  | nil => cases h; rfl
  | cons v vs ih => cases h with | cons a r => simp [ih r]
theorem RepL.get {vs : List Value} {ps : List PV} (h : RepL prog w C vs ps) {i : Nat} {p : PV} (hp : ps[i]? = some p) : ∃ v, vs[i]? = some v ∧ Rep prog w C v p := by
  induction vs generalizing ps i with
  | nil => cases h; simp at hp
  | cons v vs ih =>
    cases h with
    | cons a r =>
      cases i with
      | zero => simp at hp; subst hp; exact ⟨v, rfl, a⟩
      | succ i => simp at hp; simpa using ih r hp
theorem RepL.get' {vs : List Value} {ps : List PV} (h : RepL prog w C vs ps) {i : Nat} {v : Value} (hp : vs[i]? = some v) : ∃ p, ps[i]? = some p ∧ Rep prog w C v p := by
  induction vs generalizing ps i with
  | nil => simp at hp
  | cons v vs ih =>
    cases h with
    | cons a r =>
      cases i with
      | zero => simp at hp; subst hp; exact ⟨_, rfl, a⟩
      | succ i => simp at hp; simpa using ih r hp
theorem RepL.append {vs vs' : List Value} {ps ps' : List PV} (h : RepL prog w C vs ps) (h' : RepL prog w C vs' ps') : RepL prog w C (vs ++ vs') (ps ++ ps') := by
  induction vs generalizing ps with
  | nil => cases h; exact h'
  | cons v vs ih => cases h with | cons a r => exact .cons a (ih r)
theorem RepL.one {v : Value} {p : PV} (h : Rep prog w C v p) : RepL prog w C [v] [p] := .cons h .nil
theorem RepL.drop {vs : List Value} {ps : List PV} (n : Nat) (h : RepL prog w C vs ps) : RepL prog w C (vs.drop n) (ps.drop n) := by
  induction n generalizing vs ps with
  | zero => simpa using h
  | succ n ih => cases h with
    | nil => exact .nil
    | cons a r => simpa using ih r
theorem RepL.take {vs : List Value} {ps : List PV} (n : Nat) (h : RepL prog w C vs ps) : RepL prog w C (vs.take n) (ps.take n) := by
  induction n generalizing vs ps with
  | zero => simpa using .nil
  | succ n ih => cases h with
    | nil => exact .nil
    | cons a r => simpa using .cons a (ih r)
theorem RepL.reverse {vs : List Value} {ps : List PV} (h : RepL prog w C vs ps) : RepL prog w C vs.reverse ps.reverse := by
  induction vs generalizing ps with
  | nil => cases h; exact .nil
  | cons v vs ih => cases h with | cons a r => simpa using (ih r).append (.one a)
theorem RepL.ints {vs : List Value} {ns : List Int} (h : RepL prog w C vs (ns.map .int)) : IntsAre vs ns := by
  induction vs generalizing ns with
  | nil => cases ns with | nil => exact .nil | cons n ns => cases h
  | cons v vs ih => cases ns with
    | nil => cases h
    | cons n ns => cases h with | cons a r => cases a; exact .cons _ _ (ih r)
theorem RepL.of_ints {vs : List Value} {ns : List Int} (h : IntsAre vs ns) : RepL prog w C vs (ns.map .int) := by
  induction h with
  | nil => exact .nil
  | cons _ _ _ ih => exact .cons (.int _ _) ih
end
end Mine

/-! part Lay2 -/
namespace Mine

structure Wd where
  prog : Program
  w : World
  s₀ : Shared
  K : Frag

def bnames : List Str := ["len", "int", "sum", "range", "sorted", "tuple", "list", "max", "str", "dict", "enumerate"]

structure Base (W : Wd) : Prop where
  kx : W.K.In W.s₀.heap
  glob : ∃ mg mb, W.s₀.heap.Ns mainGlobals mg ∧ W.s₀.heap.Ns builtinsNs mb ∧ (∀ x ∈ bnames, mg x = none) ∧ (∀ x, x ≠ Str.ofString "__name__" → mb x = bootBuiltins x)
  nolimit : W.s₀.heap.NoLimit
  digits : ∃ mc, W.s₀.heap.Ns cStatics mc ∧ mc (Str.ofString "sys.int_max_str_digits") = none
  gens : W.s₀.gens = #[]

inductive MRep (W : Wd) (C : Cfg) (h : Heap) (a : Addr) : MO → Prop
  | lst {items : List Value} {l : List PV} : PlainL h a items.toArray → RepL W.prog W.w C items l → items.length ≤ 100000 → MRep W C h a (.lst l)
  | arr {items : List Value} {l : List PV} : h.IsList a items.toArray → RepL W.prog W.w C items l → items.length ≤ 100000 → MRep W C h a (.arr l)
  | dict {kvs : List (Int × Value)} {l : List (Int × PV)} : (a == sysModules) = false → h.DictOf (intKind W.prog W.w) a kvs → RepDI W.prog W.w C kvs l → kvs.length ≤ 100000 → MRep W C h a (.dict l)

theorem MRep.mono {W : Wd} {C C' : Cfg} {h h' : Heap} {a : Addr} {m : MO} (x : MRep W C h a m) (le : CLe C C') (hk : ∀ o, h.get? a = some o → h'.get? a = some o) : MRep W C' h' a m := by
  cases x with
  | lst p r z => exact .lst (let ⟨o, n, e, q⟩ := p; ⟨o, n, hk o e, q⟩) (r.mono le) z
  | arr p r z => exact .arr (let ⟨o, e, c, n, q⟩ := p; ⟨o, hk o e, c, n, q⟩) (r.mono le) z
  | dict q p r z => exact .dict q (let ⟨o, es, ep, e, q⟩ := p; ⟨o, es, ep, hk o e, q⟩) (r.mono le) z
theorem MRep.ex {W : Wd} {C : Cfg} {h : Heap} {a : Addr} {m : MO} (x : MRep W C h a m) : ∃ o, h.get? a = some o := by
  cases x with
  | lst p r z => exact let ⟨o, n, e, q⟩ := p; ⟨o, e⟩
  | arr p r z => exact let ⟨o, e, q⟩ := p; ⟨o, e⟩
  | dict q p r z => exact let ⟨o, es, ep, e, q⟩ := p; ⟨o, e⟩

structure HOK (W : Wd) (C : Cfg) (st : St) (s : Shared) : Prop where
  same : ∃ h tk, s = { W.s₀ with heap := h, toks := tk }
  base : ∀ b o, W.s₀.heap.get? b = some o → C.g b = some o
  ghost : ∀ b o, C.g b = some o → s.heap.get? b = some o
  len : C.ρ.length = st.length
  muts : ∀ (i : Nat) (a : Addr) (mo : MO), C.ρ[i]? = some a → st[i]? = some mo → MRep W C s.heap a mo
  nodup : C.ρ.Nodup
  apart : ∀ a ∈ C.ρ, C.g a = none

structure Ext (X : List Addr) (C : Cfg) (s : Shared) (C' : Cfg) (s' : Shared) : Prop where
  le : CLe C C'
  new : ∀ b o, b ∉ X → s.heap.get? b = some o → C.g b = none → C'.g b = none
  ρnew : ∀ b o, b ∉ X → s.heap.get? b = some o → b ∈ C'.ρ → b ∈ C.ρ
  keep : ∀ b o, b ∉ X → s.heap.get? b = some o → ∃ o', s'.heap.get? b = some o' ∧ (b ∉ C.ρ → o' = o)

theorem Ext.refl (X : List Addr) (C : Cfg) (s : Shared) : Ext X C s C s := ⟨.refl C, fun _ _ _ _ h => h, fun _ _ _ _ h => h, fun b o _ e => ⟨o, e, fun _ => rfl⟩⟩
theorem Ext.trans {X : List Addr} {C₁ C₂ C₃ : Cfg} {s₁ s₂ s₃ : Shared} (a : Ext X C₁ s₁ C₂ s₂) (b : Ext X C₂ s₂ C₃ s₃) : Ext X C₁ s₁ C₃ s₃ where
  le := a.le.trans b.le
  new := fun x o n e h => let ⟨o', e', _⟩ := a.keep x o n e; b.new x o' n e' (a.new x o n e h)
  ρnew := fun x o n e h => let ⟨o', e', _⟩ := a.keep x o n e; a.ρnew x o n e (b.ρnew x o' n e' h)
  keep := fun x o n e => by
    obtain ⟨o', e', q⟩ := a.keep x o n e
    obtain ⟨o'', e'', q'⟩ := b.keep x o' n e'
    exact ⟨o'', e'', fun h => by rw [q' (fun h' => h (a.ρnew x o n e h')), q h]⟩
theorem Ext.wide {X Y : List Addr} {C C' : Cfg} {s s' : Shared} (a : Ext X C s C' s') (h : ∀ x ∈ X, x ∈ Y) : Ext Y C s C' s' :=
  ⟨a.le, fun b o n => a.new b o fun m => n (h b m), fun b o n => a.ρnew b o fun m => n (h b m), fun b o n => a.keep b o fun m => n (h b m)⟩
theorem Ext.nil {X : List Addr} {C C' : Cfg} {s s' : Shared} (a : Ext [] C s C' s') : Ext X C s C' s' := a.wide (by simp)
theorem Ext.same {X : List Addr} {C C' : Cfg} {s s' : Shared} (a : Ext X C s C' s') {b : Addr} {o : Obj} (e : s.heap.get? b = some o) (h : b ∉ C.ρ) (hX : b ∉ X) : s'.heap.get? b = some o := by
  obtain ⟨o', e', q⟩ := a.keep b o hX e; rw [e', q h]
/-- what was not there at the start needs no word -/
theorem Ext.hide {X Y : List Addr} {C C' : Cfg} {s s' : Shared} (a : Ext Y C s C' s') (h : ∀ x ∈ Y, x ∉ X → s.heap.get? x = none) : Ext X C s C' s' :=
  have k : ∀ b o, b ∉ X → s.heap.get? b = some o → b ∉ Y := fun b o n e m => by rw [h b m n] at e; cases e
  ⟨a.le, fun b o n e => a.new b o (k b o n e) e, fun b o n e => a.ρnew b o (k b o n e) e, fun b o n e => a.keep b o (k b o n e) e⟩

def frm (env : Env) : List Addr := env.locals :: env.cells.map (·.2)
/-- what the statements of this text may change: a comprehension changes its own names alone -/
def frmW (env : Env) : List Addr := if env.func.isSome then frm env else [env.locals]
theorem frmW_sub {env : Env} {a : Addr} (h : a ∈ frmW env) : a ∈ frm env := by
  unfold frmW at h
  split at h
  · exact h
  · simp at h; subst h; exact List.mem_cons_self
theorem frmW_loc (env : Env) : env.locals ∈ frmW env := by
  unfold frmW
  split <;> simp [frm]

structure Vars where
  own : Bool
  scope : Scope
  vars : List (Str × PV)

structure FrOK (W : Wd) (C : Cfg) (env : Env) (V : Vars) (s : Shared) : Prop where
  scope : env.scope = V.scope
  glob : env.globals = mainGlobals
  bi : env.builtins = builtinsNs
  kind : V.scope.kind = .function
  own : env.func.isSome = V.own
  ns : ∃ m, s.heap.Ns env.locals m ∧ ∀ x pv, V.scope.names.lookup x = some .local → V.vars.lookup x = some pv → ∃ v, m x = some v ∧ Rep W.prog W.w C v pv
  cells : ∀ x, V.scope.names.lookup x = some .cell ∨ V.scope.names.lookup x = some .free →
    ∃ c v, env.cells.lookup x = some c ∧ s.heap.IsCell c v ∧ ∀ pv, V.vars.lookup x = some pv → ∃ v', v = some v' ∧ Rep W.prog W.w C v' pv
  apart : ∀ a ∈ frm env, C.g a = none ∧ a ∉ C.ρ
  ex : ∀ a ∈ frm env, ∃ o, s.heap.get? a = some o
  inj : (frm env).Nodup

theorem mem_of_lookup {x : Str} {c : Addr} : ∀ {l : List (Str × Addr)}, l.lookup x = some c → c ∈ l.map (·.2)
  | [], h => by simp at h
  | (y, d) :: r, h => by
    rw [List.lookup_cons] at h
    split at h
    · cases h; simp
    · simpa using .inr (by simpa using mem_of_lookup h)
theorem lookup_mem {α : Type} {x : Str} {c : α} : ∀ {l : List (Str × α)}, l.lookup x = some c → (x, c) ∈ l
  | [], h => by simp at h
  | (y, d) :: r, h => by
    rw [List.lookup_cons] at h
    split at h
    · rename_i q; cases h; rw [eq_of_beq q]; simp
    · exact List.mem_cons_of_mem _ (lookup_mem h)
theorem frm_cell {env : Env} {x : Str} {c : Addr} (h : env.cells.lookup x = some c) : c ∈ frm env := List.mem_cons_of_mem _ (mem_of_lookup h)
theorem frm_loc (env : Env) : env.locals ∈ frm env := List.mem_cons_self

theorem FrOK.ext {W : Wd} {C C' : Cfg} {env : Env} {V : Vars} {s s' : Shared} {X : List Addr} (f : FrOK W C env V s) (x : Ext X C s C' s') (hX : ∀ a ∈ frm env, a ∉ X) : FrOK W C' env V s' where
  scope := f.scope
  glob := f.glob
  bi := f.bi
  kind := f.kind
  own := f.own
  ns := by
    obtain ⟨m, ⟨o, es, ep, e, r⟩, h⟩ := f.ns
    exact ⟨m, ⟨o, es, ep, x.same e (f.apart _ (frm_loc env)).2 (hX _ (frm_loc env)), r⟩, fun y pv hl hv => let ⟨v, e, r⟩ := h y pv hl hv; ⟨v, e, r.mono x.le⟩⟩
  cells := fun y hy => by
    obtain ⟨c, v, hc, ⟨o, e, d⟩, h⟩ := f.cells y hy
    exact ⟨c, v, hc, ⟨o, x.same e (f.apart _ (frm_cell hc)).2 (hX _ (frm_cell hc)), d⟩, fun pv hv => let ⟨v, e, r⟩ := h pv hv; ⟨v, e, r.mono x.le⟩⟩
  apart := fun a ha => by
    obtain ⟨o, e⟩ := f.ex a ha
    obtain ⟨h1, h2⟩ := f.apart a ha
    exact ⟨x.new a o (hX a ha) e h1, fun h => h2 (x.ρnew a o (hX a ha) e h)⟩
  ex := fun a ha => by
    obtain ⟨o, e⟩ := f.ex a ha
    obtain ⟨o', e', _⟩ := x.keep a o (hX a ha) e
    exact ⟨o', e'⟩
  inj := f.inj

structure Room (D : Nat) (A : Around) : Prop where
  handled : A.handled = none
  depth : A.depth + D < recursionLimit
  units : A.units + 8 * D + 100 < cLine
  guards : A.guards = some []

theorem Room.le {D D' : Nat} {A : Around} (r : Room D A) (h : D' ≤ D) : Room D' A :=
  ⟨r.handled, by have := r.depth; omega, by have := r.units; omega, r.guards⟩
theorem Room.lt {D : Nat} {A : Around} (r : Room D A) : A.depth < recursionLimit := by have := r.depth; omega
theorem Room.uc {D : Nat} {A : Around} (r : Room D A) : A.units + 90 < cLine := by have := r.units; omega

def noE : Value → Shared → Prop := fun _ _ => False

def PostE (W : Wd) (C : Cfg) (s : Shared) (st' : St) (pv : PV) : Value → Shared → Prop := fun v s' => ∃ C', Ext [] C s C' s' ∧ HOK W C' st' s' ∧ Rep W.prog W.w C' v pv
def PostL (W : Wd) (C : Cfg) (s : Shared) (st' : St) (pv : List PV) : List Value → Shared → Prop := fun v s' => ∃ C', Ext [] C s C' s' ∧ HOK W C' st' s' ∧ RepL W.prog W.w C' v pv
def PostT (W : Wd) (C : Cfg) (s : Shared) (st' : St) (b : Bool) : Bool → Shared → Prop := fun v s' => ∃ C', Ext [] C s C' s' ∧ HOK W C' st' s' ∧ v = b

def SE (W : Wd) (D : Nat) (V : Vars) (e : Expr) (st : St) (pv : PV) (st' : St) : Prop :=
  ∀ A C env s, Room D A → HOK W C st s → FrOK W C env V s → wpAny (model W.prog W.w) A (eval e env) (PostE W C s st' pv) noE s
def ST (W : Wd) (D : Nat) (V : Vars) (e : Expr) (st : St) (b : Bool) (st' : St) : Prop :=
  ∀ A C env s, Room D A → HOK W C st s → FrOK W C env V s → wpAny (model W.prog W.w) A (isTrue e env (eval e env)) (PostT W C s st' b) noE s
def SEs (W : Wd) (D : Nat) (V : Vars) (es : List Expr) (st : St) (pvs : List PV) (st' : St) : Prop :=
  ∀ A C env s pos, Room D A → HOK W C st s → FrOK W C env V s → wpAny (model W.prog W.w) A (spliced (backTo pos (starEach es env))) (PostL W C s st' pvs) noE s
def SB (W : Wd) (D : Nat) (op : Operator) (pa pb : PV) (st : St) (pr : PV) : Prop :=
  ∀ A C s a b, Room D A → HOK W C st s → Rep W.prog W.w C a pa → Rep W.prog W.w C b pb → wpAny (model W.prog W.w) A (binaryOp op a b) (PostE W C s st pr) noE s
def SC (W : Wd) (D : Nat) (op : CmpOp) (pa pb : PV) (st : St) (r : Bool) : Prop :=
  ∀ A C s a b, Room D A → HOK W C st s → Rep W.prog W.w C a pa → Rep W.prog W.w C b pb → wpAny (model W.prog W.w) A (compareOp op a b) (PostE W C s st (.bool r)) noE s
def SCall (W : Wd) (D : Nat) (f : Value) (args : List PV) (st : St) (r : PV) (st' : St) : Prop :=
  ∀ A C s vals, Room D A → HOK W C st s → RepL W.prog W.w C vals args → wpAny (model W.prog W.w) A (call f vals) (PostE W C s st' r) noE s

inductive Flo where
  | next | cont | ret (p : PV)

inductive FRep (W : Wd) (C : Cfg) : Flow → Flo → Prop
  | next : FRep W C .next .next
  | cont : FRep W C .cont .cont
  | ret {v : Value} {p : PV} : Rep W.prog W.w C v p → FRep W C (.ret v) (.ret p)

def PostS (W : Wd) (C : Cfg) (env : Env) (s : Shared) (fl : Flo) (V' : Vars) (st' : St) : Flow → Shared → Prop := fun f s' => ∃ C', Ext (frmW env) C s C' s' ∧ HOK W C' st' s' ∧ FrOK W C' env V' s' ∧ FRep W C' f fl
def PostU (W : Wd) (C : Cfg) (env : Env) (s : Shared) (V' : Vars) (st' : St) : Unit → Shared → Prop := fun _ s' => ∃ C', Ext (frmW env) C s C' s' ∧ HOK W C' st' s' ∧ FrOK W C' env V' s'

def SX (W : Wd) (D : Nat) (V : Vars) (x : Stmt) (st : St) (fl : Flo) (V' : Vars) (st' : St) : Prop :=
  ∀ A C env s, Room D A → HOK W C st s → FrOK W C env V s → wpAny (model W.prog W.w) A (exec x env) (PostS W C env s fl V' st') noE s
def SS (W : Wd) (D : Nat) (V : Vars) (x : List Stmt) (st : St) (fl : Flo) (V' : Vars) (st' : St) : Prop :=
  ∀ A C env s, Room D A → HOK W C st s → FrOK W C env V s → wpAny (model W.prog W.w) A (execs x env) (PostS W C env s fl V' st') noE s
/-- a target takes a value -/
def SA (W : Wd) (D : Nat) (V : Vars) (t : Expr) (p : PV) (st : St) (V' : Vars) (st' : St) : Prop :=
  ∀ A C env s v, Room D A → HOK W C st s → FrOK W C env V s → Rep W.prog W.w C v p → wpAny (model W.prog W.w) A (assign t env v) (PostU W C env s V' st') noE s

section
variable {W : Wd} {D : Nat} {V : Vars} {st st₁ st₂ st' : St} {A : Around} {C : Cfg} {env : Env} {s : Shared}

theorem noE_imp {E : Value → Shared → Prop} (e : Value) (s : Shared) (h : noE e s) : E e s := h.elim

theorem SE.bind {e : Expr} {pv : PV} {Q : Value → Shared → Prop} {E : Value → Shared → Prop} (h : SE W D V e st pv st₁) (hA : Room D A) (hH : HOK W C st s) (hF : FrOK W C env V s)
    (k : ∀ v C' s', Ext [] C s C' s' → HOK W C' st₁ s' → FrOK W C' env V s' → Rep W.prog W.w C' v pv → Q v s') : wpAny (model W.prog W.w) A (eval e env) Q E s :=
  wpAny_mono (h A C env s hA hH hF) (fun v s' ⟨C', x, h', r⟩ => k v C' s' x h' (hF.ext x (by simp)) r) noE_imp
theorem ST.bind {e : Expr} {b : Bool} {Q : Bool → Shared → Prop} {E : Value → Shared → Prop} (h : ST W D V e st b st₁) (hA : Room D A) (hH : HOK W C st s) (hF : FrOK W C env V s)
    (k : ∀ C' s', Ext [] C s C' s' → HOK W C' st₁ s' → FrOK W C' env V s' → Q b s') : wpAny (model W.prog W.w) A (isTrue e env (eval e env)) Q E s :=
  wpAny_mono (h A C env s hA hH hF) (fun v s' ⟨C', x, h', r⟩ => r ▸ k C' s' x h' (hF.ext x (by simp))) noE_imp
theorem SEs.bind {e : List Expr} {pv : List PV} {pos : Pos} {Q : List Value → Shared → Prop} {E : Value → Shared → Prop} (h : SEs W D V e st pv st₁) (hA : Room D A) (hH : HOK W C st s) (hF : FrOK W C env V s)
    (k : ∀ v C' s', Ext [] C s C' s' → HOK W C' st₁ s' → FrOK W C' env V s' → RepL W.prog W.w C' v pv → Q v s') : wpAny (model W.prog W.w) A (spliced (backTo pos (starEach e env))) Q E s :=
  wpAny_mono (h A C env s pos hA hH hF) (fun v s' ⟨C', x, h', r⟩ => k v C' s' x h' (hF.ext x (by simp)) r) noE_imp
theorem SS.bind {e : List Stmt} {fl : Flo} {V' : Vars} {Q : Flow → Shared → Prop} {E : Value → Shared → Prop} (h : SS W D V e st fl V' st₁) (hA : Room D A) (hH : HOK W C st s) (hF : FrOK W C env V s)
    (k : ∀ f C' s', Ext (frmW env) C s C' s' → HOK W C' st₁ s' → FrOK W C' env V' s' → FRep W C' f fl → Q f s') : wpAny (model W.prog W.w) A (execs e env) Q E s :=
  wpAny_mono (h A C env s hA hH hF) (fun v s' ⟨C', x, h', f, r⟩ => k v C' s' x h' f r) noE_imp
theorem SX.bind {e : Stmt} {fl : Flo} {V' : Vars} {Q : Flow → Shared → Prop} {E : Value → Shared → Prop} (h : SX W D V e st fl V' st₁) (hA : Room D A) (hH : HOK W C st s) (hF : FrOK W C env V s)
    (k : ∀ f C' s', Ext (frmW env) C s C' s' → HOK W C' st₁ s' → FrOK W C' env V' s' → FRep W C' f fl → Q f s') : wpAny (model W.prog W.w) A (exec e env) Q E s :=
  wpAny_mono (h A C env s hA hH hF) (fun v s' ⟨C', x, h', f, r⟩ => k v C' s' x h' f r) noE_imp
theorem SA.bind {t : Expr} {p : PV} {v : Value} {V' : Vars} {Q : Unit → Shared → Prop} {E : Value → Shared → Prop} (h : SA W D V t p st V' st₁) (hA : Room D A) (hH : HOK W C st s) (hF : FrOK W C env V s) (hr : Rep W.prog W.w C v p)
    (k : ∀ C' s', Ext (frmW env) C s C' s' → HOK W C' st₁ s' → FrOK W C' env V' s' → Q () s') : wpAny (model W.prog W.w) A (assign t env v) Q E s :=
  wpAny_mono (h A C env s v hA hH hF hr) (fun v s' ⟨C', x, h', f⟩ => k C' s' x h' f) noE_imp
theorem PostE.via {C' : Cfg} {s' : Shared} {pv : PV} {v : Value} {s'' : Shared} (x : Ext [] C s C' s') (h : PostE W C' s' st' pv v s'') : PostE W C s st' pv v s'' :=
  let ⟨C'', y, a, b⟩ := h; ⟨C'', x.trans y, a, b⟩
theorem PostT.via {C' : Cfg} {s' : Shared} {b v : Bool} {s'' : Shared} (x : Ext [] C s C' s') (h : PostT W C' s' st' b v s'') : PostT W C s st' b v s'' :=
  let ⟨C'', y, a, b⟩ := h; ⟨C'', x.trans y, a, b⟩
theorem wpE_via {C' : Cfg} {s' : Shared} {pv : PV} {t : Sem Value} (x : Ext [] C s C' s') (h : wpAny (model W.prog W.w) A t (PostE W C' s' st' pv) noE s') : wpAny (model W.prog W.w) A t (PostE W C s st' pv) noE s' :=
  wpAny_mono h (fun _ _ q => q.via x) fun _ _ e => e

theorem HOK.toks (h : HOK W C st s) (tk : Nat) : HOK W C st { s with toks := tk } :=
  ⟨by obtain ⟨hp, t, rfl⟩ := h.same; exact ⟨hp, tk, rfl⟩, h.base, h.ghost, h.len, h.muts, h.nodup, h.apart⟩
theorem Ext.toks (C : Cfg) (s : Shared) (tk : Nat) : Ext [] C s C { s with toks := tk } := ⟨.refl C, fun _ _ _ _ h => h, fun _ _ _ _ h => h, fun b o _ e => ⟨o, e, fun _ => rfl⟩⟩
theorem HOK.keeps {h' : Heap} {tk : Nat} (h : HOK W C st s) (hk : ∀ b o, s.heap.get? b = some o → h'.get? b = some o) : HOK W C st { s with heap := h', toks := tk } :=
  ⟨by obtain ⟨hp, t, rfl⟩ := h.same; exact ⟨h', tk, rfl⟩, h.base, fun b o e => hk b o (h.ghost b o e), h.len, fun i a mo e1 e2 => (h.muts i a mo e1 e2).mono (.refl C) (fun o e => hk a o e), h.nodup, h.apart⟩
theorem Ext.keeps {h' : Heap} {tk : Nat} (C : Cfg) (s : Shared) (hk : ∀ b o, s.heap.get? b = some o → h'.get? b = some o) : Ext [] C s C { s with heap := h', toks := tk } :=
  ⟨.refl C, fun _ _ _ _ h => h, fun _ _ _ _ h => h, fun b o _ e => ⟨o, hk b o e, fun _ => rfl⟩⟩

def Cfg.add (C : Cfg) (a : Addr) (o : Obj) : Cfg := ⟨fun b => if b = a then some o else C.g b, C.ρ⟩
theorem Cfg.add_self (C : Cfg) (a : Addr) (o : Obj) : (C.add a o).g a = some o := by simp [Cfg.add]
theorem HOK.old {b : Addr} {o : Obj} (h : HOK W C st s) (e : C.g b = some o) : b < s.heap.objs.size := Heap.lt_size (h.ghost b o e)
theorem HOK.oldρ {b : Addr} (h : HOK W C st s) (e : b ∈ C.ρ) : ∃ o, s.heap.get? b = some o := by
  obtain ⟨i, hi⟩ := List.getElem?_of_mem e
  have : i < st.length := by rw [← h.len]; exact (List.getElem?_eq_some_iff.mp hi).1
  exact (h.muts i b st[i] hi (by simp [this])).ex

/-- an object that the run has made becomes a value: it lies in the heap, nobody held it as mutable -/
theorem HOK.freeze {a : Addr} {o : Obj} (h : HOK W C st s) (e : s.heap.get? a = some o) (hn : C.g a = none) (hρ : a ∉ C.ρ) : HOK W (C.add a o) st s where
  same := h.same
  base := fun b o' e' => by
    have := h.base b o' e'
    by_cases hb : b = a
    · subst hb; rw [this] at hn; cases hn
    · simpa [Cfg.add, hb] using this
  ghost := fun b o' e' => by
    by_cases hb : b = a
    · subst hb; rw [Cfg.add_self] at e'; cases e'; exact e
    · exact h.ghost b o' (by simpa [Cfg.add, hb] using e')
  len := h.len
  muts := fun i b mo e1 e2 => (h.muts i b mo e1 e2).mono ⟨fun b' o' e' => by
    by_cases hb : b' = a
    · subst hb; rw [hn] at e'; cases e'
    · simpa [Cfg.add, hb] using e', [], by simp [Cfg.add]⟩ (fun _ e => e)
  nodup := h.nodup
  apart := fun b hb => by
    have := h.apart b hb
    by_cases hb' : b = a
    · subst hb'; exact absurd hb hρ
    · simpa [Cfg.add, hb'] using this
theorem CLe.add {a : Addr} {o : Obj} (hn : C.g a = none) : CLe C (C.add a o) := ⟨fun b' o' e' => by
    by_cases hb : b' = a
    · subst hb; rw [hn] at e'; cases e'
    · simpa [Cfg.add, hb] using e', [], by simp [Cfg.add]⟩
theorem HOK.fresh (h : HOK W C st s) {a : Addr} (hn : s.heap.get? a = none) : C.g a = none ∧ a ∉ C.ρ :=
  ⟨Option.eq_none_iff_forall_ne_some.mpr fun o e => (by rw [h.ghost a o e] at hn; cases hn), fun e => (by obtain ⟨o, e'⟩ := h.oldρ e; rw [e'] at hn; cases hn)⟩
/-- the freezing as a step from a state in which the object was not yet -/
theorem Ext.freeze {C₀ : Cfg} {s₀ : Shared} {a : Addr} {o : Obj} (x : Ext [] C₀ s₀ C s) (hn : C.g a = none) (hnew : s₀.heap.get? a = none) : Ext [] C₀ s₀ (C.add a o) s where
  le := x.le.trans (CLe.add hn)
  new := fun b o' n e h => by
    by_cases hb : b = a
    · subst hb; rw [e] at hnew; cases hnew
    · simpa [Cfg.add, hb] using x.new b o' n e h
  ρnew := x.ρnew
  keep := x.keep
theorem get_size (h : Heap) : h.get? h.objs.size = none := by
  cases e : h.get? h.objs.size with
  | none => rfl
  | some o => exact absurd (Heap.lt_size e) (Nat.lt_irrefl _)
/-- a new immutable object -/
theorem HOK.alloc {o : Obj} {tk : Nat} (h : HOK W C st s) (ho : o.isFreed = false) : HOK W (C.add s.heap.objs.size o) st { s with heap := s.heap.push o, toks := tk } ∧ Ext [] C s (C.add s.heap.objs.size o) { s with heap := s.heap.push o, toks := tk } := by
  have hk : ∀ b o', s.heap.get? b = some o' → (s.heap.push o).get? b = some o' := fun b o' e => Heap.get?_push_of_some o e
  have h1 := h.keeps (tk := tk) hk
  obtain ⟨f1, f2⟩ := h.fresh (get_size s.heap)
  exact ⟨h1.freeze (Heap.get?_push_size _ ho) f1 f2, (Ext.keeps C s hk).freeze f1 (get_size s.heap)⟩

/-- a new mutable object -/
def Cfg.addM (C : Cfg) (a : Addr) : Cfg := ⟨C.g, C.ρ ++ [a]⟩
theorem HOK.allocM {o : Obj} {tk : Nat} {mo : MO} (h : HOK W C st s) (ho : o.isFreed = false) (hm : MRep W (C.addM s.heap.objs.size) (s.heap.push o) s.heap.objs.size mo) :
    HOK W (C.addM s.heap.objs.size) (st ++ [mo]) { s with heap := s.heap.push o, toks := tk } ∧ Ext [] C s (C.addM s.heap.objs.size) { s with heap := s.heap.push o, toks := tk } := by
  have hk : ∀ b o', s.heap.get? b = some o' → (s.heap.push o).get? b = some o' := fun b o' e => Heap.get?_push_of_some o e
  have le : CLe C (C.addM s.heap.objs.size) := ⟨fun _ _ e => e, _, rfl⟩
  obtain ⟨f1, f2⟩ := h.fresh (get_size s.heap)
  constructor
  · constructor
    · obtain ⟨hp, t, rfl⟩ := h.same; exact ⟨_, tk, rfl⟩
    · exact h.base
    · exact fun b o e => hk b o (h.ghost b o e)
    · simp [Cfg.addM, h.len]
    · intro i a m e1 e2
      simp only [Cfg.addM] at e1
      by_cases hi : i < C.ρ.length
      · rw [List.getElem?_append_left hi] at e1
        rw [List.getElem?_append_left (by rw [← h.len]; exact hi)] at e2
        exact (h.muts i a m e1 e2).mono le (fun o e => hk a o e)
      · have hi' : i = C.ρ.length := by
          have := (List.getElem?_eq_some_iff.mp e1).1
          simp at this; omega
        subst hi'
        simp at e1
        rw [h.len] at e2
        simp at e2
        subst e1 e2
        exact hm
    · simp only [Cfg.addM]
      exact List.nodup_append.mpr ⟨h.nodup, by simp, fun a ha b hb => by simp at hb; subst hb; intro e; subst e; exact f2 ha⟩
    · intro a ha
      simp only [Cfg.addM, List.mem_append, List.mem_singleton] at ha
      rcases ha with ha | rfl
      · exact h.apart a ha
      · exact f1
  · refine ⟨le, fun _ _ _ _ h => h, fun b o' _ e hb => ?_, fun b o' _ e => ⟨o', hk b o' e, fun _ => rfl⟩⟩
    simp only [Cfg.addM, List.mem_append, List.mem_singleton] at hb
    rcases hb with hb | rfl
    · exact hb
    · rw [get_size] at e; cases e

/-- a mutable object turns -/
theorem HOK.turn {h' : Heap} {tk : Nat} {i : Nat} {a : Addr} {mo : MO} (h : HOK W C st s) (hi : C.ρ[i]? = some a) (hs : Heap.SameBut a s.heap h') (hm : MRep W C h' a mo) :
    HOK W C (st.set i mo) { s with heap := h', toks := tk } ∧ Ext [] C s C { s with heap := h', toks := tk } := by
  have hmem : a ∈ C.ρ := List.mem_of_getElem? hi
  have ho : ∀ b, b ≠ a → h'.get? b = s.heap.get? b := hs.2
  constructor
  · constructor
    · obtain ⟨hp, t, rfl⟩ := h.same; exact ⟨_, tk, rfl⟩
    · exact h.base
    · intro b o e
      have : b ≠ a := by rintro rfl; rw [h.apart _ hmem] at e; cases e
      show h'.get? b = some o
      rw [ho b this]; exact h.ghost b o e
    · simp [h.len]
    · intro j b m e1 e2
      by_cases hj : j = i
      · subst hj
        rw [hi] at e1; cases e1
        have : j < st.length := by rw [← h.len]; exact (List.getElem?_eq_some_iff.mp hi).1
        rw [List.getElem?_set_self this] at e2; cases e2
        exact hm
      · rw [List.getElem?_set_ne (Ne.symm hj)] at e2
        have hb : b ≠ a := by
          rintro rfl
          exact hj ((List.getElem?_inj (List.getElem?_eq_some_iff.mp e1).1 h.nodup).mp (e1.trans hi.symm))
        exact (h.muts j b m e1 e2).mono (.refl C) (fun o e => by show h'.get? b = some o; rw [ho b hb]; exact e)
    · exact h.nodup
    · exact h.apart
  · refine ⟨.refl C, fun _ _ _ _ h => h, fun _ _ _ _ h => h, fun b o _ e => ?_⟩
    by_cases hb : b = a
    · subst hb; obtain ⟨o', e'⟩ := hm.ex; exact ⟨o', e', fun hc => absurd hmem hc⟩
    · exact ⟨o, by show h'.get? b = some o; rw [ho b hb]; exact e, fun _ => rfl⟩
end
end Mine

/-! part Lay3 -/
namespace Mine

theorem arr_toList {items : List Value} : items.toArray.toList = items := by simp

inductive AsL (st : St) : PV → List PV → Prop
  | lst {l : List PV} : AsL st (.lst l) l
  | mref {i : Nat} {l : List PV} : st[i]? = some (.lst l) → AsL st (.mref i) l
  | arr {i : Nat} {l : List PV} : st[i]? = some (.arr l) → AsL st (.mref i) l
inductive AsDI (st : St) : PV → List (Int × PV) → Prop
  | dict {l : List (Int × PV)} : AsDI st (.dictI l) l
  | mref {i : Nat} {l : List (Int × PV)} : st[i]? = some (.dict l) → AsDI st (.mref i) l

section
variable {W : Wd} {D : Nat} {V : Vars} {st st₁ st₂ st₃ st' : St} {A : Around} {C : Cfg} {env : Env} {s : Shared} {v : Value} {pv : PV} {l : List PV}

theorem AsL.isList (h : HOK W C st s) (a : AsL st pv l) (r : Rep W.prog W.w C v pv) :
    ∃ x items, v = .ref x ∧ s.heap.IsList x items.toArray ∧ RepL W.prog W.w C items l ∧ items.length ≤ 100000 := by
  cases a with
  | lst => cases r with | lst e1 e2 e4 e3 r z => exact ⟨_, _, rfl, ⟨_, h.ghost _ _ e1, e2, _, e3⟩, r, z⟩
  | mref hi => cases r with
    | mref hρ => cases h.muts _ _ _ hρ hi with
      | lst p r z => exact ⟨_, _, rfl, p.isList, r, z⟩
  | arr hi => cases r with
    | mref hρ => cases h.muts _ _ _ hρ hi with
      | arr p r z => exact ⟨_, _, rfl, p, r, z⟩
theorem rep_tup (h : HOK W C st s) (r : Rep W.prog W.w C v (.tup l)) :
    ∃ x items, v = .ref x ∧ IsTup s.heap x items.toArray ∧ RepL W.prog W.w C items l ∧ items.length ≤ 100000 := by
  cases r with | tup e1 e2 e3 r z => exact ⟨_, _, rfl, ⟨_, h.ghost _ _ e1, e2, _, e3⟩, r, z⟩
theorem AsDI.isDict {l : List (Int × PV)} (h : HOK W C st s) (a : AsDI st pv l) (r : Rep W.prog W.w C v pv) :
    ∃ x kvs, v = .ref x ∧ (x == sysModules) = false ∧ s.heap.DictOf (intKind W.prog W.w) x kvs ∧ RepDI W.prog W.w C kvs l := by
  cases a with
  | dict => cases r with | dictI e1 e2 e3 r => exact ⟨_, _, rfl, e2, Heap.dictOf_iff.mpr ⟨_, h.ghost _ _ e1, e3⟩, r⟩
  | mref hi => cases r with
    | mref hρ => cases h.muts _ _ _ hρ hi with
      | dict q p r z => exact ⟨_, _, rfl, q, p, r⟩
theorem rep_dictS {l : List (Str × PV)} (h : HOK W C st s) (r : Rep W.prog W.w C v (.dictS l)) :
    ∃ x kvs, v = .ref x ∧ (x == sysModules) = false ∧ s.heap.DictOf (strKind W.prog W.w) x kvs ∧ RepDS W.prog W.w C kvs l := by
  cases r with | dictS e1 e2 e3 r => exact ⟨_, _, rfl, e2, Heap.dictOf_iff.mpr ⟨_, h.ghost _ _ e1, e3⟩, r⟩

theorem postE_here (h : HOK W C st s) (r : Rep W.prog W.w C v pv) : PostE W C s st pv v s := ⟨C, .refl .., h, r⟩
theorem postE_toks (h : HOK W C st s) (r : Rep W.prog W.w C v pv) {tk : Nat} : PostE W C s st pv v { s with toks := tk } := ⟨C, Ext.toks C s tk, h.toks tk, r⟩

/-! names and constants -/
theorem SE_local {x : Str} {pos : Pos} (hk : V.scope.names.lookup x = some .local) (hv : V.vars.lookup x = some pv) (hd : (x == ("__debug__" : Str)) = false := by decide) : SE W D V (.Name x pos) st pv st := by
  intro A C env s hA hH hF
  obtain ⟨m, hn, hm⟩ := hF.ns
  obtain ⟨v, e, r⟩ := hm x pv hk hv
  exact wpAny_Name (wpAny_loadName_local (by rw [hF.scope]; exact hF.kind) (by show env.scope.names.lookup x = _; rw [hF.scope]; exact hk) hn e (postE_here hH r)) hd
theorem SE_cell {x : Str} {pos : Pos} (hk : V.scope.names.lookup x = some .cell) (hv : V.vars.lookup x = some pv) (hd : (x == ("__debug__" : Str)) = false := by decide) : SE W D V (.Name x pos) st pv st := by
  intro A C env s hA hH hF
  obtain ⟨c, v, hc, hi, hm⟩ := hF.cells x (.inl hk)
  obtain ⟨v', rfl, r⟩ := hm pv hv
  exact wpAny_Name (wpAny_loadName_cell (by rw [hF.scope]; exact hF.kind) (by show env.scope.names.lookup x = _; rw [hF.scope]; exact hk) hc hi (postE_here hH r)) hd
theorem SE_free {x : Str} {pos : Pos} (hk : V.scope.names.lookup x = some .free) (hv : V.vars.lookup x = some pv) (hd : (x == ("__debug__" : Str)) = false := by decide) (hn : (x == ("__classdict__" : Str)) = false := by decide) : SE W D V (.Name x pos) st pv st := by
  intro A C env s hA hH hF
  obtain ⟨c, v, hc, hi, hm⟩ := hF.cells x (.inr hk)
  obtain ⟨v', rfl, r⟩ := hm pv hv
  exact wpAny_Name (wpAny_loadName_free (by rw [hF.scope]; exact hF.kind) (by show env.scope.names.lookup x = _; rw [hF.scope]; exact hk) hc hi (postE_here hH r) hn) hd
theorem SE_int {i : Int} {k : Nat} {pos : Pos} : SE W D V (.Constant (.int i) k pos) st (.int i) st :=
  fun A C env s hA hH hF => wpAny_Constant_int (postE_toks hH (.int _ _))
theorem SE_str {x : Str} {k : Nat} {pos : Pos} : SE W D V (.Constant (.str x) k pos) st (.str x) st :=
  fun A C env s hA hH hF => wpAny_Constant_str (postE_toks hH (.str _ _))
theorem SE_none {k : Nat} {pos : Pos} : SE W D V (.Constant .none k pos) st .none st :=
  fun A C env s hA hH hF => wpAny_Constant_none (postE_here hH .none)
theorem SE_bool {b : Bool} {k : Nat} {pos : Pos} : SE W D V (.Constant (.bool b) k pos) st (.bool b) st :=
  fun A C env s hA hH hF => wpAny_Constant_bool (postE_here hH (.bool b))

/-! displays -/
theorem SEs_nil : SEs W D V [] st [] st := fun A C env s pos hA hH hF => wpAny_items_nil ⟨C, .refl .., hH, .nil⟩
def starry : Expr → Bool
  | .Starred _ _ => true
  | _ => false
theorem starEach_plain {e : Expr} {rest : List Expr} {env : Env} (h : starry e = false) : starEach (e :: rest) env = (false, eval e env) :: starEach rest env := by
  cases e <;> first | rfl | (simp [starry] at h)
theorem SEs_cons {e : Expr} {es : List Expr} {p : PV} {ps : List PV} (h : SE W D V e st p st₁) (hs : SEs W D V es st₁ ps st₂) (hn : starry e = false := by rfl) : SEs W D V (e :: es) st (p :: ps) st₂ := by
  intro A C env s pos hA hH hF
  refine wpAny_items_cons (h.bind hA hH hF fun v C₁ s₁ x₁ h₁ f₁ r₁ => hs.bind hA h₁ f₁ fun vs C₂ s₂ x₂ h₂ f₂ r₂ => ?_) (starEach_plain hn)
  exact ⟨C₂, x₁.trans x₂, h₂, .cons (r₁.mono x₂.le) r₂⟩
theorem sl_of {n : Nat} (h : n ≤ 100000) : n ≤ sizeLine := Nat.le_trans h (by unfold sizeLine; decide)
theorem SE_Tuple {es : List Expr} {k : Nat} {pos : Pos} {ps : List PV} (h : SEs W D V es st ps st₁) (hz : ps.length ≤ 100000 := by decide) : SE W D V (.Tuple es k pos) st (.tup ps) st₁ := by
  intro A C env s hA hH hF
  refine wpAny_Tuple (h.bind hA hH hF fun vs C₁ s₁ x₁ h₁ f₁ r₁ => ?_)
  have hl := r₁.length
  refine ⟨sl_of (hl ▸ hz), ?_⟩
  obtain ⟨a, b⟩ := h₁.alloc (tk := s₁.toks) (o := { cls := .type "tuple", data := .seq vs.toArray }) rfl
  exact ⟨_, x₁.trans b, a, .tup (Cfg.add_self _ _ _) rfl rfl (r₁.mono b.le) (hl ▸ hz)⟩
theorem SE_List {es : List Expr} {pos : Pos} {ps : List PV} (h : SEs W D V es st ps st₁) (hz : ps.length ≤ 100000 := by decide) : SE W D V (.List es pos) st (.lst ps) st₁ := by
  intro A C env s hA hH hF
  refine wpAny_List (h.bind hA hH hF fun vs C₁ s₁ x₁ h₁ f₁ r₁ => ?_)
  have hl := r₁.length
  refine ⟨sl_of (hl ▸ hz), ?_⟩
  obtain ⟨a, b⟩ := h₁.alloc (tk := s₁.toks) (o := { cls := .type "list", data := .seq vs.toArray }) rfl
  exact ⟨_, x₁.trans b, a, .lst (Cfg.add_self _ _ _) rfl rfl rfl (r₁.mono b.le) (hl ▸ hz)⟩
/-- a list display that is to be turned -/
theorem SE_ListM {es : List Expr} {pos : Pos} {ps : List PV} (h : SEs W D V es st ps st₁) (hz : ps.length ≤ 100000 := by decide) : SE W D V (.List es pos) st (.mref st₁.length) (st₁ ++ [.lst ps]) := by
  intro A C env s hA hH hF
  refine wpAny_List (h.bind hA hH hF fun vs C₁ s₁ x₁ h₁ f₁ r₁ => ?_)
  have hl := r₁.length
  refine ⟨sl_of (hl ▸ hz), ?_⟩
  have le : CLe C₁ (C₁.addM s₁.heap.objs.size) := ⟨fun _ _ e => e, _, rfl⟩
  obtain ⟨a, b⟩ := h₁.allocM (tk := s₁.toks) (o := { cls := .type "list", data := .seq vs.toArray }) (mo := .lst ps) rfl
    (.lst ⟨_, _, Heap.get?_push_size _ rfl, rfl, rfl, rfl⟩ (r₁.mono le) (hl ▸ hz))
  refine ⟨_, x₁.trans b, a, .mref ?_⟩
  show (C₁.ρ ++ [_])[st₁.length]? = _
  rw [← h₁.len]; simp
/-- a list display that is to be turned -/
theorem SE_ListA {es : List Expr} {pos : Pos} {ps : List PV} (h : SEs W D V es st ps st₁) (hz : ps.length ≤ 100000 := by decide) : SE W D V (.List es pos) st (.mref st₁.length) (st₁ ++ [.arr ps]) := by
  intro A C env s hA hH hF
  refine wpAny_List (h.bind hA hH hF fun vs C₁ s₁ x₁ h₁ f₁ r₁ => ?_)
  have hl := r₁.length
  refine ⟨sl_of (hl ▸ hz), ?_⟩
  have le : CLe C₁ (C₁.addM s₁.heap.objs.size) := ⟨fun _ _ e => e, _, rfl⟩
  obtain ⟨a, b⟩ := h₁.allocM (tk := s₁.toks) (o := { cls := .type "list", data := .seq vs.toArray }) (mo := .arr ps) rfl
    (.arr ⟨_, Heap.get?_push_size _ rfl, rfl, _, rfl⟩ (r₁.mono le) (hl ▸ hz))
  refine ⟨_, x₁.trans b, a, .mref ?_⟩
  show (C₁.ρ ++ [_])[st₁.length]? = _
  rw [← h₁.len]; simp
theorem HOK.keep0 (h : HOK W C st s) : ∀ b o, W.s₀.heap.get? b = some o → s.heap.get? b = some o := fun b o e => h.ghost b o (h.base b o e)
theorem HOK.inK (B : Base W) (h : HOK W C st s) : W.K.In s.heap := B.kx.keeps h.keep0
theorem HOK.notMods (B : Base W) (h : HOK W C st s) : (s.heap.objs.size == sysModules) = false := by
  obtain ⟨mg, mb, ⟨o, es, ep, ho, _⟩, _⟩ := B.glob
  have h1 := Heap.lt_size (h.keep0 _ _ ho)
  have h2 : sysModules < mainGlobals := by decide
  exact beq_false_of_ne (Nat.ne_of_gt (Nat.lt_trans h2 h1))
theorem SE_DictM (B : Base W) {pos : Pos} : SE W D V (.Dict [] [] pos) st (.mref st.length) (st ++ [.dict []]) := by
  intro A C env s hA hH hF
  refine wpAny_Dict_empty ?_
  have le : CLe C (C.addM s.heap.objs.size) := ⟨fun _ _ e => e, _, rfl⟩
  obtain ⟨a, b⟩ := hH.allocM (tk := s.toks) (o := { cls := .type "dict", data := .dict #[] }) (mo := .dict []) rfl
    (.dict (hH.notMods B) (Heap.DictOf.new _) .nil (by decide))
  refine ⟨_, b, a, .mref ?_⟩
  show (C.ρ ++ [_])[st.length]? = _
  rw [← hH.len]; simp

/-! operators -/
theorem SE_BinOp {l r : Expr} {op : Operator} {pos : Pos} {pa pb pr : PV} (h₁ : SE W D V l st pa st₁) (h₂ : SE W D V r st₁ pb st₂) (h : SB W D op pa pb st₂ pr) : SE W D V (.BinOp l op r pos) st pr st₂ := by
  intro A C env s hA hH hF
  refine wpAny_BinOp (h₁.bind hA hH hF fun a C₁ s₁ x₁ h₁ f₁ r₁ => h₂.bind hA h₁ f₁ fun b C₂ s₂ x₂ h₂ f₂ r₂ => ?_)
  exact wpE_via (x₁.trans x₂) (h A C₂ s₂ a b hA h₂ (r₁.mono x₂.le) r₂)
theorem SE_Compare {l r : Expr} {op : CmpOp} {pos : Pos} {pa pb : PV} {b : Bool} (h₁ : SE W D V l st pa st₁) (h₂ : SE W D V r st₁ pb st₂) (h : SC W D op pa pb st₂ b) (hm : behindInMarks op r = false := by with_unfolding_all rfl) :
    SE W D V (.Compare l [op] [r] pos) st (.bool b) st₂ := by
  intro A C env s hA hH hF
  refine wpAny_Compare1 (h₁.bind hA hH hF fun a C₁ s₁ x₁ h₁ f₁ r₁ => h₂.bind hA h₁ f₁ fun b C₂ s₂ x₂ h₂ f₂ r₂ => ?_) hm
  exact wpE_via (x₁.trans x₂) (h A C₂ s₂ a b hA h₂ (r₁.mono x₂.le) r₂)
theorem ST_Compare {l r : Expr} {op : CmpOp} {pos : Pos} {pa pb : PV} {b : Bool} (h₁ : SE W D V l st pa st₁) (h₂ : SE W D V r st₁ pb st₂) (h : SC W D op pa pb st₂ b) (hm : behindInMarks op r = false := by with_unfolding_all rfl) :
    ST W D V (.Compare l [op] [r] pos) st b st₂ := by
  intro A C env s hA hH hF
  refine wpAny_isTrue_Compare1 (h₁.bind hA hH hF fun a C₁ s₁ x₁ h₁ f₁ r₁ => h₂.bind hA h₁ f₁ fun b C₂ s₂ x₂ h₂ f₂ r₂ => ?_) hm
  refine wpAny_mono (h A C₂ s₂ a b hA h₂ (r₁.mono x₂.le) r₂) (fun v s₃ ⟨C₃, x₃, h₃, r₃⟩ => ?_) fun _ _ e => e
  cases r₃
  exact wpAny_truthy_bool ⟨C₃, (x₁.trans x₂).trans x₃, h₃, rfl⟩
theorem ST_Not {e : Expr} {pos : Pos} {b : Bool} (h : ST W D V e st b st₁) : ST W D V (.UnaryOp .Not e pos) st (!b) st₁ :=
  fun A C env s hA hH hF => wpAny_isTrue_Not (h.bind hA hH hF fun C₁ s₁ x₁ h₁ f₁ => ⟨C₁, x₁, h₁, rfl⟩)
def valTest : Expr → Bool
  | .UnaryOp .Not _ _ => false
  | .BoolOp _ _ _ => false
  | .IfExp _ _ _ _ => false
  | .Compare _ _ _ _ => false
  | _ => true
theorem ST_val {e : Expr} {b : Bool} (h : SE W D V e st (.bool b) st₁) (hv : valTest e = true := by rfl) : ST W D V e st b st₁ := by
  intro A C env s hA hH hF
  refine wpAny_isTrue_value (h.bind hA hH hF fun v C₁ s₁ x₁ h₁ f₁ r₁ => ?_) ?_
  · cases r₁; exact wpAny_truthy_bool ⟨C₁, x₁, h₁, rfl⟩
  · cases e <;> first | rfl | (simp [valTest] at hv) | skip
    rename_i op x pos
    cases op <;> first | rfl | (simp [valTest] at hv)
/-- the tests of and, or -/
inductive Tests (W : Wd) (D : Nat) (V : Vars) : BoolOp → List Expr → St → Bool → St → Prop
  | andNil {st : St} : Tests W D V .And [] st true st
  | orNil {st : St} : Tests W D V .Or [] st false st
  | andF {e : Expr} {es : List Expr} {st st₁ : St} : ST W D V e st false st₁ → Tests W D V .And (e :: es) st false st₁
  | orT {e : Expr} {es : List Expr} {st st₁ : St} : ST W D V e st true st₁ → Tests W D V .Or (e :: es) st true st₁
  | andT {e : Expr} {es : List Expr} {st st₁ : St} {b : Bool} {st₂ : St} : ST W D V e st true st₁ → Tests W D V .And es st₁ b st₂ → Tests W D V .And (e :: es) st b st₂
  | orF {e : Expr} {es : List Expr} {st st₁ : St} {b : Bool} {st₂ : St} : ST W D V e st false st₁ → Tests W D V .Or es st₁ b st₂ → Tests W D V .Or (e :: es) st b st₂
theorem Tests.run {op : BoolOp} {es : List Expr} {b : Bool} (h : Tests W D V op es st b st₁) : ∀ A C env s, Room D A → HOK W C st s → FrOK W C env V s → wpAny (model W.prog W.w) A (allTrue op es env) (PostT W C s st₁ b) noE s := by
  induction h with
  | andNil => exact fun A C env s hA hH hF => wpAny_allTrue_And_nil ⟨C, .refl .., hH, rfl⟩
  | orNil => exact fun A C env s hA hH hF => wpAny_allTrue_Or_nil ⟨C, .refl .., hH, rfl⟩
  | andF h => exact fun A C env s hA hH hF => wpAny_allTrue_And_cons (h.bind hA hH hF fun C₁ s₁ x₁ h₁ f₁ => ⟨C₁, x₁, h₁, rfl⟩)
  | orT h => exact fun A C env s hA hH hF => wpAny_allTrue_Or_cons (h.bind hA hH hF fun C₁ s₁ x₁ h₁ f₁ => ⟨C₁, x₁, h₁, rfl⟩)
  | andT h _ ih => exact fun A C env s hA hH hF => wpAny_allTrue_And_cons (h.bind hA hH hF fun C₁ s₁ x₁ h₁ f₁ => wpAny_mono (ih A C₁ env s₁ hA h₁ f₁) (fun _ _ q => q.via x₁) fun _ _ e => e)
  | orF h _ ih => exact fun A C env s hA hH hF => wpAny_allTrue_Or_cons (h.bind hA hH hF fun C₁ s₁ x₁ h₁ f₁ => wpAny_mono (ih A C₁ env s₁ hA h₁ f₁) (fun _ _ q => q.via x₁) fun _ _ e => e)
theorem ST_BoolOp {op : BoolOp} {es : List Expr} {pos : Pos} {b : Bool} (h : Tests W D V op es st b st₁) : ST W D V (.BoolOp op es pos) st b st₁ :=
  fun A C env s hA hH hF => wpAny_isTrue_BoolOp (h.run A C env s hA hH hF)
theorem SE_IfT {t a b : Expr} {pos : Pos} (h : ST W D V t st true st₁) (ha : SE W D V a st₁ pv st₂) : SE W D V (.IfExp t a b pos) st pv st₂ :=
  fun A C env s hA hH hF => wpAny_IfExp (h.bind hA hH hF fun C₁ s₁ x₁ h₁ f₁ => wpE_via x₁ (ha A C₁ env s₁ hA h₁ f₁))
theorem SE_IfF {t a b : Expr} {pos : Pos} (h : ST W D V t st false st₁) (hb : SE W D V b st₁ pv st₂) : SE W D V (.IfExp t a b pos) st pv st₂ :=
  fun A C env s hA hH hF => wpAny_IfExp (h.bind hA hH hF fun C₁ s₁ x₁ h₁ f₁ => wpE_via x₁ (hb A C₁ env s₁ hA h₁ f₁))
/-- not as a value -/
theorem SE_Not {e : Expr} {pos : Pos} {b : Bool} (h : SE W D V e st (.bool b) st₁) : SE W D V (.UnaryOp .Not e pos) st (.bool (!b)) st₁ :=
  fun A C env s hA hH hF => wpAny_UnaryOp (h.bind hA hH hF fun v C₁ s₁ x₁ h₁ f₁ r₁ => by cases r₁; exact not_value (wpAny_truthy_bool ⟨C₁, x₁, h₁, .bool _⟩))

/-! statements -/
theorem SS_nil : SS W D V [] st .next V st := fun A C env s hA hH hF => wpAny_execs_nil ⟨C, .refl .., hH, hF, .next⟩
theorem SS_cons {x : Stmt} {xs : List Stmt} {V₁ V₂ : Vars} {fl : Flo} (h : SX W D V x st .next V₁ st₁) (hs : SS W D V₁ xs st₁ fl V₂ st₂) : SS W D V (x :: xs) st fl V₂ st₂ := by
  intro A C env s hA hH hF
  refine wpAny_execs_cons (h.bind hA hH hF fun f C₁ s₁ x₁ h₁ f₁ r₁ => ?_)
  cases r₁
  exact hs.bind hA h₁ f₁ fun f C₂ s₂ x₂ h₂ f₂ r₂ => ⟨C₂, x₁.trans x₂, h₂, f₂, r₂⟩
theorem SS_stop {x : Stmt} {xs : List Stmt} {V₁ : Vars} {fl : Flo} (h : SX W D V x st fl V₁ st₁) (hn : fl ≠ .next) : SS W D V (x :: xs) st fl V₁ st₁ := by
  intro A C env s hA hH hF
  refine wpAny_execs_cons (h.bind hA hH hF fun f C₁ s₁ x₁ h₁ f₁ r₁ => ?_)
  cases r₁ with
  | next => exact absurd rfl hn
  | cont => exact ⟨C₁, x₁, h₁, f₁, .cont⟩
  | ret r => exact ⟨C₁, x₁, h₁, f₁, .ret r⟩
theorem SX_IfT {t : Expr} {a b : List Stmt} {pos : Pos} {V₁ : Vars} {fl : Flo} (h : ST W D V t st true st₁) (ha : SS W D V a st₁ fl V₁ st₂) : SX W D V (.If t a b pos) st fl V₁ st₂ :=
  fun A C env s hA hH hF => wpAny_If (h.bind hA hH hF fun C₁ s₁ x₁ h₁ f₁ => ha.bind hA h₁ f₁ fun f C₂ s₂ x₂ h₂ f₂ r₂ => ⟨C₂, x₁.nil.trans x₂, h₂, f₂, r₂⟩)
theorem SX_IfF {t : Expr} {a b : List Stmt} {pos : Pos} {V₁ : Vars} {fl : Flo} (h : ST W D V t st false st₁) (hb : SS W D V b st₁ fl V₁ st₂) : SX W D V (.If t a b pos) st fl V₁ st₂ :=
  fun A C env s hA hH hF => wpAny_If (h.bind hA hH hF fun C₁ s₁ x₁ h₁ f₁ => hb.bind hA h₁ f₁ fun f C₂ s₂ x₂ h₂ f₂ r₂ => ⟨C₂, x₁.nil.trans x₂, h₂, f₂, r₂⟩)
theorem SX_Return {e : Expr} {pos : Pos} (h : SE W D V e st pv st₁) : SX W D V (.Return (some e) pos) st (.ret pv) V st₁ :=
  fun A C env s hA hH hF => wpAny_Return_some (h.bind hA hH hF fun v C₁ s₁ x₁ h₁ f₁ r₁ => ⟨C₁, x₁.nil, h₁, f₁, .ret r₁⟩)
theorem SX_Continue {pos : Pos} : SX W D V (.Continue pos) st .cont V st := fun A C env s hA hH hF => wpAny_Continue ⟨C, .refl .., hH, hF, .cont⟩
end
end Mine

/-! part Lay4 -/
namespace Mine

def NameIs (W : Wd) (V : Vars) (x : Str) (f : Value) : Prop :=
  ∀ A C env s st (Q : Value → Shared → Prop) (E : Value → Shared → Prop) pos, HOK W C st s → FrOK W C env V s → Q f s → wpAny (model W.prog W.w) A (eval (.Name x pos) env) Q E s

section
variable {W : Wd} {D : Nat} {V : Vars} {st st₁ st₂ st₃ st' : St} {A : Around} {C : Cfg} {env : Env} {s : Shared} {v f : Value} {pv : PV} {l : List PV}

theorem NameIs.global (B : Base W) {x : Str} (hk : V.scope.names.lookup x = some .globalImplicit) (e : nsIn W.K mainGlobals x = some (some f)) (hd : (x == ("__debug__" : Str)) = false := by decide) : NameIs W V x f := by
  intro A C env s st Q E pos hH hF q
  obtain ⟨mg, mb, hg, _⟩ := B.glob
  exact Calls.Name_function_global (by rw [hF.scope]; exact hF.kind) (by show env.scope.names.lookup x = _; rw [hF.scope]; exact hk)
    (Calls.loadGlobal_global (by rw [hF.glob]; exact hg.keeps hH.keep0) (mg_of B.kx hg e) q) hd
theorem NameIs.builtin (B : Base W) {x : Str} (hk : V.scope.names.lookup x = some .globalImplicit) (hm : x ∈ bnames) (e : bootBuiltins x = some f) (hd : (x == ("__debug__" : Str)) = false := by decide) (hn : x ≠ Str.ofString "__name__" := by decide) : NameIs W V x f := by
  intro A C env s st Q E pos hH hF q
  obtain ⟨mg, mb, hg, hb, h1, h2⟩ := B.glob
  exact Calls.Name_function_global (by rw [hF.scope]; exact hF.kind) (by show env.scope.names.lookup x = _; rw [hF.scope]; exact hk)
    (Calls.loadGlobal_builtin (by rw [hF.glob]; exact hg.keeps hH.keep0) (h1 x hm) (by rw [hF.bi]; exact hb.keeps hH.keep0) (by rw [h2 x hn]; exact e) q) hd
theorem SE_name {x : Str} {pos : Pos} (h : NameIs W V x f) (r : ∀ C, (∀ b o, W.s₀.heap.get? b = some o → C.g b = some o) → Rep W.prog W.w C f pv) : SE W D V (.Name x pos) st pv st :=
  fun A C env s hA hH hF => h A C env s st _ _ pos hH hF (postE_here hH (r C hH.base))

/-! calls -/
def Keep (W : Wd) (f : Value) : Prop := ∀ h, W.K.In h → ∃ k, (k = Keeper.frame ∨ k = Keeper.machine ∨ k = Keeper.boundFrame) ∧ Looks (model W.prog W.w) h (keeperOf f) k
theorem keep_ref {a : Addr} (h : keepIn W.K (.ref a) = true) : Keep W (.ref a) := keeps_K h
theorem keep_builtin {i : String} : Keep W (.builtin i) := fun h _ => ⟨.machine, .inr (.inl rfl), Looks.of_pure rfl⟩
theorem keep_type {i : String} : Keep W (.type i) := fun h _ => ⟨.machine, .inr (.inl rfl), Looks.of_pure rfl⟩

theorem plain_args : ∀ {es : List Expr} {env : Env} {pos : Pos}, (es.any starry) = false → (backTo pos (starEach es env)).any (·.1) = false
  | [], _, _, _ => rfl
  | e :: r, env, pos, h => by
    simp only [List.any_cons, Bool.or_eq_false_iff] at h
    rw [starEach_plain h.1]
    show (false || (backTo pos (starEach r env)).any (·.1)) = false
    rw [plain_args h.2]; rfl
theorem callWith_args (B : Base W) (hk : Keep W f) {e : Expr} {es : List Expr} {ps : List PV} {pos : Pos} {first : List Value} {pf : List PV} (hs : SEs W D V (e :: es) st ps st₁) (hp : (e :: es).any starry = false) (hc : SCall W D f (pf ++ ps) st₁ pv st₂)
    (hA : Room D A) (hH : HOK W C st s) (hF : FrOK W C env V s) (hr : RepL W.prog W.w C first pf) :
    wpAny (model W.prog W.w) A (callWith pos f first (backTo pos (starEach (e :: es) env)) []) (PostE W C s st₂ pv) noE s := by
  refine callWith_of (P := W.K.In) (by rw [plain_args hp]; rfl) hk ?_
  simp only [List.any_cons, Bool.or_eq_false_iff] at hp
  have := hs.bind (Q := fun vs s₁ => W.K.In s₁.heap ∧ wpAny (model W.prog W.w) A (call f (first ++ vs)) (PostE W C s st₂ pv) noE s₁) (pos := pos) (E := noE) hA hH hF fun vs C₁ s₁ x₁ h₁ f₁ r₁ =>
    ⟨h₁.inK B, wpE_via x₁ (hc A C₁ s₁ _ hA h₁ ((hr.mono x₁.le).append r₁))⟩
  rw [starEach_plain hp.1] at this ⊢
  exact Calls.evalArgs_plain this
theorem callWith_none (B : Base W) (hk : Keep W f) {pos : Pos} {first : List Value} {pf : List PV} (hc : SCall W D f pf st pv st₂)
    (hA : Room D A) (hH : HOK W C st s) (hr : RepL W.prog W.w C first pf) :
    wpAny (model W.prog W.w) A (callWith pos f first (backTo pos (starEach [] env)) []) (PostE W C s st₂ pv) noE s := by
  refine callWith_of (P := W.K.In) rfl hk (evalArgs_nil3 ⟨hH.inK B, ?_⟩)
  rw [List.append_nil]
  exact hc A C s _ hA hH hr

theorem SE_Call (B : Base W) {x : Str} {np pos : Pos} {e : Expr} {es : List Expr} {ps : List PV} (hn : NameIs W V x f) (hk : Keep W f) (hs : SEs W D V (e :: es) st ps st₁) (hc : SCall W D f ps st₁ pv st₂) (hp : (e :: es).any starry = false := by rfl) :
    SE W D V (.Call (.Name x np) (e :: es) [] pos) st pv st₂ :=
  fun A C env s hA hH hF => wpAny_Call_ofName (hn A C env s st _ _ np hH hF (callWith_args (pf := []) B hk hs hp hc hA hH hF .nil))

/-! made objects -/
theorem repF_get {es : List DictEntry} {fs : List (Str × PV)} (r : RepF W.prog W.w C es fs) {n : Str} {p : PV} (h : fs.lookup n = some p) : ∃ v, getL n es = some (some v) ∧ Rep W.prog W.w C v p := by
  unfold getL
  induction es generalizing fs with
  | nil => cases r; simp at h
  | cons e es ih => cases r with | cons a r =>
    rw [List.lookup_cons] at h
    rename_i k t v p' ps
    have hk : (Value.str k t).isStr n = (n == k) := by
      show (k == n) = (n == k)
      by_cases e : k = n
      · subst e; rfl
      · rw [beq_false_of_ne e, beq_false_of_ne (Ne.symm e)]
    rw [List.find?_cons]
    dsimp only
    rw [hk]
    split at h
    · rename_i q; cases h; exact ⟨_, rfl, a⟩
    · rename_i q; obtain ⟨w, e, r'⟩ := ih r h
      refine ⟨w, ?_, r'⟩
      split at e
      · rename_i q'; rw [q']; exact e
      · split at e <;> cases e
theorem repF_none {es : List DictEntry} {fs : List (Str × PV)} (r : RepF W.prog W.w C es fs) {n : Str} (h : fs.lookup n = none) : getL n es = some none := by
  have h1 : es.find? (·.key.isStr n) = none ∧ es.any (·.refKey) = false := by
    induction es generalizing fs with
    | nil => exact ⟨rfl, rfl⟩
    | cons e es ih => cases r with | cons a r =>
      rw [List.lookup_cons] at h
      rename_i k t v p' ps
      split at h
      · cases h
      · rename_i q
        obtain ⟨i1, i2⟩ := ih r h
        have hk : (Value.str k t).isStr n = false := by
          show (k == n) = false
          exact beq_false_of_ne fun e => by rw [e] at q; simp at q
        exact ⟨by rw [List.find?_cons]; dsimp only; rw [hk]; exact i1, by rw [List.any_cons, i2]; rfl⟩
  unfold getL
  rw [h1.1, h1.2]; rfl
theorem rep_handed {p : PV} (r : Rep W.prog W.w C v p) : handedIn v = true := by cases r <;> rfl
theorem rep_inst {c : Addr} {fs : List (Str × PV)} (hH : HOK W C st s) (r : Rep W.prog W.w C v (.obj c fs)) : ∃ x ox es n, v = .ref x ∧ InstAt s.heap x ox c (some (dictOf es n)) ∧ RepF W.prog W.w C es fs := by
  cases r with | obj a b r => exact ⟨_, _, _, _, rfl, ⟨hH.ghost _ _ a, rfl, rfl, hH.ghost _ _ b⟩, r⟩

structure AttrOf (K : Frag) (c : Addr) (n : Str) : Prop where
  plain : plainGet K c n = true
  dict : hasDictIn K c = true
  attr : ∃ a, findIn K (.ref c) n = some a ∧ noGet K a = true
theorem SE_Attr (B : Base W) {o : Expr} {n : Str} {pos : Pos} {c : Addr} {fs : List (Str × PV)} (ho : SE W D V o st (.obj c fs) st₁) (hn : fs.lookup n = some pv) (ha : AttrOf W.K c n)
    (he : ∀ env, eval (.Attribute o n pos) env = (do
      let ov ← eval o env
      standAt pos.atName
      let r ← holding [ov] (getAttr ov n true)
      letTemporaryGo o ov r
      pure r) := by intro _; with_unfolding_all rfl) : SE W D V (.Attribute o n pos) st pv st₁ := by
  intro A C env s hA hH hF
  refine Attribute_any_ (ho.bind hA hH hF fun v C₁ s₁ x₁ h₁ f₁ r₁ => ?_) (he env)
  obtain ⟨x, ox, es, k, rfl, I, rf⟩ := rep_inst h₁ r₁
  obtain ⟨u, hu, ru⟩ := repF_get rf hn
  obtain ⟨a, a1, a2⟩ := ha.attr
  exact get_value (h₁.inK B) I (plainGet_of ha.plain).1 (findObj_own ha.dict a1 a2 (by rw [lookIn_dict]; exact hu)) (rep_handed ru) ⟨C₁, x₁.trans (Ext.toks ..), h₁.toks _, ru⟩

structure MethOf (K : Frag) (c : Addr) (n : Str) (f : Addr) : Prop where
  plain : plainGet K c n = true
  find : findIn K (.ref c) n = some (some (.ref f))
  fn : isFn K (.ref f) = true
  keep : keepIn K (.ref f) = true

theorem SE_Meth (B : Base W) {o : Expr} {n : Str} {apos pos : Pos} {c g : Addr} {fs : List (Str × PV)} {e : Expr} {es : List Expr} {ps : List PV} (ho : SE W D V o st (.obj c fs) st₁) (hn : fs.lookup n = none) (hm : MethOf W.K c n g)
    (hs : SEs W D V (e :: es) st₁ ps st₂) (hc : SCall W D (.ref g) (.obj c fs :: ps) st₂ pv st₃)
    (hp : (e :: es).any starry = false := by rfl) (hlen : (e :: es).length < 30 := by decide) (hline : (apos.endLine == pos.line) = true := by rfl)
    (hb : ∀ env, attributeBase o n env (eval o env) = eval o env := by intro _; rfl) : SE W D V (.Call (.Attribute o n apos) (e :: es) [] pos) st pv st₃ := by
  intro A C env s hA hH hF
  rw [arm_eval_Call, hb env]
  refine wpAny_bind (ho.bind hA hH hF fun v C₁ s₁ x₁ h₁ f₁ r₁ => ?_)
  obtain ⟨x, ox, des, k, rfl, I, rf⟩ := rep_inst h₁ r₁
  refine wpAny_bind (wpAny_standAt ?_)
  have hall : (backTo pos (starEach (e :: es) env)).all (fun x => !x.1) = true := by
    have := plain_args (env := env) (pos := pos) hp
    rw [List.all_eq_true]
    intro y hy
    have h2 := List.any_eq_false.mp this y hy
    simpa using h2
  have hform : methodCallForm ((e :: es).length + ([] : List Keyword).length) (backTo pos (starEach (e :: es) env)) (backToKw pos (keywordEach [] env)) = true := by
    unfold methodCallForm
    rw [hall]
    show (true && true && decide ((e :: es).length + 0 + 0 < 30)) = true
    simpa using hlen
  have hpos : methodCallPos true o env apos pos = pure pos := by unfold methodCallPos; simp [hline]
  unfold methodCall
  rw [hform]
  refine wpAny_bind (wpAny_holding ?_)
  show wpAny _ _ (getMethod (.ref x) n _) _ _ s₁
  refine method_fn (h₁.inK B) I (plainGet_of hm.plain).1 (plainGet_of hm.plain).2 hm.find (beq_iff_eq.mp hm.fn) (by show (lookIn n (dictOf des k)).map _ = _; rw [lookIn_dict, repF_none rf hn]; rfl) ?_
  exact wpAny_bind (wpAny_of_eq hpos (wpE_via x₁ (callWith_args (pf := [.obj c fs]) B (keep_ref hm.keep) hs hp hc hA h₁ f₁ (.one r₁))))

theorem SE_Meth0 (B : Base W) {o : Expr} {n : Str} {apos pos : Pos} {c g : Addr} {fs : List (Str × PV)} (ho : SE W D V o st (.obj c fs) st₁) (hn : fs.lookup n = none) (hm : MethOf W.K c n g)
    (hc : SCall W D (.ref g) [.obj c fs] st₁ pv st₃) (hline : (apos.endLine == pos.line) = true := by rfl)
    (hb : ∀ env, attributeBase o n env (eval o env) = eval o env := by intro _; rfl) : SE W D V (.Call (.Attribute o n apos) [] [] pos) st pv st₃ := by
  intro A C env s hA hH hF
  rw [arm_eval_Call, hb env]
  refine wpAny_bind (ho.bind hA hH hF fun v C₁ s₁ x₁ h₁ f₁ r₁ => ?_)
  obtain ⟨x, ox, des, k, rfl, I, rf⟩ := rep_inst h₁ r₁
  refine wpAny_bind (wpAny_standAt ?_)
  have hform : methodCallForm (([] : List Expr).length + ([] : List Keyword).length) (backTo pos (starEach [] env)) (backToKw pos (keywordEach [] env)) = true := by
    show (true && true && decide (0 + 0 + 0 < 30)) = true
    rfl
  have hpos : methodCallPos true o env apos pos = pure pos := by unfold methodCallPos; simp [hline]
  unfold methodCall
  rw [hform]
  refine wpAny_bind (wpAny_holding ?_)
  show wpAny _ _ (getMethod (.ref x) n _) _ _ s₁
  refine method_fn (h₁.inK B) I (plainGet_of hm.plain).1 (plainGet_of hm.plain).2 hm.find (beq_iff_eq.mp hm.fn) (by show (lookIn n (dictOf des k)).map _ = _; rw [lookIn_dict, repF_none rf hn]; rfl) ?_
  exact wpAny_bind (wpAny_of_eq hpos (wpE_via x₁ (callWith_none (pf := [.obj c fs]) B (keep_ref hm.keep) hc hA h₁ (.one r₁))))

/-! append and get -/
theorem SE_append {o elt : Expr} {apos pos : Pos} {i : Nat} {l₁ l : List PV} {p : PV} (ho : SE W D V o st (.mref i) st₁) (h1 : st₁[i]? = some (.lst l₁)) (he : SE W D V elt st₁ p st₂) (h2 : st₂[i]? = some (.lst l)) (hz : l.length < 100000)
    (hline : (apos.endLine == pos.line) = true := by rfl) (hs : starry elt = false := by rfl)
    (hb : ∀ env, attributeBase o "append" env (eval o env) = eval o env := by intro _; rfl) : SE W D V (.Call (.Attribute o "append" apos) [elt] [] pos) st .none (st₂.set i (.lst (l ++ [p]))) := by
  intro A C env s hA hH hF
  have htr : backTo pos (starEach [elt] env) = [(false, eval elt env)] := by rw [starEach_plain hs]; rfl
  refine wpAny_Call_append (hb env) (by rw [htr]; rfl) hline htr (ho.bind hA hH hF fun v C₁ s₁ x₁ h₁ f₁ r₁ => ?_)
  cases r₁ with | mref hρ =>
  rename_i a
  cases h₁.muts _ _ _ hρ h1 with | lst pl rl zl =>
  refine ⟨a, _, rfl, pl, he.bind hA h₁ f₁ fun y C₂ s₂ x₂ h₂ f₂ r₂ => ?_⟩
  have hρ₂ := x₂.le.at hρ
  cases h₂.muts _ _ _ hρ₂ h2 with | lst pl₂ rl₂ zl₂ =>
  refine list_append_plainL (hsz := sl_of (by simpa using zl₂)) pl₂ fun h' hpl hsb => ?_
  have hm : MRep W C₂ h' a (.lst (l ++ [p])) := .lst (by simpa using hpl) (rl₂.append (.one r₂)) (by have := rl₂.length; simp; omega)
  obtain ⟨q1, q2⟩ := h₂.turn (tk := s₂.toks) hρ₂ hsb hm
  exact ⟨C₂, (x₁.trans x₂).trans q2, q1, .none⟩

theorem repDI_get {kvs : List (Int × Value)} {l : List (Int × PV)} (r : RepDI W.prog W.w C kvs l) (k : Int) : (∀ p, l.lookup k = some p → ∃ v, valueAt kvs k = some v ∧ Rep W.prog W.w C v p) ∧ (l.lookup k = none → valueAt kvs k = none) := by
  unfold valueAt
  induction kvs generalizing l with
  | nil => cases r; simp
  | cons e es ih => cases r with | cons a r =>
    rename_i k' v p' ps
    rw [List.lookup_cons, List.find?_cons]
    by_cases e : k' = k
    · subst e
      simp
      exact a
    · have h1 : (k == k') = false := beq_false_of_ne (Ne.symm e)
      have h2 : decide (k' = k) = false := by simpa using e
      rw [h1]; dsimp only; rw [h2]
      exact ih r
theorem repDS_get {kvs : List (Str × Value)} {l : List (Str × PV)} (r : RepDS W.prog W.w C kvs l) (k : Str) : (∀ p, l.lookup k = some p → ∃ v, valueAt kvs k = some v ∧ Rep W.prog W.w C v p) ∧ (l.lookup k = none → valueAt kvs k = none) := by
  unfold valueAt
  induction kvs generalizing l with
  | nil => cases r; simp
  | cons e es ih => cases r with | cons a r =>
    rename_i k' v p' ps
    rw [List.lookup_cons, List.find?_cons]
    by_cases e : k' = k
    · subst e
      simp
      exact a
    · have h1 : (k == k') = false := beq_false_of_ne (Ne.symm e)
      have h2 : decide (k' = k) = false := by simpa using e
      rw [h1]; dsimp only; rw [h2]
      exact ih r
end
end Mine

/-! part Lay5 -/
namespace Mine

section
variable {W : Wd} {D : Nat} {V V₁ V₂ : Vars} {st st₁ st₂ st₃ st' : St} {A : Around} {C : Cfg} {env : Env} {s : Shared} {v f : Value} {pv : PV} {l : List PV}

/-! subscripts -/
theorem sub_tail {prog : Program} {w : World} {E : Value → Shared → Prop} {value slice : Expr} {o i : Value} {T id : String} {Q : Value → Shared → Prop} (hT : s.TypeIs o T)
    (hl : typeLookup (.type T) "__getitem__" = pure (some (.builtin id))) (h : wpAny (model prog w) A (getItem o i) Q E s) : wpAny (model prog w) A (subscriptTail value slice o i) Q E s := by
  unfold subscriptTail
  refine wpAny_bind ?_
  rw [getitemInPython_of_ne hT.not_modules]
  refine wpAny_bind (wpAny_specialOf hT hl ?_)
  have fin : wpAny (model prog w) A (subscripted slice false o i) (fun r s₃ => wpAny (model prog w) A (letTemporaryGo value o r >>= fun _ => pure r) Q E s₃) E s := by
    have q : wpAny (model prog w) A (getItem o i) (fun r s₃ => wpAny (model prog w) A (letTemporaryGo value o r >>= fun _ => pure r) Q E s₃) E s :=
      wpAny_mono h (fun r s₃ h₃ => wpAny_bind (wpAny_letTemporaryGo (base := value) (o := o) (r := r) (wpAny_pure h₃))) fun _ _ x => x
    unfold subscripted
    split <;> first | exact wpAny_operating q | (rename_i hh; cases hh)
  exact wpAny_pure (wpAny_bind fin)

theorem repDI_nodup {x : Addr} {h : Heap} {kvs : List (Int × Value)} (d : h.DictOf (intKind W.prog W.w) x kvs) : h.MapOf (intKind W.prog W.w) x (valueAt kvs) := d.mapOf

theorem SE_subL {o i : Expr} {pos : Pos} {po : PV} {k : Int} (ho : SE W D V o st po st₁) (hi : SE W D V i st₁ (.int k) st₂) (hl : AsL st₂ po l) (h0 : 0 ≤ k) (hx : l[k.toNat]? = some pv) : SE W D V (.Subscript o i pos) st pv st₂ := by
  intro A C env s hA hH hF
  refine Subscript_ (ho.bind hA hH hF fun a C₁ s₁ x₁ h₁ f₁ r₁ => hi.bind hA h₁ f₁ fun b C₂ s₂ x₂ h₂ f₂ r₂ => ?_)
  cases r₂
  obtain ⟨x, items, rfl, hL, rl, z⟩ := hl.isList h₂ (r₁.mono x₂.le)
  obtain ⟨v, hv, rv⟩ := rl.get hx
  have hk : k.toNat < items.length := (List.getElem?_eq_some_iff.mp hv).1
  exact sub_tail hL.typeIs list_getitem_lookup (getItem_listL hL h0 (by omega) hv ⟨C₂, x₁.trans x₂, h₂, rv⟩)
theorem SE_subT {o i : Expr} {pos : Pos} {k : Int} (ho : SE W D V o st (.tup l) st₁) (hi : SE W D V i st₁ (.int k) st₂) (h0 : 0 ≤ k) (hx : l[k.toNat]? = some pv) : SE W D V (.Subscript o i pos) st pv st₂ := by
  intro A C env s hA hH hF
  refine Subscript_ (ho.bind hA hH hF fun a C₁ s₁ x₁ h₁ f₁ r₁ => hi.bind hA h₁ f₁ fun b C₂ s₂ x₂ h₂ f₂ r₂ => ?_)
  cases r₂
  obtain ⟨x, items, rfl, hL, rl, z⟩ := rep_tup h₂ (r₁.mono x₂.le)
  obtain ⟨v, hv, rv⟩ := rl.get hx
  have hk : k.toNat < items.length := (List.getElem?_eq_some_iff.mp hv).1
  exact sub_tail hL.typeIs PyProof.Rows.slot_tuple_getitem.lookup (getItem_tuple hL (by omega) (by omega) (seqIndex_of h0 (by rw [List.size_toArray]; omega)) (by simpa using hv) ⟨C₂, x₁.trans x₂, h₂, rv⟩)
theorem SE_subDI {o i : Expr} {pos : Pos} {po : PV} {k : Int} {d : List (Int × PV)} (ho : SE W D V o st po st₁) (hi : SE W D V i st₁ (.int k) st₂) (hl : AsDI st₂ po d) (hx : d.lookup k = some pv) : SE W D V (.Subscript o i pos) st pv st₂ := by
  intro A C env s hA hH hF
  refine Subscript_ (ho.bind hA hH hF fun a C₁ s₁ x₁ h₁ f₁ r₁ => hi.bind hA h₁ f₁ fun b C₂ s₂ x₂ h₂ f₂ r₂ => ?_)
  cases r₂
  obtain ⟨x, kvs, rfl, hm, hL, rl⟩ := hl.isDict h₂ (r₁.mono x₂.le)
  obtain ⟨v, hv, rv⟩ := (repDI_get rl k).1 _ hx
  exact sub_tail hL.typeIs PySem.slot_dict_getitem.lookup (wpAny_getItem_of (knd := intKind W.prog W.w) (k := k) (by simp [intKind, Value.isInt]) hL.mapOf hv ⟨C₂, (x₁.trans x₂).trans (Ext.toks ..), h₂.toks _, rv⟩)
theorem SE_subDS {o i : Expr} {pos : Pos} {k : Str} {d : List (Str × PV)} (ho : SE W D V o st (.dictS d) st₁) (hi : SE W D V i st₁ (.str k) st₂) (hx : d.lookup k = some pv) : SE W D V (.Subscript o i pos) st pv st₂ := by
  intro A C env s hA hH hF
  refine Subscript_ (ho.bind hA hH hF fun a C₁ s₁ x₁ h₁ f₁ r₁ => hi.bind hA h₁ f₁ fun b C₂ s₂ x₂ h₂ f₂ r₂ => ?_)
  cases r₂
  obtain ⟨x, kvs, rfl, hm, hL, rl⟩ := rep_dictS h₂ (r₁.mono x₂.le)
  obtain ⟨v, hv, rv⟩ := (repDS_get rl k).1 _ hx
  exact sub_tail hL.typeIs PySem.slot_dict_getitem.lookup (wpAny_getItem_of (knd := PySem.strKind W.prog W.w) (k := k) (by simp [PySem.strKind, Value.isStrOf]) hL.mapOf hv ⟨C₂, (x₁.trans x₂).trans (Ext.toks ..), h₂.toks _, rv⟩)
/-- d.get(k, dflt) -/
theorem SE_getDI {o ik dk : Expr} {apos pos : Pos} {po pd : PV} {k : Int} {d : List (Int × PV)} (ho : SE W D V o st po st) (hi : SE W D V ik st (.int k) st) (hd : SE W D V dk st pd st) (hl : AsDI st po d)
    (hp : [ik, dk].any starry = false := by rfl) (hline : (apos.endLine == pos.line) = true := by rfl)
    (hb : ∀ env, attributeBase o "get" env (eval o env) = eval o env := by intro _; rfl) : SE W D V (.Call (.Attribute o "get" apos) [ik, dk] [] pos) st ((d.lookup k).getD pd) st := by
  intro A C env s hA hH hF
  have hp' := hp
  simp only [List.any_cons, List.any_nil, Bool.or_eq_false_iff] at hp
  have hall : backTo pos (starEach [ik, dk] env) = [(false, eval ik env), (false, eval dk env)] := by
    rw [starEach_plain hp.1, starEach_plain hp.2.1]; rfl
  rw [arm_eval_Call, hb env]
  refine wpAny_bind (ho.bind hA hH hF fun v C₁ s₁ x₁ h₁ f₁ r₁ => ?_)
  obtain ⟨x, kvs, rfl, hm, hL, rl⟩ := hl.isDict h₁ r₁
  refine wpAny_bind (wpAny_standAt ?_)
  have hform : methodCallForm ([ik, dk].length + ([] : List Keyword).length) (backTo pos (starEach [ik, dk] env)) (backToKw pos (keywordEach [] env)) = true := by
    rw [hall]; rfl
  have hpos : methodCallPos true o env apos pos = pure pos := by unfold methodCallPos; simp [hline]
  unfold methodCall
  rw [hform]
  refine wpAny_bind (wpAny_holding ?_)
  refine getMethod_builtin hL.typeIs PySem.F.plainAttrs_dict PySem.F.slot_dict_get PySem.F.type_dict_get hL.mapOf.noDict ?_
  refine wpAny_bind (wpAny_of_eq hpos ?_)
  rw [hall]
  refine wpAny_dict_get2 (knd := intKind W.prog W.w) hm (hi.bind hA h₁ f₁ fun b C₂ s₂ x₂ h₂ f₂ r₂ => hd.bind hA h₂ f₂ fun c C₃ s₃ x₃ h₃ f₃ r₃ => ?_)
  cases r₂
  obtain ⟨y, kvs', e, hm', hL', rl'⟩ := hl.isDict h₃ (r₁.mono (x₂.le.trans x₃.le))
  cases e
  refine ⟨k, _, by simp [intKind, Value.isInt], hL'.mapOf, C₃, ((x₁.trans x₂).trans x₃).trans (Ext.toks ..), h₃.toks _, ?_⟩
  cases hk : d.lookup k with
  | none => rw [(repDI_get rl' k).2 hk]; exact r₃
  | some p => obtain ⟨w, e, rw'⟩ := (repDI_get rl' k).1 _ hk; rw [e]; exact rw'
end
end Mine

/-! part Lay6 -/
namespace Mine

noncomputable def setv (x : Str) (p : PV) : List (Str × PV) → List (Str × PV)
  | [] => [(x, p)]
  | (y, q) :: r => if x == y then (x, p) :: r else (y, q) :: setv x p r
theorem lookup_setv (x y : Str) (p : PV) : ∀ l : List (Str × PV), (setv x p l).lookup y = if y = x then some p else l.lookup y
  | [] => by
    by_cases e : y = x
    · subst e; simp [setv]
    · simp [setv, List.lookup_cons, beq_false_of_ne e, e]
  | (z, q) :: r => by
    unfold setv
    by_cases e : x = z
    · subst e
      simp only [beq_self_eq_true, if_true, List.lookup_cons]
      by_cases e2 : y = x
      · subst e2; simp
      · simp [beq_false_of_ne e2, e2]
    · simp only [beq_false_of_ne e, Bool.false_eq_true, if_false, List.lookup_cons, lookup_setv x y p r]
      by_cases e2 : y = z
      · subst e2
        simp [Ne.symm e]
      · simp [beq_false_of_ne e2]
def Vars.set (V : Vars) (x : Str) (p : PV) : Vars := ⟨V.own, V.scope, setv x p V.vars⟩

section
variable {W : Wd} {D : Nat} {V V₁ V₂ : Vars} {st st₁ st₂ st₃ st' : St} {A : Around} {C : Cfg} {env : Env} {s : Shared} {v f : Value} {pv : PV} {l : List PV}

theorem HOK.frame {h' : Heap} {tk : Nat} {a : Addr} (h : HOK W C st s) (hs : Heap.SameBut a s.heap h') (h1 : C.g a = none) (h2 : a ∉ C.ρ) : HOK W C st { s with heap := h', toks := tk } where
  same := by obtain ⟨hp, t, rfl⟩ := h.same; exact ⟨_, tk, rfl⟩
  base := h.base
  ghost := fun b o e => by
    have : b ≠ a := by rintro rfl; rw [h1] at e; cases e
    show h'.get? b = some o
    rw [hs.2 b this]; exact h.ghost b o e
  len := h.len
  muts := fun j b m e1 e2 => (h.muts j b m e1 e2).mono (.refl C) fun o e => by
    have : b ≠ a := by rintro rfl; exact h2 (List.mem_of_getElem? e1)
    show h'.get? b = some o
    rw [hs.2 b this]; exact e
  nodup := h.nodup
  apart := h.apart
theorem Ext.frame {h' : Heap} {tk : Nat} {a : Addr} {X : List Addr} (C : Cfg) (hs : Heap.SameBut a s.heap h') (hX : a ∈ X) : Ext X C s C { s with heap := h', toks := tk } :=
  ⟨.refl C, fun _ _ _ _ h => h, fun _ _ _ _ h => h, fun b o n e => by
    have hb : b ≠ a := by rintro rfl; exact n hX
    exact ⟨o, by show h'.get? b = some o; rw [hs.2 b hb]; exact e, fun _ => rfl⟩⟩

theorem scope_ok (f : FrOK W C env V s) : (env.scope.kind == .class || (env.scope.kind == .module && env.locals != env.globals)) = false := by
  rw [f.scope, f.kind]; rfl
theorem kind_of (f : FrOK W C env V s) (x : Str) : env.kindOf x = V.scope.names.lookup x := by show env.scope.names.lookup x = _; rw [f.scope]

theorem store_local {x : Str} {Q : Unit → Shared → Prop} {E : Value → Shared → Prop} (hk : V.scope.names.lookup x = some .local) (hH : HOK W C st s) (hF : FrOK W C env V s) (hr : Rep W.prog W.w C v pv)
    (h : ∀ s', Ext (frmW env) C s C s' → HOK W C st s' → FrOK W C env (V.set x pv) s' → Q () s') : wpAny (model W.prog W.w) A (storeName env x v) Q E s := by
  obtain ⟨m, hn, hm⟩ := hF.ns
  have hL := hF.apart _ (frm_loc env)
  refine wpAny_storeName_local (by rw [kind_of hF]; exact hk) hn (fun h' hn' hs' => ?_) (scope_ok hF)
  have hk' : ∀ a ∈ frm env, ∃ o, h'.get? a = some o := fun a ha => by
    by_cases e : a = env.locals
    · subst e; obtain ⟨o, _, _, ho, _⟩ := hn'; exact ⟨o, ho⟩
    · obtain ⟨o, ho⟩ := hF.ex a ha; exact ⟨o, by rw [hs'.2 a e]; exact ho⟩
  refine h _ (Ext.frame C hs' (frmW_loc env)) (hH.frame hs' hL.1 hL.2) ?_
  refine ⟨hF.scope, hF.glob, hF.bi, hF.kind, hF.own, ⟨_, hn', fun y p hy hp => ?_⟩, fun y hy => ?_, hF.apart, hk', hF.inj⟩
  · change (setv x pv V.vars).lookup y = some p at hp
    rw [lookup_setv] at hp
    by_cases e : y = x
    · rw [if_pos e] at hp; cases hp; exact ⟨v, by simp [e], hr⟩
    · rw [if_neg e] at hp; simp only [e, if_false]; exact hm y p hy hp
  · obtain ⟨c, u, hc, ⟨o, ho, hd⟩, hu⟩ := hF.cells y hy
    have hcl : c ≠ env.locals := by
      rintro rfl
      have := hF.inj
      unfold frm at this
      exact (List.nodup_cons.mp this).1 (mem_of_lookup hc)
    have hyx : y ≠ x := by rintro rfl; change V.scope.names.lookup y = _ ∨ V.scope.names.lookup y = _ at hy; rw [hk] at hy; rcases hy with h | h <;> cases h
    refine ⟨c, u, hc, ⟨o, by show h'.get? c = some o; rw [hs'.2 c hcl]; exact ho, hd⟩, fun p hp => hu p ?_⟩
    change (setv x pv V.vars).lookup y = some p at hp
    rw [lookup_setv, if_neg hyx] at hp
    exact hp
theorem cells_inj {l : List (Str × Addr)} {x y : Str} {c : Addr} (hn : (l.map (·.2)).Nodup) (h1 : l.lookup x = some c) (h2 : l.lookup y = some c) : x = y := by
  have m1 := lookup_mem h1
  have m2 := lookup_mem h2
  obtain ⟨i, hi⟩ := List.getElem?_of_mem m1
  obtain ⟨j, hj⟩ := List.getElem?_of_mem m2
  have e1 : (l.map (·.2))[i]? = some c := by simp [hi]
  have e2 : (l.map (·.2))[j]? = some c := by simp [hj]
  have := (List.getElem?_inj (List.getElem?_eq_some_iff.mp e1).1 hn).mp (e1.trans e2.symm)
  subst this
  rw [hi] at hj
  cases hj; rfl
theorem store_cell {x : Str} {Q : Unit → Shared → Prop} {E : Value → Shared → Prop} (hk : V.scope.names.lookup x = some .cell) (ho : V.own = true) (hH : HOK W C st s) (hF : FrOK W C env V s) (hr : Rep W.prog W.w C v pv)
    (h : ∀ s', Ext (frmW env) C s C s' → HOK W C st s' → FrOK W C env (V.set x pv) s' → Q () s') : wpAny (model W.prog W.w) A (storeName env x v) Q E s := by
  obtain ⟨c, u, hc, hi, hu⟩ := hF.cells x (.inl hk)
  have hL := hF.apart _ (frm_cell hc)
  have hnd : (env.cells.map (·.2)).Nodup := (List.nodup_cons.mp hF.inj).2
  refine wpAny_storeName_cell (by rw [hF.scope]; exact hF.kind) (by rw [kind_of hF]; exact hk) hc hi (fun h' hn' hs' => ?_)
  have hk' : ∀ a ∈ frm env, ∃ o, h'.get? a = some o := fun a ha => by
    by_cases e : a = c
    · subst e; obtain ⟨o, ho, _⟩ := hn'; exact ⟨o, ho⟩
    · obtain ⟨o, ho⟩ := hF.ex a ha; exact ⟨o, by rw [hs'.2 a e]; exact ho⟩
  refine h _ (Ext.frame (tk := s.toks) C hs' (by unfold frmW; rw [hF.own, ho, if_pos rfl]; exact frm_cell hc)) (hH.frame (tk := s.toks) hs' hL.1 hL.2) ?_
  refine ⟨hF.scope, hF.glob, hF.bi, hF.kind, hF.own, ?_, fun y hy => ?_, hF.apart, hk', hF.inj⟩
  · obtain ⟨m, ⟨o, es, ep, ho, r⟩, hm⟩ := hF.ns
    have hcl : env.locals ≠ c := by
      intro e
      exact (List.nodup_cons.mp hF.inj).1 (e ▸ mem_of_lookup hc)
    refine ⟨m, ⟨o, es, ep, by show h'.get? env.locals = some o; rw [hs'.2 _ hcl]; exact ho, r⟩, fun y p hy hp => hm y p hy ?_⟩
    have hyx : y ≠ x := by rintro rfl; change V.scope.names.lookup y = _ at hy; rw [hk] at hy; cases hy
    change (setv x pv V.vars).lookup y = some p at hp
    rw [lookup_setv, if_neg hyx] at hp
    exact hp
  · by_cases hyx : y = x
    · subst hyx
      refine ⟨c, some v, hc, hn', fun p hp => ?_⟩
      change (setv y pv V.vars).lookup y = some p at hp
      rw [lookup_setv, if_pos rfl] at hp
      cases hp; exact ⟨v, rfl, hr⟩
    · obtain ⟨c', u', hc', ⟨o, ho, hd⟩, hu'⟩ := hF.cells y hy
      have hcc : c' ≠ c := by rintro rfl; exact hyx (cells_inj hnd hc' hc)
      refine ⟨c', u', hc', ⟨o, by show h'.get? c' = some o; rw [hs'.2 c' hcc]; exact ho, hd⟩, fun p hp => hu' p ?_⟩
      change (setv x pv V.vars).lookup y = some p at hp
      rw [lookup_setv, if_neg hyx] at hp
      exact hp
theorem store_name {x : Str} {Q : Unit → Shared → Prop} {E : Value → Shared → Prop} (hk : V.scope.names.lookup x = some .local ∨ (V.scope.names.lookup x = some .cell ∧ V.own = true)) (hH : HOK W C st s) (hF : FrOK W C env V s) (hr : Rep W.prog W.w C v pv)
    (h : ∀ s', Ext (frmW env) C s C s' → HOK W C st s' → FrOK W C env (V.set x pv) s' → Q () s') : wpAny (model W.prog W.w) A (storeName env x v) Q E s :=
  hk.elim (fun hk => store_local hk hH hF hr h) (fun hk => store_cell hk.1 hk.2 hH hF hr h)

theorem SA_name {x : Str} {pos : Pos} (hk : V.scope.names.lookup x = some .local ∨ (V.scope.names.lookup x = some .cell ∧ V.own = true)) : SA W D V (.Name x pos) pv st (V.set x pv) st :=
  fun A C env s v hA hH hF hr => wpAny_assign_Name (store_name hk hH hF hr fun s' x' h' f' => ⟨C, x', h', f'⟩)

/-- several targets take the parts of a tuple or a list -/
inductive SAs (W : Wd) (D : Nat) : Vars → List Expr → List PV → St → Vars → St → Prop
  | nil {V : Vars} {st : St} : SAs W D V [] [] st V st
  | cons {V V₁ V₂ : Vars} {t : Expr} {ts : List Expr} {p : PV} {ps : List PV} {st st₁ st₂ : St} : starry t = false → SA W D V t p st V₁ st₁ → SAs W D V₁ ts ps st₁ V₂ st₂ → SAs W D V (t :: ts) (p :: ps) st V₂ st₂
theorem assignEach_plain {e : Expr} {rest : List Expr} {env : Env} (h : starry e = false) : assignEach (e :: rest) env = (false, assign e env) :: assignEach rest env := by
  cases e <;> first | rfl | (simp [starry] at h)
theorem SAs.length {ts : List Expr} {ps : List PV} (h : SAs W D V ts ps st V₁ st₁) : ts.length = ps.length := by induction h <;> simp_all
theorem SAs.each {ts : List Expr} {ps : List PV} (h : SAs W D V ts ps st V₁ st₁) (env : Env) : (assignEach ts env).length = ts.length ∧ (assignEach ts env).findIdx? (·.1) = none := by
  induction h with
  | nil => exact ⟨rfl, rfl⟩
  | cons h1 h2 h3 ih => rw [assignEach_plain h1]; exact ⟨by simp [ih.1], by rw [List.findIdx?_cons]; simp [ih.2]⟩
theorem SAs.run {ts : List Expr} {ps : List PV} (h : SAs W D V ts ps st V₁ st₁) : ∀ A C env s vs, Room D A → HOK W C st s → FrOK W C env V s → RepL W.prog W.w C vs ps →
    wpAny (model W.prog W.w) A (assignInOrder ((assignEach ts env).map (·.2)) vs) (PostU W C env s V₁ st₁) noE s := by
  induction h with
  | nil => intro A C env s vs hA hH hF hr; cases hr; exact wpAny_pure ⟨C, .refl .., hH, hF⟩
  | cons h1 h2 h3 ih =>
    intro A C env s vs hA hH hF hr
    cases hr with | cons r rs =>
    rw [assignEach_plain h1]
    refine wpAny_assignInOrder_more (h2.bind hA hH hF r fun C₁ s₁ x₁ h₁ f₁ => ?_)
    exact wpAny_mono (ih A C₁ env s₁ _ hA h₁ f₁ (rs.mono x₁.le)) (fun _ _ ⟨C₂, x₂, h₂, f₂⟩ => ⟨C₂, x₁.trans x₂, h₂, f₂⟩) fun _ _ e => e

theorem draw_list {prog : Program} {w : World} {E : Value → Shared → Prop} {it t : Addr} {items : Array Value} (hne : t ≠ it) : ∀ (n i : Nat) (s : Shared) (Q : List Value → Shared → Prop), s.heap.IsListIter it t i → s.heap.IsList t items → i + n ≤ items.size →
    (∀ h', h'.IsListIter it t (i + n) → Heap.SameBut it s.heap h' → Q ((items.toList.drop i).take n) { s with heap := h' }) → wpAny (model prog w) A (draw (.ref it) n) Q E s
  | 0, i, s, Q, hit, _, _, hQ => by
    show wpAny _ _ (pure []) Q E s
    exact wpAny_pure (by simpa using hQ s.heap hit (Heap.SameBut.refl ..))
  | n + 1, i, s, Q, hit, ht, hle, hQ => by
    have hlt : i < items.size := by omega
    show wpAny _ _ (pyNext (.ref it) >>= _) Q E s
    refine wpAny_bind (wpAny_pyNext_list_item hit ht (x := items[i]) (by simp [hlt]) fun h₁ hit₁ hs₁ => ?_)
    refine wpAny_bind (wpAny_holding (draw_list hne n (i + 1) _ _ hit₁ (ht.extBut hs₁.extBut hne) (by omega) fun h₂ hit₂ hs₂ => wpAny_pure ?_))
    have hd : items.toList.drop i = items[i] :: items.toList.drop (i + 1) := by simp [List.drop_eq_getElem_cons, hlt]
    have := hQ h₂ (by rw [show i + (n + 1) = i + 1 + n by omega]; exact hit₂) (hs₁.trans hs₂)
    rw [hd, List.take_succ_cons] at this
    exact this
theorem unpack_list {prog : Program} {w : World} {E : Value → Shared → Prop} {t : Addr} {items : Array Value} {Q : List Value → Shared → Prop} (hh : A.handled = none) (ht : s.heap.IsList t items)
    (hQ : ∀ h', Heap.ExtBut s.heap.objs.size s.heap h' → Q items.toList { s with heap := h' }) : wpAny (model prog w) A (unpackItems (.ref t) items.size none) Q E s := by
  have hlt : t ≠ s.heap.objs.size := by obtain ⟨o, ho, _⟩ := ht; exact Nat.ne_of_lt (Heap.lt_size ho)
  unfold unpackItems
  refine wpAny_bind ?_
  · unfold notIterableAtAll
    refine wpAny_bind (wpAny_specialOf ht.typeIs PySem.slot_list_iter.lookup ?_)
    refine wpAny_pure ?_
    simp only [Bool.false_eq_true, if_false]
    refine wpAny_bind (wpAny_holding (wpAny_pyIter_list ht ?_))
    refine wpAny_bind (wpAny_holding (draw_list hlt items.size 0 _ _ ⟨_, Heap.get?_push_size _ rfl, rfl, rfl⟩ (ht.push _) (by omega) fun h₁ hit₁ hs₁ => ?_))
    have hall : List.take items.size (List.drop 0 items.toList) = items.toList := by
      rw [List.drop_zero]; exact List.take_of_length_le (by simp)
    rw [hall, if_neg (by simp)]
    refine wpAny_bind (wpAny_holding (wpAny_pyNext_list_end hh hit₁ ((ht.push _).extBut hs₁.extBut hlt) (by simp) fun h₂ he₂ => ?_))
    simp only [Option.isSome_none, Bool.false_eq_true, if_false]
    exact wpAny_pure (hQ h₂ fun b o hb e => he₂ b o hb (hs₁.extBut b o hb (Heap.get?_push_of_some _ e)))

theorem keep_of_ext {h h' : Heap} (x : Heap.ExtBut h.objs.size h h') : ∀ b o, h.get? b = some o → h'.get? b = some o :=
  fun b o e => x b o (Nat.ne_of_lt (Heap.lt_size e)) e
inductive AsSeq (st : St) : PV → List PV → Prop
  | tup {l : List PV} : AsSeq st (.tup l) l
  | lst {p : PV} {l : List PV} : AsL st p l → AsSeq st p l
theorem unpack_seq {Q : List Value → Shared → Prop} {E : Value → Shared → Prop} {n : Nat} (hA : Room D A) (hH : HOK W C st s) (hl : AsSeq st pv l) (hr : Rep W.prog W.w C v pv) (hn : n = l.length)
    (h : ∀ vs s', Ext [] C s C s' → HOK W C st s' → RepL W.prog W.w C vs l → Q vs s') : wpAny (model W.prog W.w) A (unpackItems v n none) Q E s := by
  cases hl with
  | tup =>
    obtain ⟨x, items, rfl, ht, rl, z⟩ := rep_tup hH hr
    have := rl.length
    rw [show n = items.toArray.size by simp [this, hn]]
    exact unpackItems_tuple hA.handled ht fun h' he => h _ _ (Ext.keeps C s (keep_of_ext he)) (hH.keeps (keep_of_ext he)) (by simpa using rl)
  | lst a =>
    obtain ⟨x, items, rfl, ht, rl, z⟩ := a.isList hH hr
    have := rl.length
    rw [show n = items.toArray.size by simp [this, hn]]
    exact unpack_list hA.handled ht fun h' he => h _ _ (Ext.keeps C s (keep_of_ext he)) (hH.keeps (keep_of_ext he)) (by simpa using rl)
theorem SA_tuple {ts : List Expr} {k : Nat} {pos : Pos} (hl : AsSeq st pv l) (h : SAs W D V ts l st V₁ st₁) : SA W D V (.Tuple ts k pos) pv st V₁ st₁ := by
  intro A C env s v hA hH hF hr
  rw [arm_assign_Tuple]
  refine wpAny_bind (wpAny_standAt ?_)
  unfold unpack
  rw [(h.each env).1, (h.each env).2]
  refine wpAny_bind (wpAny_holding (unpack_seq hA hH hl hr h.length fun vs s' x' h' r' => ?_))
  exact wpAny_mono (h.run A C env s' vs hA h' (hF.ext x' (by simp)) r') (fun _ _ ⟨C₂, x₂, h₂, f₂⟩ => ⟨C₂, x'.nil.trans x₂, h₂, f₂⟩) fun _ _ e => e

/-! assignments -/
def noComp : Expr → Bool
  | .ListComp _ _ _ _ => false
  | .SetComp _ _ _ _ => false
  | .DictComp _ _ _ _ _ => false
  | _ => true
theorem swaps_no {e : Expr} (h : noComp e = true) (t : Option Expr) (n : Nat) (env : Env) : swapsWith e t n env = pure false := by
  cases e <;> first | rfl | (simp [noComp] at h)
theorem SX_Assign {x : Str} {np pos : Pos} {e : Expr} (h : SE W D V e st pv st₁) (hk : V.scope.names.lookup x = some .local ∨ (V.scope.names.lookup x = some .cell ∧ V.own = true)) (hn : noComp e = true := by rfl) :
    SX W D V (.Assign [.Name x np] e pos) st .next (V.set x pv) st₁ := by
  intro A C env s hA hH hF
  refine wpAny_Assign_Name (h.bind hA hH hF fun v C₁ s₁ x₁ h₁ f₁ r₁ => ?_) (swaps_no hn _ _ _)
  exact store_name hk h₁ f₁ r₁ fun s' x' h' f' => ⟨C₁, x₁.nil.trans x', h', f', .next⟩
theorem swap_tuple {e : Expr} {ts : List Expr} {k : Nat} {tp : Pos} {n : Nat} {env : Env} : swapsWithSole [.Tuple ts k tp] e n env = pure false := by
  show swapsWith e (some (.Tuple ts k tp)) n env = pure false
  cases e <;> rfl
def noTuple : Expr → Bool
  | .Tuple _ _ _ => false
  | _ => true
theorem stores_no {e : Expr} {ts : List Expr} {k : Nat} {tp : Pos} {env : Env} (h : noTuple e = true) : swappedStores [.Tuple ts k tp] e env = pure none := by
  cases e <;> first | rfl | (simp [noTuple] at h)
theorem SX_AssignT {ts : List Expr} {k : Nat} {tp pos : Pos} {e : Expr} (h : SE W D V e st pv st₁) (hl : AsSeq st₁ pv l) (ht : SAs W D V ts l st₁ V₁ st₂) (hn : noTuple e = true := by rfl) :
    SX W D V (.Assign [.Tuple ts k tp] e pos) st .next V₁ st₂ := by
  intro A C env s hA hH hF
  refine Assign_Tuple (h.bind hA hH hF fun v C₁ s₁ x₁ h₁ f₁ r₁ => ?_) swap_tuple (stores_no hn)
  exact (SA_tuple hl ht).bind hA h₁ f₁ r₁ fun C₂ s₂ x₂ h₂ f₂ => ⟨C₂, x₁.nil.trans x₂, h₂, f₂, .next⟩
theorem RepL.set {vs : List Value} {ps : List PV} (h : RepL W.prog W.w C vs ps) {p : PV} (hr : Rep W.prog W.w C v p) : ∀ n : Nat, RepL W.prog W.w C (vs.set n v) (ps.set n p) := by
  induction vs generalizing ps with
  | nil => intro n; cases h; exact .nil
  | cons x xs ih =>
    intro n
    cases h with | cons a r =>
    cases n with
    | zero => exact .cons hr r
    | succ n => exact .cons a (ih r n)
/-- a list takes an item -/
theorem SX_setL {o i e : Expr} {sp pos : Pos} {j : Nat} {k : Int} (he : SE W D V e st pv st₁) (ho : SE W D V o st₁ (.mref j) st₂) (hi : SE W D V i st₂ (.int k) st₃) (hl : st₃[j]? = some (.arr l)) (h0 : 0 ≤ k) (hk : k.toNat < l.length) (hn : noComp e = true := by rfl) :
    SX W D V (.Assign [.Subscript o i sp] e pos) st .next V (st₃.set j (.arr (l.set k.toNat pv))) := by
  intro A C env s hA hH hF
  refine wpAny_Assign_Subscript (he.bind hA hH hF fun v C₁ s₁ x₁ h₁ f₁ r₁ => ho.bind hA h₁ f₁ fun ov C₂ s₂ x₂ h₂ f₂ r₂ => hi.bind hA h₂ f₂ fun iv C₃ s₃ x₃ h₃ f₃ r₃ => ?_) (swaps_no hn _ _ _)
  cases r₃
  cases r₂ with | mref hρ =>
  rename_i a
  have hρ₃ := x₃.le.at hρ
  cases h₃.muts _ _ _ hρ₃ hl with | arr p rl z =>
  have hlen := rl.length
  refine wpAny_setItem_list p h0 (by omega) (by rw [List.size_toArray]; omega) fun h' hp hs => ?_
  obtain ⟨q1, q2⟩ := h₃.turn (tk := s₃.toks) (mo := .arr (l.set k.toNat pv)) hρ₃ hs (.arr (by simpa using hp) (rl.set (r₁.mono (x₂.le.trans x₃.le)) k.toNat) (by simpa using z))
  exact ⟨C₃, (((x₁.trans x₂).trans x₃).trans q2).nil, q1, f₃.ext q2 (by simp), .next⟩
def pstored (d : List (Int × PV)) (k : Int) (p : PV) : List (Int × PV) := if d.any (fun q => q.1 = k) then d.map (fun q => if q.1 = k then (q.1, p) else q) else d ++ [(k, p)]
theorem repDI_map {kvs : List (Int × Value)} {d : List (Int × PV)} (r : RepDI W.prog W.w C kvs d) {k : Int} {p : PV} (hr : Rep W.prog W.w C v p) :
    RepDI W.prog W.w C (kvs.map fun kv => if kv.1 = k then (kv.1, v) else kv) (d.map fun q => if q.1 = k then (q.1, p) else q) := by
  induction kvs generalizing d with
  | nil => cases r; exact .nil
  | cons x xs ih => cases r with
    | cons a r =>
      simp only [List.map_cons]
      split
      · exact .cons hr (ih r)
      · exact .cons a (ih r)
theorem repDI_app {kvs : List (Int × Value)} {d : List (Int × PV)} (r : RepDI W.prog W.w C kvs d) {k : Int} {p : PV} (hr : Rep W.prog W.w C v p) :
    RepDI W.prog W.w C (kvs ++ [(k, v)]) (d ++ [(k, p)]) := by
  induction kvs generalizing d with
  | nil => cases r; exact .cons hr .nil
  | cons x xs ih => cases r with
    | cons a r => exact .cons a (ih r)
theorem repDI_stored {kvs : List (Int × Value)} {d : List (Int × PV)} (r : RepDI W.prog W.w C kvs d) {k : Int} {p : PV} (hr : Rep W.prog W.w C v p) : RepDI W.prog W.w C (stored kvs k v) (pstored d k p) := by
  have h1 : kvs.any (fun kv => decide (kv.1 = k)) = d.any (fun q => decide (q.1 = k)) := by
    induction kvs generalizing d with
    | nil => cases r; rfl
    | cons x xs ih => cases r with | cons a r => simp only [List.any_cons, ih r]
  unfold stored pstored
  rw [h1]
  split
  · exact repDI_map r hr
  · exact repDI_app r hr
theorem RepDI.length {kvs : List (Int × Value)} {d : List (Int × PV)} (r : RepDI W.prog W.w C kvs d) : kvs.length = d.length := by
  induction kvs generalizing d with
  | nil => cases r; rfl
  | cons x xs ih => cases r with | cons a r => simp [ih r]
theorem pstored_length (d : List (Int × PV)) (k : Int) (p : PV) : (pstored d k p).length ≤ d.length + 1 := by
  unfold pstored; split <;> simp
/-- a dict of ints takes an item -/
theorem SX_setD {o i e : Expr} {sp pos : Pos} {j : Nat} {k : Int} {d : List (Int × PV)} (he : SE W D V e st pv st₁) (ho : SE W D V o st₁ (.mref j) st₂) (hi : SE W D V i st₂ (.int k) st₃) (hl : st₃[j]? = some (.dict d)) (hz : d.length < 100000) (hn : noComp e = true := by rfl) :
    SX W D V (.Assign [.Subscript o i sp] e pos) st .next V (st₃.set j (.dict (pstored d k pv))) := by
  intro A C env s hA hH hF
  refine wpAny_Assign_Subscript (he.bind hA hH hF fun v C₁ s₁ x₁ h₁ f₁ r₁ => ho.bind hA h₁ f₁ fun ov C₂ s₂ x₂ h₂ f₂ r₂ => hi.bind hA h₂ f₂ fun iv C₃ s₃ x₃ h₃ f₃ r₃ => ?_) (swaps_no hn _ _ _)
  cases r₃
  cases r₂ with | mref hρ =>
  rename_i a
  have hρ₃ := x₃.le.at hρ
  cases h₃.muts _ _ _ hρ₃ hl with | dict q p rl z =>
  refine wpAny_setItem_pairs (knd := intKind W.prog W.w) (k := k) (by simp [intKind, Value.isInt]) p (fun h' hp hs => ?_) (sl_of z)
  have rs := repDI_stored rl (k := k) (r₁.mono (x₂.le.trans x₃.le))
  obtain ⟨q1, q2⟩ := h₃.turn (tk := s₃.toks + 1) (mo := .dict (pstored d k pv)) hρ₃ hs (.dict q hp rs (by rw [rs.length]; have := pstored_length d k pv; omega))
  exact ⟨C₃, (((x₁.trans x₂).trans x₃).trans q2).nil, q1, f₃.ext q2 (by simp), .next⟩
/-- a call of append, alone -/
theorem SX_Expr {e : Expr} {pos : Pos} (h : SE W D V e st .none st₁) (hn : noComp e = true := by rfl) : SX W D V (.Expr e pos) st .next V st₁ := by
  intro A C env s hA hH hF
  refine wpAny_Expr (h.bind hA hH hF fun v C₁ s₁ x₁ h₁ f₁ r₁ => ?_) ?_ (swaps_no hn _ _ _)
  · cases r₁; exact ⟨C₁, x₁.nil, h₁, f₁, .next⟩
  · unfold interactive; rw [hF.scope, hF.kind]; rfl
end
end Mine

/-! part Lay7 -/
namespace Mine

inductive Src where
  | tup (l : List PV)
  | lst (p : PV)
  | range (a : Int) (n : Nat)
  | enum (p : PV)

inductive ItOK (W : Wd) (C : Cfg) (h : Heap) : Src → Addr → List Addr → Nat → Prop
  | lst {ax I : Addr} {p : PV} {i : Nat} : Rep W.prog W.w C (.ref ax) p → h.IsListIter I ax i → ItOK W C h (.lst p) I [I] i
  | tup {ax I : Addr} {l : List PV} {i : Nat} : Rep W.prog W.w C (.ref ax) (.tup l) → h.IsTupleIter I ax i → ItOK W C h (.tup l) I [I] i
  | range {a : Int} {n i : Nat} {I : Addr} : IsRangeIter h I (a + (i : Int)) ((n : Int) - (i : Int)) 1 → ItOK W C h (.range a n) I [I] i
  | enum {ax I J : Addr} {p : PV} {i : Nat} {old : Value} : Rep W.prog W.w C (.ref ax) p → IsEnum h I J (i : Int) old → h.IsListIter J ax i → I ≠ J → ItOK W C h (.enum p) I [I, J] i

inductive Items (st : St) : Src → List PV → Prop
  | lst {p : PV} {l : List PV} : AsL st p l → Items st (.lst p) l
  | tup {l : List PV} : Items st (.tup l) l
  | range {a : Int} {n : Nat} : Items st (.range a n) ((List.range n).map fun i : Nat => PV.int (a + (i : Int)))
  | enum {p : PV} {l : List PV} : AsL st p l → Items st (.enum p) (l.zipIdx.map fun q => PV.tup [.int (q.2 : Int), q.1])

structure Priv (C : Cfg) (env : Env) (s : Shared) (pr : List Addr) : Prop where
  g : ∀ a ∈ pr, C.g a = none
  ρ : ∀ a ∈ pr, a ∉ C.ρ
  fr : ∀ a ∈ pr, a ∉ frm env
  ex : ∀ a ∈ pr, ∃ o, s.heap.get? a = some o

section
variable {W : Wd} {D : Nat} {V V₁ V₂ : Vars} {st st₁ st₂ st₃ st' : St} {A : Around} {C C' : Cfg} {env : Env} {s s' : Shared} {v f : Value} {pv : PV} {l : List PV} {src : Src} {I : Addr} {pr X : List Addr} {i : Nat}

theorem Priv.ext (p : Priv C env s pr) (x : Ext X C s C' s') (hX : ∀ a ∈ pr, a ∉ X) : Priv C' env s' pr where
  g := fun a ha => let ⟨o, e⟩ := p.ex a ha; x.new a o (hX a ha) e (p.g a ha)
  ρ := fun a ha h => let ⟨o, e⟩ := p.ex a ha; p.ρ a ha (x.ρnew a o (hX a ha) e h)
  fr := p.fr
  ex := fun a ha => let ⟨o, e⟩ := p.ex a ha; let ⟨o', e', _⟩ := x.keep a o (hX a ha) e; ⟨o', e'⟩
theorem Priv.sub {pr' : List Addr} (p : Priv C env s pr) (h : ∀ a ∈ pr', a ∈ pr) : Priv C env s pr' :=
  ⟨fun a ha => p.g a (h a ha), fun a ha => p.ρ a (h a ha), fun a ha => p.fr a (h a ha), fun a ha => p.ex a (h a ha)⟩
theorem Priv.keep (p : Priv C env s pr) (x : Ext X C s C' s') (hX : ∀ a ∈ pr, a ∉ X) : ∀ a ∈ pr, ∀ o, s.heap.get? a = some o → s'.heap.get? a = some o :=
  fun a ha o e => x.same e (p.ρ a ha) (hX a ha)

theorem ItOK.self {h : Heap} (t : ItOK W C h src I pr i) : I ∈ pr := by cases t <;> simp
theorem ItOK.mono {h h' : Heap} (t : ItOK W C h src I pr i) (le : CLe C C') (hk : ∀ a ∈ pr, ∀ o, h.get? a = some o → h'.get? a = some o) : ItOK W C' h' src I pr i := by
  cases t with
  | lst r t => exact .lst (r.mono le) (let ⟨o, e, q⟩ := t; ⟨o, hk _ (by simp) o e, q⟩)
  | tup r t => exact .tup (r.mono le) (let ⟨o, e, q⟩ := t; ⟨o, hk _ (by simp) o e, q⟩)
  | range t => exact .range (hk _ (by simp) _ t)
  | enum r e t n => exact .enum (r.mono le) (hk _ (by simp) _ e) (let ⟨o, e, q⟩ := t; ⟨o, hk _ (by simp) o e, q⟩) n

/-- an object that is a value or mutable is no private one -/
theorem not_priv (hH : HOK W C st s) (p : Priv C env s pr) {a ax : Addr} (ha : a ∈ pr) (r : Rep W.prog W.w C (.ref ax) pv) (hraw : ∀ b, pv ≠ .raw b) : ax ≠ a := by
  rintro rfl
  have h1 := p.g _ ha
  have h2 := p.ρ _ ha
  cases r with
  | tup e => rw [h1] at e; cases e
  | lst e => rw [h1] at e; cases e
  | dictI e => rw [h1] at e; cases e
  | dictS e => rw [h1] at e; cases e
  | obj e => rw [h1] at e; cases e
  | mref e => exact h2 (List.mem_of_getElem? e)
  | raw b => exact hraw _ rfl
theorem AsL.noRaw (h : AsL st pv l) : ∀ b, pv ≠ .raw b := by intro b e; subst e; cases h

theorem HOK.frame1 {h' : Heap} {tk : Nat} {a : Addr} (h : HOK W C st s) (hs : Heap.ExtBut a s.heap h') (h1 : C.g a = none) (h2 : a ∉ C.ρ) : HOK W C st { s with heap := h', toks := tk } where
  same := by obtain ⟨hp, t, rfl⟩ := h.same; exact ⟨_, tk, rfl⟩
  base := h.base
  ghost := fun b o e => by
    have : b ≠ a := by rintro rfl; rw [h1] at e; cases e
    exact hs b o this (h.ghost b o e)
  len := h.len
  muts := fun j b m e1 e2 => (h.muts j b m e1 e2).mono (.refl C) fun o e => by
    have : b ≠ a := by rintro rfl; exact h2 (List.mem_of_getElem? e1)
    exact hs b o this e
  nodup := h.nodup
  apart := h.apart
theorem HOK.frameL {h' : Heap} {tk : Nat} {pr : List Addr} (h : HOK W C st s) (hs : ∀ b o, b ∉ pr → s.heap.get? b = some o → h'.get? b = some o) (h1 : ∀ a ∈ pr, C.g a = none) (h2 : ∀ a ∈ pr, a ∉ C.ρ) : HOK W C st { s with heap := h', toks := tk } where
  same := by obtain ⟨hp, t, rfl⟩ := h.same; exact ⟨_, tk, rfl⟩
  base := h.base
  ghost := fun b o e => by
    have : b ∉ pr := by intro hb; rw [h1 b hb] at e; cases e
    exact hs b o this (h.ghost b o e)
  len := h.len
  muts := fun j b m e1 e2 => (h.muts j b m e1 e2).mono (.refl C) fun o e => by
    have : b ∉ pr := by intro hb; exact h2 b hb (List.mem_of_getElem? e1)
    exact hs b o this e
  nodup := h.nodup
  apart := h.apart
theorem Ext.frameL {h' : Heap} {tk : Nat} {pr : List Addr} (C : Cfg) (hs : ∀ b o, b ∉ pr → s.heap.get? b = some o → h'.get? b = some o) : Ext pr C s C { s with heap := h', toks := tk } :=
  ⟨.refl C, fun _ _ _ _ h => h, fun _ _ _ _ h => h, fun b o n e => ⟨o, hs b o n e, fun _ => rfl⟩⟩
theorem ex_of {x y : Addr} {h : Heap} {P : Obj → Prop} (hI : ∃ o, h.get? y = some o ∧ P o) (hx : x ∈ [y]) : ∃ o, h.get? x = some o := by
  simp at hx; subst hx; obtain ⟨o, e, _⟩ := hI; exact ⟨o, e⟩

def letGoOK (t : Expr) : Bool := match t with
  | .Name _ _ => true
  | .Tuple _ _ _ => true
  | _ => false

theorem letGo_tupiter {prog : Program} {w : World} {E : Value → Shared → Prop} {elts : List Expr} {x1 : Nat} {pos : Pos} {I t T : Addr} {i : Nat} {Q : Unit → Shared → Prop} (hit : s.heap.IsTupleIter I t i) (hQ : Q () s) :
    wpAny (model prog w) A (letOwnedTupleGo (.Tuple elts x1 pos) (.ref I) (.ref T)) Q E s := by
  obtain ⟨o, ho, hc, hd⟩ := hit
  unfold letOwnedTupleGo
  refine wpAny_bind (wpAny_load ho ?_)
  rw [hc, hd]
  show wpAny _ A (if (["enumerate", "zip", "dict_itemiterator", "dict_reverseitemiterator", "odict_iterator", "itertools.zip_longest", "itertools.pairwise"].contains "tuple_iterator" &&
      (#[.ref t, .int i 0] : Array Value)[0]? == some (rawInt T)) = true then _ else _) Q E s
  rw [if_neg (by
    intro h
    rw [show (["enumerate", "zip", "dict_itemiterator", "dict_reverseitemiterator", "odict_iterator", "itertools.zip_longest", "itertools.pairwise"].contains "tuple_iterator") = false from by decide, Bool.false_and] at h
    cases h)]
  exact wpAny_pure hQ

theorem letGo_seq {prog : Program} {w : World} {E : Value → Shared → Prop} {t : Expr} {Q : Unit → Shared → Prop} (ht : letGoOK t = true) (hit : (∃ l i, s.heap.IsListIter I l i) ∨ (∃ l i, s.heap.IsTupleIter I l i)) (hQ : Q () s) :
    wpAny (model prog w) A (letOwnedTupleGo t (.ref I) v) Q E s := by
  cases t <;> first | (simp [letGoOK] at ht; done) | skip
  · exact wpAny_pure hQ
  · cases v <;> first | exact wpAny_pure hQ | skip
    rcases hit with ⟨l, i, h⟩ | ⟨l, i, h⟩
    · exact wpAny_letOwnedTupleGo_listiter h hQ
    · exact letGo_tupiter h hQ

def tupTarget (t : Expr) : Bool := match t with
  | .Tuple _ _ _ => true
  | _ => false

theorem next_item {E : Value → Shared → Prop} {t : Expr} {p : PV} {Q : Value → Shared → Prop} (hH : HOK W C st s) (hP : Priv C env s pr) (hI : ItOK W C s.heap src I pr i) (hl : Items st src l) (hp : l[i]? = some p)
    (ht : letGoOK t = true) (hte : (∃ q, src = .enum q) → tupTarget t = true)
    (h : ∀ v C' s', Ext pr C s C' s' → HOK W C' st s' → Priv C' env s' pr → ItOK W C' s'.heap src I pr (i + 1) → Rep W.prog W.w C' v p → Q v s') :
    wpAny (model W.prog W.w) A (pyNext (.ref I)) (fun r s₁ => ∃ v, r = some v ∧ wpAny (model W.prog W.w) A (letOwnedTupleGo t (.ref I) v) (fun _ s₂ => Q v s₂) E s₁) E s := by
  cases hI with
  | lst r it =>
    rename_i ax q
    cases hl with | lst a =>
    obtain ⟨x, items, e, hL, rl, z⟩ := a.isList hH r
    cases e
    obtain ⟨u, hu, ru⟩ := rl.get hp
    have hne := not_priv hH hP (a := I) (by simp) r a.noRaw
    refine wpAny_pyNext_list_item it hL (by simpa using hu) fun h' it' hs' => ⟨u, rfl, letGo_seq ht (.inl ⟨_, _, it'⟩) ?_⟩
    exact h u C _ (Ext.frame (tk := s.toks) C hs' (by simp)) (hH.frame (tk := s.toks) hs' (hP.g _ (by simp)) (hP.ρ _ (by simp))) ⟨hP.g, hP.ρ, hP.fr, fun a ha => ex_of it' ha⟩ (.lst r it') ru
  | tup r it =>
    rename_i ax
    cases hl with | tup =>
    obtain ⟨x, items, e, hL, rl, z⟩ := rep_tup hH r
    cases e
    obtain ⟨u, hu, ru⟩ := rl.get hp
    refine wpAny_pyNext_tuple_item it hL (by simpa using hu) fun h' it' hs' => ⟨u, rfl, letGo_seq ht (.inr ⟨_, _, it'⟩) ?_⟩
    exact h u C _ (Ext.frame (tk := s.toks) C hs' (by simp)) (hH.frame (tk := s.toks) hs' (hP.g _ (by simp)) (hP.ρ _ (by simp))) ⟨hP.g, hP.ρ, hP.fr, fun a ha => ex_of it' ha⟩ (.tup r it') ru
  | range it =>
    rename_i a n
    cases hl with | range =>
    have hi : i < n := by
      have := (List.getElem?_eq_some_iff.mp hp).1
      simpa using this
    have e : p = .int (a + (i : Int)) := by
      simp [hi] at hp
      exact hp.symm
    subst e
    refine wpAny_pyNext_range_item it (by omega) fun h' it' hs' => ⟨_, rfl, ?_⟩
    have fin : Q (.int (a + (i : Int)) s.toks) { s with heap := h', toks := s.toks + 1 } := by
      refine h _ C _ (Ext.frame C hs' (by simp)) (hH.frame hs' (hP.g _ (by simp)) (hP.ρ _ (by simp))) ⟨hP.g, hP.ρ, hP.fr, fun a ha => by simp at ha; subst ha; exact ⟨_, it'⟩⟩ (.range ?_) (.int _ _)
      have e1 : a + ((i + 1 : Nat) : Int) = a + (i : Int) + 1 := by omega
      have e2 : (n : Int) - ((i + 1 : Nat) : Int) = (n : Int) - (i : Int) - 1 := by omega
      rw [e1, e2]; exact it'
    cases t <;> first | (simp [letGoOK] at ht; done) | exact wpAny_pure fin
  | enum r he it hne =>
    rename_i ax J q old
    cases hl with | enum a =>
    rename_i l'
    obtain ⟨x, items, e, hL, rl, z⟩ := a.isList hH r
    cases e
    obtain ⟨y, hy, ey⟩ : ∃ y, l'[i]? = some y ∧ p = .tup [.int (i : Int), y] := by
      rw [List.getElem?_map] at hp
      obtain ⟨q, hq, rfl⟩ := Option.map_eq_some_iff.mp hp
      rw [List.getElem?_zipIdx] at hq
      obtain ⟨y, hy, rfl⟩ := Option.map_eq_some_iff.mp hq
      exact ⟨y, hy, by simp⟩
    subst ey
    obtain ⟨u, hu, ru⟩ := rl.get hy
    cases t <;> first | (simp [letGoOK] at ht; done) | (have := hte ⟨_, rfl⟩; simp [tupTarget] at this; done) | skip
    have nI := not_priv hH hP (a := I) (by simp) r a.noRaw
    have nJ := not_priv hH hP (a := J) (by simp) r a.noRaw
    have hIl : I < s.heap.objs.size := Heap.lt_size he
    refine wpAny_pyNext_enum_item he it hL (by simpa using hu) hne fun h₁ heo it₁ ht₁ hz₁ hk₁ => ⟨_, rfl, ?_⟩
    refine wpAny_letOwnedTupleGo_enum heo fun h₂ he₂ hs₂ => ?_
    replace hs₂ : Heap.SameBut I h₁ h₂ := hs₂
    have keep : ∀ b o, b ∉ [I, J] → s.heap.get? b = some o → h₂.get? b = some o := fun b o hb e => by
      simp at hb
      exact hs₂.extBut b o hb.1 (hk₁ b o hb.1 hb.2 e)
    have it₂ : h₂.IsListIter J ax (i + 1) := it₁.extBut hs₂.extBut (Ne.symm hne)
    have hT : h₂.get? s.heap.objs.size = some { cls := .type "tuple", data := .seq #[.int i s.toks, u] } := hs₂.extBut _ _ (Nat.ne_of_gt hIl) ht₁
    have H2 := hH.frameL (tk := s.toks + 1) keep (fun a ha => hP.g a ha) (fun a ha => hP.ρ a ha)
    obtain ⟨f1, f2⟩ := hH.fresh (get_size s.heap)
    have X2 := Ext.frameL (tk := s.toks + 1) C keep
    have H3 := H2.freeze hT f1 f2
    have le := CLe.add (o := { cls := .type "tuple", data := .seq #[.int i s.toks, u] }) f1
    have hTp : ∀ a ∈ [I, J], a ≠ s.heap.objs.size := fun a ha => by obtain ⟨o, e⟩ := hP.ex a ha; exact Nat.ne_of_lt (Heap.lt_size e)
    refine h _ _ _ ⟨X2.le.trans le, fun b o n e hb => ?_, X2.ρnew, X2.keep⟩ H3 ⟨fun a ha => ?_, hP.ρ, hP.fr, fun a ha => ?_⟩ (.enum (old := u) (r.mono le) ?_ it₂ hne) (.tup (o := { cls := .type "tuple", data := .seq #[.int i s.toks, u] }) (items := [.int i s.toks, u]) (Cfg.add_self _ _ _) rfl rfl (.cons (.int _ _) (.cons (ru.mono le) .nil)) (by simp))
    · have : b ≠ s.heap.objs.size := by rintro rfl; rw [get_size] at e; cases e
      simpa [Cfg.add, this] using hb
    · simpa [Cfg.add, hTp a ha] using hP.g a ha
    · simp at ha
      rcases ha with rfl | rfl
      · exact ⟨_, he₂⟩
      · obtain ⟨o, e, _⟩ := it₂; exact ⟨o, e⟩
    · have : ((i + 1 : Nat) : Int) = (i : Int) + 1 := by push_cast; rfl
      rw [this]; exact he₂

theorem next_end {E : Value → Shared → Prop} {Q : Option Value → Shared → Prop} (hA : Room D A) (hH : HOK W C st s) (hP : Priv C env s pr) (hI : ItOK W C s.heap src I pr i) (hl : Items st src l) (hp : l.length ≤ i)
    (h : ∀ s', Ext pr C s C s' → HOK W C st s' → Q none s') : wpAny (model W.prog W.w) A (pyNext (.ref I)) Q E s := by
  have fin : ∀ (a : Addr) (h' : Heap), a ∈ pr → Heap.ExtBut a s.heap h' → Q none { s with heap := h' } := fun a h' ha he =>
    have k : ∀ b o, b ∉ pr → s.heap.get? b = some o → h'.get? b = some o := fun b o n e => he b o (fun q => n (q ▸ ha)) e
    h { s with heap := h' } (Ext.frameL (tk := s.toks) C k) (hH.frameL (tk := s.toks) k hP.g hP.ρ)
  cases hI with
  | lst r it =>
    cases hl with | lst a =>
    obtain ⟨x, items, e, hL, rl, z⟩ := a.isList hH r
    cases e
    have := rl.length
    exact wpAny_pyNext_list_end hA.handled it hL (by simp; omega) fun h' he => fin _ h' (by simp) he
  | tup r it =>
    cases hl with | tup =>
    obtain ⟨x, items, e, hL, rl, z⟩ := rep_tup hH r
    cases e
    have := rl.length
    exact wpAny_pyNext_tuple_end hA.handled it hL (by simp; omega) fun h' he => fin _ h' (by simp) he
  | range it =>
    cases hl with | range =>
    simp at hp
    exact wpAny_pyNext_range_end hA.handled it (by omega) fun h' he => fin _ h' (by simp) he
  | enum r he it hne =>
    cases hl with | enum a =>
    obtain ⟨x, items, e, hL, rl, z⟩ := a.isList hH r
    cases e
    have := rl.length
    simp at hp
    exact wpAny_pyNext_enum_end hA.handled he it hL (by simp; omega) fun h' he => fin _ h' (by simp) he
end
end Mine

/-! part Lay8 -/
namespace Mine

def SI (W : Wd) (D : Nat) (V : Vars) (e : Expr) (st : St) (src : Src) (st' : St) : Prop :=
  ∀ A C env s, Room D A → HOK W C st s → FrOK W C env V s → wpAny (model W.prog W.w) A (eval e env) (fun x s₁ => wpAny (model W.prog W.w) A (pyIter x) (fun it s₂ => ∃ C' I pr, it = .ref I ∧ Ext [] C s C' s₂ ∧ HOK W C' st' s₂ ∧
    Priv C' env s₂ pr ∧ ItOK W C' s₂.heap src I pr 0 ∧ ∀ a ∈ pr, s.heap.get? a = none) noE s₁) noE s

structure VLe (V V' : Vars) : Prop where
  own : V.own = V'.own
  scope : V.scope = V'.scope
  vars : ∀ x p, V.vars.lookup x = some p → V'.vars.lookup x = some p
theorem VLe.refl (V : Vars) : VLe V V := ⟨rfl, rfl, fun _ _ h => h⟩

section
variable {W : Wd} {D : Nat} {V V₁ V₂ V₃ V' : Vars} {st st₁ st₂ st₃ st' : St} {A : Around} {C C' : Cfg} {env : Env} {s s' : Shared} {v f : Value} {pv : PV} {l : List PV} {src : Src} {I : Addr} {pr X : List Addr} {i : Nat}

theorem FrOK.weak (h : FrOK W C env V' s) (le : VLe V V') : FrOK W C env V s where
  scope := by rw [le.scope]; exact h.scope
  glob := h.glob
  bi := h.bi
  kind := by rw [le.scope]; exact h.kind
  own := by rw [le.own]; exact h.own
  ns := by obtain ⟨m, hn, hm⟩ := h.ns; exact ⟨m, hn, fun x p hk hv => hm x p (by rw [← le.scope]; exact hk) (le.vars x p hv)⟩
  cells := fun x hx => by obtain ⟨c, v, a, b, d⟩ := h.cells x (by rw [← le.scope]; exact hx); exact ⟨c, v, a, b, fun p hp => d p (le.vars x p hp)⟩
  apart := h.apart
  ex := h.ex
  inj := h.inj

theorem fresh_back (x : Ext [] C s C' s') {a : Addr} (h : s'.heap.get? a = none) : s.heap.get? a = none := by
  cases e : s.heap.get? a with
  | none => rfl
  | some o => obtain ⟨o', e', _⟩ := x.keep a o (by simp) e; rw [h] at e'; cases e'

theorem si_fin {h' : Heap} {tk : Nat} {it : Value} (hx : Ext [] C s C' s') (hH : HOK W C' st s') (hF : FrOK W C' env V s') (hk : ∀ b o, s'.heap.get? b = some o → h'.get? b = some o) (hit : it = .ref I)
    (hn : ∀ a ∈ pr, s'.heap.get? a = none) (he : ∀ a ∈ pr, ∃ o, h'.get? a = some o) (hI : ItOK W C' h' src I pr 0) :
    ∃ C' I pr, it = .ref I ∧ Ext [] C s C' { s' with heap := h', toks := tk } ∧ HOK W C' st { s' with heap := h', toks := tk } ∧ Priv C' env { s' with heap := h', toks := tk } pr ∧ ItOK W C' h' src I pr 0 ∧ ∀ a ∈ pr, s.heap.get? a = none :=
  ⟨C', I, pr, hit, hx.trans (Ext.keeps C' s' hk), hH.keeps hk, ⟨fun a ha => (hH.fresh (hn a ha)).1, fun a ha => (hH.fresh (hn a ha)).2, fun a ha hf => by
    obtain ⟨o, e⟩ := hF.ex a hf
    rw [hn a ha] at e
    exact absurd e (by simp), he⟩, hI, fun a ha => fresh_back hx (hn a ha)⟩

theorem SI_lst {e : Expr} (h : SE W D V e st pv st₁) (hl : AsL st₁ pv l) : SI W D V e st (.lst pv) st₁ := by
  intro A C env s hA hH hF
  refine h.bind hA hH hF fun v C₁ s₁ x₁ h₁ f₁ r₁ => ?_
  obtain ⟨ax, items, rfl, hL, rl, z⟩ := hl.isList h₁ r₁
  exact wpAny_pyIter_list hL (si_fin (tk := s₁.toks) (pr := [s₁.heap.objs.size]) x₁ h₁ f₁ (fun b o e => Heap.get?_push_of_some _ e) rfl (fun a ha => by simp at ha; subst ha; exact get_size _)
    (fun a ha => by simp at ha; subst ha; exact ⟨_, Heap.get?_push_size _ rfl⟩) (.lst r₁ ⟨_, Heap.get?_push_size _ rfl, rfl, rfl⟩))
theorem SI_tup {e : Expr} (h : SE W D V e st (.tup l) st₁) : SI W D V e st (.tup l) st₁ := by
  intro A C env s hA hH hF
  refine h.bind hA hH hF fun v C₁ s₁ x₁ h₁ f₁ r₁ => ?_
  obtain ⟨ax, items, rfl, hL, rl, z⟩ := rep_tup h₁ r₁
  exact wpAny_pyIter_tuple hL (si_fin (tk := s₁.toks) (pr := [s₁.heap.objs.size]) x₁ h₁ f₁ (fun b o e => Heap.get?_push_of_some _ e) rfl (fun a ha => by simp at ha; subst ha; exact get_size _)
    (fun a ha => by simp at ha; subst ha; exact ⟨_, Heap.get?_push_size _ rfl⟩) (.tup r₁ ⟨_, Heap.get?_push_size _ rfl, rfl, rfl⟩))

theorem callWith_gen (B : Base W) (hk : Keep W f) {e : Expr} {es : List Expr} {ps : List PV} {pos : Pos} {first : List Value} {Q : Value → Shared → Prop} {E : Value → Shared → Prop} (hs : SEs W D V (e :: es) st ps st₁) (hp : (e :: es).any starry = false)
    (hA : Room D A) (hH : HOK W C st s) (hF : FrOK W C env V s)
    (k : ∀ vs C₁ s₁, Ext [] C s C₁ s₁ → HOK W C₁ st₁ s₁ → FrOK W C₁ env V s₁ → RepL W.prog W.w C₁ vs ps → wpAny (model W.prog W.w) A (call f (first ++ vs)) Q E s₁) :
    wpAny (model W.prog W.w) A (callWith pos f first (backTo pos (starEach (e :: es) env)) []) Q E s := by
  refine callWith_of (P := W.K.In) (by rw [plain_args hp]; rfl) hk ?_
  simp only [List.any_cons, Bool.or_eq_false_iff] at hp
  have := hs.bind (Q := fun vs s₁ => W.K.In s₁.heap ∧ wpAny (model W.prog W.w) A (call f (first ++ vs)) Q E s₁) (pos := pos) (E := E) hA hH hF fun vs C₁ s₁ x₁ h₁ f₁ r₁ =>
    ⟨h₁.inK B, k vs C₁ s₁ x₁ h₁ f₁ r₁⟩
  rw [starEach_plain hp.1] at this ⊢
  exact Calls.evalArgs_plain this

theorem small_of {n : Int} (h1 : -100000 ≤ n) (h2 : n ≤ 100000) : Builtin.Range.small 0 n 1 = true := by
  have hs := rangeSize_one 0 n
  unfold Builtin.Range.small Builtin.Range.rangeFitsLong
  rw [hs]
  simp only [Bool.and_eq_true, decide_eq_true_eq, Bool.or_eq_true, beq_iff_eq]
  split <;> simp <;> omega
theorem SI_range (B : Base W) {np pos : Pos} {e : Expr} {n : Int} (hn : NameIs W V "range" (.type "range")) (h : SE W D V e st (.int n) st₁) (h1 : -100000 ≤ n) (h2 : n ≤ 100000) (hp : starry e = false := by rfl) :
    SI W D V (.Call (.Name "range" np) [e] [] pos) st (.range 0 n.toNat) st₁ := by
  intro A C env s hA hH hF
  refine wpAny_Call_ofName (hn A C env s st _ _ np hH hF ?_)
  refine callWith_gen B keep_type (SEs_cons h SEs_nil hp) (by simp [hp]) hA hH hF fun vs C₁ s₁ x₁ h₁ f₁ r₁ => ?_
  cases r₁ with | cons r rs =>
  cases rs
  cases r with | int _ t =>
  refine call_range_1 ?_
  have hk : ∀ b o, s₁.heap.get? b = some o → (s₁.heap.push { cls := .type "range", data := .fields #[.int 0 s₁.toks, .int n t, .int 1 (s₁.toks + 1)] }).get? b = some o := fun b o e => Heap.get?_push_of_some _ e
  refine wpAny_pyIter_range (IsRange.new _ _ _ _ _ _ _) (small_of h1 h2) ?_
  refine si_fin (s' := { s₁ with heap := s₁.heap.push { cls := .type "range", data := .fields #[.int 0 s₁.toks, .int n t, .int 1 (s₁.toks + 1)] }, toks := s₁.toks + 1 + 1 }) (tk := s₁.toks + 1 + 1) (pr := [s₁.heap.objs.size + 1])
    (x₁.trans (Ext.keeps C₁ s₁ hk)) (h₁.keeps hk) (f₁.ext (Ext.keeps C₁ s₁ hk) (by simp)) (fun b o e => Heap.get?_push_of_some _ e) ?_ (fun a ha => ?_) (fun a ha => ?_) (.range ?_)
  · rw [Heap.size_push]
  · simp at ha; subst ha
    have := get_size (s₁.heap.push { cls := .type "range", data := .fields #[.int 0 s₁.toks, .int n t, .int 1 (s₁.toks + 1)] })
    rwa [Heap.size_push] at this
  · simp at ha; subst ha
    have := Heap.get?_push_size (s₁.heap.push { cls := .type "range", data := .fields #[.int 0 s₁.toks, .int n t, .int 1 (s₁.toks + 1)] }) (o := { cls := .type "range_iterator", data := .fields #[rawInt 0, rawInt (Builtin.Range.rangeSize 0 n 1), rawInt 1] }) rfl
    rw [Heap.size_push] at this
    exact ⟨_, this⟩
  · have := Heap.get?_push_size (s₁.heap.push { cls := .type "range", data := .fields #[.int 0 s₁.toks, .int n t, .int 1 (s₁.toks + 1)] }) (o := { cls := .type "range_iterator", data := .fields #[rawInt 0, rawInt (Builtin.Range.rangeSize 0 n 1), rawInt 1] }) rfl
    rw [Heap.size_push] at this
    have e : (n.toNat : Int) - ((0 : Nat) : Int) = Builtin.Range.rangeSize 0 n 1 := by rw [rangeSize_one]; split <;> omega
    rw [e]
    exact this
theorem SI_enum (B : Base W) {np pos : Pos} {e : Expr} (hn : NameIs W V "enumerate" (.type "enumerate")) (h : SE W D V e st pv st₁) (hl : AsL st₁ pv l) (hp : starry e = false := by rfl) :
    SI W D V (.Call (.Name "enumerate" np) [e] [] pos) st (.enum pv) st₁ := by
  intro A C env s hA hH hF
  refine wpAny_Call_ofName (hn A C env s st _ _ np hH hF ?_)
  refine callWith_gen B keep_type (SEs_cons h SEs_nil hp) (by simp [hp]) hA hH hF fun vs C₁ s₁ x₁ h₁ f₁ r₁ => ?_
  cases r₁ with | cons r rs =>
  cases rs
  obtain ⟨ax, items, rfl, hL, rl, z⟩ := hl.isList h₁ r
  refine call_enumerate_list hL fun h' he hit hz hk => wpAny_pyIter_enum he ?_
  refine si_fin (tk := s₁.toks) (pr := [s₁.heap.objs.size + 1, s₁.heap.objs.size]) x₁ h₁ f₁ hk rfl (fun a ha => ?_) (fun a ha => ?_) (.enum r he hit (Nat.succ_ne_self _))
  · simp at ha
    rcases ha with rfl | rfl
    · cases e : s₁.heap.get? (s₁.heap.objs.size + 1) with
      | none => rfl
      | some o => exact absurd (Heap.lt_size e) (Nat.not_lt.mpr (Nat.le_succ _))
    · exact get_size _
  · simp at ha
    rcases ha with rfl | rfl
    · exact ⟨_, he⟩
    · obtain ⟨o, e, _⟩ := hit; exact ⟨o, e⟩

/-! for -/
theorem next_item2 {E : Value → Shared → Prop} {t : Expr} {p : PV} {Q : Value → Shared → Prop} {P : Option Value → Shared → Prop} (hq : ∀ v s₁, wpAny (model W.prog W.w) A (letOwnedTupleGo t (.ref I) v) (fun _ s₂ => Q v s₂) E s₁ → P (some v) s₁)
    (hH : HOK W C st s) (hP : Priv C env s pr) (hI : ItOK W C s.heap src I pr i) (hl : Items st src l) (hp : l[i]? = some p)
    (ht : letGoOK t = true) (hte : (∃ q, src = .enum q) → tupTarget t = true)
    (h : ∀ v C' s', Ext pr C s C' s' → HOK W C' st s' → Priv C' env s' pr → ItOK W C' s'.heap src I pr (i + 1) → Rep W.prog W.w C' v p → Q v s') :
    wpAny (model W.prog W.w) A (pyNext (.ref I)) P E s :=
  wpAny_mono (next_item hH hP hI hl hp ht hte h) (fun r s' ⟨v, e, q⟩ => by subst e; exact hq v s' q) fun _ _ e => e

inductive ForL (W : Wd) (D : Nat) (t : Expr) (body : List Stmt) (src : Src) (l : List PV) : Nat → Vars → St → Flo → Vars → St → Prop
  | done {i : Nat} {V : Vars} {st : St} : l.length ≤ i → Items st src l → ForL W D t body src l i V st .next V st
  | step {i : Nat} {V V₁ V₂ V₃ V' : Vars} {st st₁ st₂ st' : St} {p : PV} {fl fl' : Flo} : l[i]? = some p → Items st src l → SA W D V t p st V₁ st₁ → SS W D V₁ body st₁ fl V₂ st₂ → (fl = .next ∨ fl = .cont) → VLe V₃ V₂ →
      ForL W D t body src l (i + 1) V₃ st₂ fl' V' st' → ForL W D t body src l i V st fl' V' st'
  | ret {i : Nat} {V V₁ V₂ : Vars} {st st₁ st₂ : St} {p r : PV} : l[i]? = some p → Items st src l → SA W D V t p st V₁ st₁ → SS W D V₁ body st₁ (.ret r) V₂ st₂ → ForL W D t body src l i V st (.ret r) V₂ st₂

theorem SX_For {t iter : Expr} {body : List Stmt} {pos : Pos} {fl : Flo} (hi : SI W D V iter st src st₁) (hL : ForL W D t body src l 0 V st₁ fl V' st')
    (ht : letGoOK t = true := by rfl) (hte : (∃ q, src = .enum q) → tupTarget t = true := by first | (rintro ⟨q, h⟩; cases h; done) | (intro _; rfl)) (hs : ∀ env x, foldedSetIterable iter env x = pure x := by intro _ _; rfl) :
    SX W D V (.For t iter body [] pos) st fl V' st' := by
  intro A C env s hA hH hF
  refine wpAny_For (wpAny_mono (hi A C env s hA hH hF) (fun x s₁ hx => wpAny_mono hx (fun it s₂ ⟨C', I, pr, eI, x₂, h₂, p₂, i₂, fr⟩ => ?_) noE_imp) noE_imp) (hs env)
  subst eI
  have f₂ := hF.ext x₂ (by simp)
  refine codeAny_mono (R := fun r s' => ∃ C'', Ext (frmW env ++ pr) C' s₂ C'' s' ∧ HOK W C'' st' s' ∧ FrOK W C'' env V' s' ∧ ∃ f, r = .ok f ∧ FRep W C'' f fl) ?_ (fun r s' ⟨C'', y, hy, fy, f, er, rf⟩ => ?_)
  · refine codeAny_forLoop_any (fun n s' => ∃ i C'' V₀ st₀, n = l.length + 1 - i ∧ Ext (frmW env ++ pr) C' s₂ C'' s' ∧ HOK W C'' st₀ s' ∧ FrOK W C'' env V₀ s' ∧ Priv C'' env s' pr ∧ ItOK W C'' s'.heap src I pr i ∧ ForL W D t body src l i V₀ st₀ fl V' st')
      ?_ (l.length + 1) ⟨0, C', V, st₁, by omega, .refl .., h₂, f₂, p₂, i₂, hL⟩
    rintro n s₃ ⟨i, C₃, V₀, st₀, rfl, x₃, h₃, f₃, p₃, i₃, L₃⟩
    have hd : ∀ a ∈ frm env, a ∉ pr := fun a ha hp => p₃.fr a hp ha
    cases L₃ with
    | done hle hit =>
      refine next_end hA h₃ p₃ i₃ hit hle fun s₄ x₄ h₄ => wpAny_execs_nil ?_
      exact ⟨C₃, x₃.trans (x₄.wide fun a ha => List.mem_append_right _ ha), h₄, f₃.ext x₄ hd, .next, rfl, .next⟩
    | step hp hit ha hb hfl hV hrest =>
      have hi : i < l.length := (List.getElem?_eq_some_iff.mp hp).1
      refine next_item2 (fun v s₄ q => q) h₃ p₃ i₃ hit hp ht hte fun v C₄ s₄ x₄ h₄ p₄ i₄ r₄ => ha.bind hA h₄ (f₃.ext x₄ hd) r₄ fun C₅ s₅ x₅ h₅ f₅ => hb.bind hA h₅ f₅ fun f C₆ s₆ x₆ h₆ f₆ r₆ => ?_
      have k5 := p₄.keep x₅ (fun a ha h => p₄.fr a ha (frmW_sub h))
      have p₅ := p₄.ext x₅ (fun a ha h => p₄.fr a ha (frmW_sub h))
      have k6 := p₅.keep x₆ (fun a ha h => p₄.fr a ha (frmW_sub h))
      have p₆ := p₅.ext x₆ (fun a ha h => p₄.fr a ha (frmW_sub h))
      have fin : ∃ m, m < l.length + 1 - i ∧ ∃ j C'' V₀ st₀, m = l.length + 1 - j ∧ Ext (frmW env ++ pr) C' s₂ C'' s₆ ∧ HOK W C'' st₀ s₆ ∧ FrOK W C'' env V₀ s₆ ∧ Priv C'' env s₆ pr ∧ ItOK W C'' s₆.heap src I pr j ∧ ForL W D t body src l j V₀ st₀ fl V' st' :=
        ⟨l.length + 1 - (i + 1), by omega, i + 1, C₆, _, _, rfl, ((x₃.trans (x₄.wide fun a ha => List.mem_append_right _ ha)).trans (x₅.wide fun a ha => List.mem_append_left _ ha)).trans (x₆.wide fun a ha => List.mem_append_left _ ha),
          h₆, f₆.weak hV, p₆, i₄.mono (x₅.le.trans x₆.le) (fun a ha o e => k6 a ha o (k5 a ha o e)), hrest⟩
      rcases hfl with rfl | rfl
      · cases r₆; exact fin
      · cases r₆; exact fin
    | ret hp hit ha hb =>
      refine next_item2 (fun v s₄ q => q) h₃ p₃ i₃ hit hp ht hte fun v C₄ s₄ x₄ h₄ p₄ i₄ r₄ => ha.bind hA h₄ (f₃.ext x₄ hd) r₄ fun C₅ s₅ x₅ h₅ f₅ => hb.bind hA h₅ f₅ fun f C₆ s₆ x₆ h₆ f₆ r₆ => ?_
      cases r₆ with | ret rr =>
      exact ⟨C₆, ((x₃.trans (x₄.wide fun a ha => List.mem_append_right _ ha)).trans (x₅.wide fun a ha => List.mem_append_left _ ha)).trans (x₆.wide fun a ha => List.mem_append_left _ ha), h₆, f₆, _, rfl, .ret rr⟩
  · subst er
    refine ⟨C'', (x₂.nil (X := frmW env ++ pr)).trans y |>.hide (fun a ha hn => ?_), hy, fy, rf⟩
    rcases List.mem_append.mp ha with h | h
    · exact absurd h hn
    · exact fr a h

/-! while -/
inductive WhL (W : Wd) (D : Nat) (t : Expr) (body : List Stmt) : Nat → Vars → St → Flo → Vars → St → Prop
  | done {n : Nat} {V : Vars} {st st₁ : St} : ST W D V t st false st₁ → WhL W D t body n V st .next V st₁
  | step {n : Nat} {V V₂ V₃ V' : Vars} {st st₁ st₂ st' : St} {fl : Flo} : ST W D V t st true st₁ → SS W D V body st₁ .next V₂ st₂ → VLe V₃ V₂ → WhL W D t body n V₃ st₂ fl V' st' → WhL W D t body (n + 1) V st fl V' st'
theorem SX_While {t : Expr} {body : List Stmt} {pos : Pos} {fl : Flo} {n : Nat} (hL : WhL W D t body n V st fl V' st') : SX W D V (.While t body [] pos) st fl V' st' := by
  intro A C env s hA hH hF
  refine wpAny_While (codeAny_mono (R := fun r s' => ∃ C'', Ext (frmW env) C s C'' s' ∧ HOK W C'' st' s' ∧ FrOK W C'' env V' s' ∧ ∃ f, r = .ok f ∧ FRep W C'' f fl) ?_ (fun r s' ⟨C'', y, hy, fy, f, er, rf⟩ => by subst er; exact ⟨C'', y, hy, fy, rf⟩))
  refine codeAny_whileLoop (fun n s' => ∃ C'' V₀ st₀, Ext (frmW env) C s C'' s' ∧ HOK W C'' st₀ s' ∧ FrOK W C'' env V₀ s' ∧ WhL W D t body n V₀ st₀ fl V' st') ?_ n ⟨C, V, st, .refl .., hH, hF, hL⟩
  rintro n s₃ ⟨C₃, V₀, st₀, x₃, h₃, f₃, L₃⟩
  cases L₃ with
  | done ht =>
    refine ht.bind hA h₃ f₃ fun C₄ s₄ x₄ h₄ f₄ => ?_
    simp only [Bool.false_eq_true, if_false]
    exact wpAny_execs_nil ⟨C₄, x₃.trans x₄.nil, h₄, f₄, .next, rfl, .next⟩
  | step ht hb hV hrest =>
    refine ht.bind hA h₃ f₃ fun C₄ s₄ x₄ h₄ f₄ => ?_
    simp only [if_true]
    refine hb.bind hA h₄ f₄ fun f C₅ s₅ x₅ h₅ f₅ r₅ => ?_
    cases r₅
    exact ⟨_, Nat.lt_succ_self _, C₅, _, _, (x₃.trans x₄.nil).trans x₅, h₅, f₅.weak hV, hrest⟩
end
end Mine

/-! part Lay9 -/
namespace Mine

def turnC (t : Expr) (ifs : List Expr) (k : Sem Fin) (ip : Pos) (it : Value) (env : Env) (c : Code) : Sem Fin := do
  standAt ip
  match ← pyNext it with
  | none => pure (.done .next)
  | some v => do
    letOwnedTupleGo t it v
    assign t env v
    let ok ← forIn ifs true fun c r => if r = true then do let ok ← isTrue c env (eval c env); pure (ForInStep.yield ok) else pure (ForInStep.yield r)
    if ok then k else again c
theorem turn_one (elt t iter : Expr) (ifs : List Expr) (scope : Scope) (pos : Pos) (it acc : Value) (env : Env) :
    compTurn (.ListComp elt [⟨t, iter, ifs, 0⟩] scope pos) 0 it acc env = turnC t ifs (do let _ ← (do let _ ← call (.builtin "list.append") [acc, ← eval elt env]); again (.compLoop (.ListComp elt [⟨t, iter, ifs, 0⟩] scope pos) 0 it acc env)) iter.pos it env (.compLoop (.ListComp elt [⟨t, iter, ifs, 0⟩] scope pos) 0 it acc env) := by rfl
theorem turn_in (elt t iter : Expr) (ifs : List Expr) (g : Comprehension) (scope : Scope) (pos : Pos) (it acc : Value) (env : Env) :
    compTurn (.ListComp elt [g, ⟨t, iter, ifs, 0⟩] scope pos) 1 it acc env = turnC t ifs (do let _ ← (do let _ ← call (.builtin "list.append") [acc, ← eval elt env]); again (.compLoop (.ListComp elt [g, ⟨t, iter, ifs, 0⟩] scope pos) 1 it acc env)) iter.pos it env (.compLoop (.ListComp elt [g, ⟨t, iter, ifs, 0⟩] scope pos) 1 it acc env) := by rfl
theorem turn_out (elt t iter t2 iter2 : Expr) (ifs ifs2 : List Expr) (scope : Scope) (pos : Pos) (it acc : Value) (env : Env) :
    compTurn (.ListComp elt [⟨t, iter, ifs, 0⟩, ⟨t2, iter2, ifs2, 0⟩] scope pos) 0 it acc env = turnC t ifs (do
      let x ← eval iter2 env
      standAt iter2.pos
      let x ← foldedSetIterable iter2 env x
      let it2 ← holding [x] (pyIter x)
      let _ ← runOwn (.compStart (.ListComp elt [⟨t, iter, ifs, 0⟩, ⟨t2, iter2, ifs2, 0⟩] scope pos) 1 it2 acc env) env
      again (.compLoop (.ListComp elt [⟨t, iter, ifs, 0⟩, ⟨t2, iter2, ifs2, 0⟩] scope pos) 0 it acc env)) iter.pos it env (.compLoop (.ListComp elt [⟨t, iter, ifs, 0⟩, ⟨t2, iter2, ifs2, 0⟩] scope pos) 0 it acc env) := by rfl
theorem loop_under {prog : Program} {w : World} {A : Around} {elt : Expr} {gens : List Comprehension} {scope : Scope} {pos : Pos} {d : Nat} {it acc : Value} {env : Env} {R : Result → Shared → Prop} {s : Shared}
   (h : wpAny (model prog w) A (compTurn (.ListComp elt gens scope pos) d it acc env) (fun fin s' => match fin with | .done f => R (.ok f) s' | .again c' => c'.quiet = true ∧ codeAny (model prog w) A c' R s') (notedBy (model prog w) A env fun e s' => R (.error e) s') s) :
   codeAny (model prog w) A (.compLoop (.ListComp elt gens scope pos) d it acc env) R s := by
  refine codeAny_of_tree ?_
  show wpAny _ A ((compTurn (.ListComp elt gens scope pos) d it acc env).onRaise (fun x => do noteFrame x env; theTreesLotGoes x)) _ _ s
  exact wpAny_noted h
theorem start_under {prog : Program} {w : World} {A : Around} {elt : Expr} {gens : List Comprehension} {scope : Scope} {pos : Pos} {d : Nat} {it acc : Value} {env : Env} {R : Result → Shared → Prop} {s : Shared} {g : Comprehension}
    (hg : gens[d]? = some g) (ha : g.is_async = 0)
    (h0 : codeAny (model prog w) A (.compLoop (.ListComp elt gens scope pos) d it acc env) R s)
    (h : wpAny (model prog w) A (pyIter it) (fun it' s' => codeAny (model prog w) A (.compLoop (.ListComp elt gens scope pos) d it' acc env) R s')
      (notedBy (model prog w) A env fun x s' => R (.error x) s') s) :
    codeAny (model prog w) A (.compStart (.ListComp elt gens scope pos) d it acc env) R s := by
  refine codeAny_of_tree ?_
  show wpAny _ A ((compStart (.ListComp elt gens scope pos) d it acc env).onRaise (fun x => do noteFrame x env; standAt theWindowsPlace)) _ _ s
  refine wpAny_notedAt ?_
  unfold compStart
  show wpAny _ _ (if (gens[d]?.elim false fun x => x.is_async != 0) = true then _ else _) _ _ s
  rw [hg]
  simp only [Option.elim_some, ha]
  show wpAny _ _ (ask >>= _) _ _ s
  refine wpAny_bind (wpAny_askSetting (wpAny_ite ?_))
  split
  · exact wpAny_pure (And.intro rfl h0)
  · refine wpAny_bind (wpAny_rule ?_)
    rw [show (clausesOf (elt.ListComp gens scope pos))[d]? = some g from hg]
    exact wpAny_bind (wpAny_standAt (wpAny_bind (wpAny_mono h (fun it' s' h' => wpAny_pure (And.intro rfl h')) fun _ _ x => x)))

/-- the ifs of a clause -/
inductive Ifs (W : Wd) (D : Nat) (V : Vars) : List Expr → St → Bool → St → Prop
  | nil {st : St} : Ifs W D V [] st true st
  | tt {e : Expr} {es : List Expr} {st st₁ st₂ : St} {b : Bool} : ST W D V e st true st₁ → Ifs W D V es st₁ b st₂ → Ifs W D V (e :: es) st b st₂
  | ff {e : Expr} {es : List Expr} {st st₁ : St} : ST W D V e st false st₁ → Ifs W D V (e :: es) st false st₁

def EOK (src : Src) (t : Expr) : Prop := (∃ q, src = .enum q) → tupTarget t = true

section
variable {W : Wd} {D : Nat} {V V₁ V₂ V₃ V' : Vars} {st st₁ st₂ st₃ st' : St} {A : Around} {C C' : Cfg} {env : Env} {s s' : Shared} {v f : Value} {pv : PV} {l : List PV} {src : Src} {I : Addr} {pr X : List Addr} {i : Nat}

theorem Ifs.run {ifs : List Expr} {b : Bool} (h : Ifs W D V ifs st b st₁) : ∀ A C env s, Room D A → HOK W C st s → FrOK W C env V s →
    wpAny (model W.prog W.w) A (forIn ifs true fun c r => if r = true then do let ok ← isTrue c env (eval c env); pure (ForInStep.yield ok) else pure (ForInStep.yield r)) (PostT W C s st₁ b) noE s := by
  induction h with
  | nil => exact fun A C env s hA hH hF => wpAny_pure ⟨C, .refl .., hH, rfl⟩
  | tt h _ ih =>
    intro A C env s hA hH hF
    rw [List.forIn_cons]
    simp only [if_true]
    refine wpAny_bind (wpAny_bind (h.bind hA hH hF fun C₁ s₁ x₁ h₁ f₁ => wpAny_pure ?_))
    exact wpAny_mono (ih A C₁ env s₁ hA h₁ f₁) (fun _ _ q => q.via x₁) fun _ _ e => e
  | ff h =>
    intro A C env s hA hH hF
    rw [List.forIn_cons]
    simp only [if_true]
    refine wpAny_bind (wpAny_bind (h.bind hA hH hF fun C₁ s₁ x₁ h₁ f₁ => wpAny_pure ?_))
    rename_i es _ _
    dsimp only
    have e : ∀ es : List Expr, (forIn es false fun c r => if r = true then do let ok ← isTrue c env (eval c env); pure (ForInStep.yield ok) else pure (ForInStep.yield r) : Sem Bool) = pure false := fun es => by
      induction es with
      | nil => rfl
      | cons e es ih => rw [List.forIn_cons]; simp only [Bool.false_eq_true, if_false]; rw [pure_bind]; exact ih
    rw [e]
    exact wpAny_pure ⟨C₁, x₁, h₁, rfl⟩

/-- the last clause of a comprehension -/
inductive CL1 (W : Wd) (D : Nat) (t : Expr) (ifs : List Expr) (elt : Expr) (src : Src) (l : List PV) : Nat → Vars → St → List PV → Vars → St → Prop
  | done {i : Nat} {V : Vars} {st : St} : l.length ≤ i → Items st src l → CL1 W D t ifs elt src l i V st [] V st
  | skip {i : Nat} {V V₁ V₂ V' : Vars} {st st₁ st₂ st' : St} {p : PV} {outs : List PV} : l[i]? = some p → Items st src l → SA W D V t p st V₁ st₁ → Ifs W D V₁ ifs st₁ false st₂ → VLe V₂ V₁ →
      CL1 W D t ifs elt src l (i + 1) V₂ st₂ outs V' st' → CL1 W D t ifs elt src l i V st outs V' st'
  | take {i : Nat} {V V₁ V₂ V' : Vars} {st st₁ st₂ st₃ st' : St} {p y : PV} {outs : List PV} : l[i]? = some p → Items st src l → SA W D V t p st V₁ st₁ → Ifs W D V₁ ifs st₁ true st₂ → SE W D V₁ elt st₂ y st₃ → VLe V₂ V₁ →
      CL1 W D t ifs elt src l (i + 1) V₂ st₃ outs V' st' → CL1 W D t ifs elt src l i V st (y :: outs) V' st'

def PostC (W : Wd) (C : Cfg) (env : Env) (s : Shared) (X : List Addr) (Dc : Addr) (outs : List PV) (V' : Vars) (st' : St) : Result → Shared → Prop := fun r s' =>
  r = .ok .next ∧ ∃ C' ys', Ext (frmW env ++ X ++ [Dc]) C s C' s' ∧ HOK W C' st' s' ∧ FrOK W C' env V' s' ∧ Priv C' env s' [Dc] ∧ s'.heap.PlainList Dc ys'.toArray ∧ RepL W.prog W.w C' ys' outs

theorem CL1.run {elt : Expr} {gens : List Comprehension} {scope : Scope} {pos ip : Pos} {d : Nat} {t : Expr} {ifs : List Expr} {outs : List PV}
    (h : CL1 W D t ifs elt src l i V st outs V' st') (ht : letGoOK t = true) (hte : EOK src t)
    (hturn : ∀ it acc env, compTurn (.ListComp elt gens scope pos) d it acc env = turnC t ifs (do let _ ← (do let _ ← call (.builtin "list.append") [acc, ← eval elt env]); again (.compLoop (.ListComp elt gens scope pos) d it acc env)) ip it env (.compLoop (.ListComp elt gens scope pos) d it acc env)) :
    ∀ A C env s Dc ys pre, Room D A → HOK W C st s → FrOK W C env V s → Priv C env s (pr ++ [Dc]) → Dc ∉ pr → ItOK W C s.heap src I pr i → s.heap.PlainList Dc ys.toArray → RepL W.prog W.w C ys pre → pre.length + outs.length ≤ 100000 →
      codeAny (model W.prog W.w) A (.compLoop (.ListComp elt gens scope pos) d (.ref I) (.ref Dc) env) (PostC W C env s pr Dc (pre ++ outs) V' st') s := by
  induction h with
  | done hle hit =>
    intro A C env s Dc ys pre hA hH hF hP hD hI hl hr hz
    refine loop_under ?_
    rw [hturn]
    refine wpAny_bind (wpAny_standAt (wpAny_bind (next_end hA hH (hP.sub fun a h => List.mem_append_left _ h) hI hit hle fun s₁ x₁ h₁ => wpAny_pure ?_)))
    have hd : ∀ a ∈ frm env, a ∉ pr := fun a ha hp => hP.fr a (List.mem_append_left _ hp) ha
    refine ⟨rfl, C, ys, x₁.wide fun a h => List.mem_append_left _ (List.mem_append_right _ h), h₁, hF.ext x₁ hd, (hP.sub fun a h => List.mem_append_right _ h).ext x₁ (by simpa using hD), ?_, by simpa using hr⟩
    exact hl.at fun o e => x₁.same e (hP.ρ _ (by simp)) hD
  | skip hp hit ha hi hV hrest ih =>
    intro A C env s Dc ys pre hA hH hF hP hD hI hl hr hz
    refine loop_under ?_
    rw [hturn]
    have hd : ∀ a ∈ frm env, a ∉ pr := fun a ha hp => hP.fr a (List.mem_append_left _ hp) ha
    refine wpAny_bind (wpAny_standAt (wpAny_bind (next_item2 (fun v s₁ q => wpAny_bind q) hH (hP.sub fun a h => List.mem_append_left _ h) hI hit hp ht hte fun v C₁ s₁ x₁ h₁ p₁ i₁ r₁ => ?_)))
    have f₁ := hF.ext x₁ hd
    have d₁ := (hP.sub (pr' := [Dc]) fun a h => List.mem_append_right _ h).ext x₁ (by simpa using hD)
    have l₁ := hl.at fun o e => x₁.same e (hP.ρ _ (by simp)) hD
    refine wpAny_bind (ha.bind hA h₁ f₁ r₁ fun C₂ s₂ x₂ h₂ f₂ => ?_)
    refine wpAny_bind (wpAny_mono (hi.run A C₂ env s₂ hA h₂ f₂) (fun b s₃ ⟨C₃, x₃, h₃, e₃⟩ => ?_) noE_imp)
    subst e₃
    have x23 := x₂.trans x₃.nil
    have nw : ∀ a ∈ pr ++ [Dc], a ∉ frmW env := fun a ha h => hP.fr a ha (frmW_sub h)
    have p₃ := p₁.ext x23 fun a h => nw a (List.mem_append_left _ h)
    have d₃ := d₁.ext x23 fun a h => nw a (List.mem_append_right _ h)
    have l₃ := l₁.at fun o e => (Priv.keep d₁ x23 fun a h => nw a (List.mem_append_right _ h)) _ (by simp) o e
    have i₃ := i₁.mono x23.le (Priv.keep p₁ x23 fun a h => nw a (List.mem_append_left _ h))
    simp only [Bool.false_eq_true, if_false]
    refine wpAny_pure ⟨rfl, ?_⟩
    refine codeAny_mono (ih A C₃ env s₃ Dc ys pre hA h₃ ((f₂.ext x₃ (by simp)).weak hV) ⟨fun a h => (List.mem_append.mp h).elim (p₃.g a) (d₃.g a), fun a h => (List.mem_append.mp h).elim (p₃.ρ a) (d₃.ρ a), fun a h => (List.mem_append.mp h).elim (p₃.fr a) (d₃.fr a), fun a h => (List.mem_append.mp h).elim (p₃.ex a) (d₃.ex a)⟩ hD i₃ l₃ (hr.mono (x₁.le.trans x23.le)) hz) (fun r s' ⟨e, C', ys', x', q⟩ => ⟨e, C', ys', ?_, q⟩)
    exact ((x₁.wide fun a h => List.mem_append_left _ (List.mem_append_right _ h)).trans (x23.wide fun a h => List.mem_append_left _ (List.mem_append_left _ h))).trans x'
  | take hp hit ha hi hy hV hrest ih =>
    rename_i i₀ V₀ Va Vb Vc sa sb sc sd se p y outs
    intro A C env s Dc ys pre hA hH hF hP hD hI hl hr hz
    refine loop_under ?_
    rw [hturn]
    have hd : ∀ a ∈ frm env, a ∉ pr := fun a ha hp => hP.fr a (List.mem_append_left _ hp) ha
    refine wpAny_bind (wpAny_standAt (wpAny_bind (next_item2 (fun v s₁ q => wpAny_bind q) hH (hP.sub fun a h => List.mem_append_left _ h) hI hit hp ht hte fun v C₁ s₁ x₁ h₁ p₁ i₁ r₁ => ?_)))
    have f₁ := hF.ext x₁ hd
    have d₁ := (hP.sub (pr' := [Dc]) fun a h => List.mem_append_right _ h).ext x₁ (by simpa using hD)
    have l₁ := hl.at fun o e => x₁.same e (hP.ρ _ (by simp)) hD
    refine wpAny_bind (ha.bind hA h₁ f₁ r₁ fun C₂ s₂ x₂ h₂ f₂ => ?_)
    refine wpAny_bind (wpAny_mono (hi.run A C₂ env s₂ hA h₂ f₂) (fun b s₃ ⟨C₃, x₃, h₃, e₃⟩ => ?_) noE_imp)
    subst e₃
    simp only [if_true]
    have f₃ := f₂.ext x₃ (by simp)
    refine wpAny_bind (wpAny_bind (hy.bind hA h₃ f₃ fun u C₄ s₄ x₄ h₄ f₄ r₄ => ?_))
    have x24 := (x₂.trans x₃.nil).trans x₄.nil
    have nw : ∀ a ∈ pr ++ [Dc], a ∉ frmW env := fun a ha h => hP.fr a ha (frmW_sub h)
    have p₄ := p₁.ext x24 fun a h => nw a (List.mem_append_left _ h)
    have d₄ := d₁.ext x24 fun a h => nw a (List.mem_append_right _ h)
    have l₄ := l₁.at fun o e => (Priv.keep d₁ x24 fun a h => nw a (List.mem_append_right _ h)) _ (by simp) o e
    have i₄ := i₁.mono x24.le (Priv.keep p₁ x24 fun a h => nw a (List.mem_append_left _ h))
    have hr₄ := hr.mono (x₁.le.trans x24.le)
    have hys : ys.toArray.size ≤ sizeLine := by
      have := hr₄.length
      simp at hz
      exact sl_of (by simp; omega)
    refine wpAny_bind (wpAny_list_append_plain (hsz := hys) l₄ fun h₅ hl₅ hs₅ => wpAny_pure (wpAny_pure ⟨rfl, ?_⟩))
    have hs₅' : Heap.SameBut Dc s₄.heap h₅ := hs₅
    have x₅ : Ext [Dc] C₄ s₄ C₄ { s₄ with heap := h₅ } := Ext.frame (tk := s₄.toks) C₄ hs₅' (by simp)
    have H₅ : HOK W C₄ sd { s₄ with heap := h₅ } := h₄.frame (tk := s₄.toks) hs₅' (d₄.g _ (by simp)) (d₄.ρ _ (by simp))
    have f₅ : FrOK W C₄ env Va { s₄ with heap := h₅ } := f₄.ext x₅ fun a h he => by simp at he; subst he; exact d₄.fr _ (by simp) h
    have p₅ : Priv C₄ env { s₄ with heap := h₅ } pr := p₄.ext x₅ fun a h he => by simp at he; subst he; exact hD h
    have i₅ : ItOK W C₄ h₅ src I pr (i₀ + 1) := i₄.mono (.refl C₄) fun a h o e => x₅.same e (p₄.ρ a h) fun he => by simp at he; subst he; exact hD h
    have l₅ : h₅.PlainList Dc (ys ++ [u]).toArray := by simpa using hl₅
    have d₅ : Priv C₄ env { s₄ with heap := h₅ } [Dc] := ⟨d₄.g, d₄.ρ, d₄.fr, fun a h => by simp at h; subst h; obtain ⟨n, e⟩ := l₅; exact ⟨_, e⟩⟩
    refine codeAny_mono (ih A C₄ env { s₄ with heap := h₅ } Dc (ys ++ [u]) (pre ++ [y]) hA H₅ (f₅.weak hV) ⟨fun a h => (List.mem_append.mp h).elim (p₅.g a) (d₅.g a), fun a h => (List.mem_append.mp h).elim (p₅.ρ a) (d₅.ρ a), fun a h => (List.mem_append.mp h).elim (p₅.fr a) (d₅.fr a), fun a h => (List.mem_append.mp h).elim (p₅.ex a) (d₅.ex a)⟩ hD i₅ l₅ (hr₄.append (.one r₄)) (by simp at hz ⊢; omega)) (fun r s' ⟨e, C', ys', x', q⟩ => ⟨e, C', ys', ?_, by simpa using q⟩)
    exact (((x₁.wide fun a h => List.mem_append_left _ (List.mem_append_right _ h)).trans (x24.wide fun a h => List.mem_append_left _ (List.mem_append_left _ h))).trans (x₅.wide fun a h => List.mem_append_right _ h)).trans x'
end
end Mine

/-! part Lay10 -/
namespace Mine

section
variable {W : Wd} {D : Nat} {V V₁ V₂ V₃ V' : Vars} {st st₁ st₂ st₃ st' : St} {A : Around} {C C' : Cfg} {env : Env} {s s' : Shared} {v f : Value} {pv : PV} {l : List PV} {src : Src} {I : Addr} {pr X : List Addr} {i : Nat}

theorem it_self {E : Value → Shared → Prop} {Q : Value → Shared → Prop} (hI : ItOK W C s.heap src I pr i) (h : Q (.ref I) s) : wpAny (model W.prog W.w) A (pyIter (.ref I)) Q E s := by
  cases hI with
  | lst r t => exact wpAny_pyIter_listiter t h
  | tup r t => exact wpAny_pyIter_tupleiter t h
  | range t => exact wpAny_pyIter_rangeiter t h
  | enum r e t n => exact wpAny_pyIter_enum e h

theorem Priv.app {pr pr' : List Addr} (p : Priv C env s pr) (q : Priv C env s pr') : Priv C env s (pr ++ pr') :=
  ⟨fun a h => (List.mem_append.mp h).elim (p.g a) (q.g a), fun a h => (List.mem_append.mp h).elim (p.ρ a) (q.ρ a), fun a h => (List.mem_append.mp h).elim (p.fr a) (q.fr a), fun a h => (List.mem_append.mp h).elim (p.ex a) (q.ex a)⟩

/-- the first of two clauses -/
inductive CL2 (W : Wd) (D : Nat) (t : Expr) (ifs : List Expr) (iter2 t2 : Expr) (ifs2 : List Expr) (elt : Expr) (src : Src) (l : List PV) : Nat → Vars → St → List PV → Vars → St → Prop
  | done {i : Nat} {V : Vars} {st : St} : l.length ≤ i → Items st src l → CL2 W D t ifs iter2 t2 ifs2 elt src l i V st [] V st
  | deep {i : Nat} {V V₁ V₂ V₃ V' : Vars} {st st₁ st₂ st₃ st₄ st' : St} {p : PV} {src2 : Src} {l2 outs₁ outs₂ : List PV} : l[i]? = some p → Items st src l → SA W D V t p st V₁ st₁ → Ifs W D V₁ ifs st₁ true st₂ →
      SI W D V₁ iter2 st₂ src2 st₃ → EOK src2 t2 → CL1 W D t2 ifs2 elt src2 l2 0 V₁ st₃ outs₁ V₂ st₄ → VLe V₃ V₂ →
      CL2 W D t ifs iter2 t2 ifs2 elt src l (i + 1) V₃ st₄ outs₂ V' st' → CL2 W D t ifs iter2 t2 ifs2 elt src l i V st (outs₁ ++ outs₂) V' st'

theorem CL2.run {elt : Expr} {scope : Scope} {pos : Pos} {t iter t2 iter2 : Expr} {ifs ifs2 : List Expr} {outs : List PV}
    (h : CL2 W D t ifs iter2 t2 ifs2 elt src l i V st outs V' st') (ht : letGoOK t = true) (hte : EOK src t) (ht2 : letGoOK t2 = true) (hs : ∀ env x, foldedSetIterable iter2 env x = pure x) :
    ∀ A C env s Dc ys pre, Room D A → HOK W C st s → FrOK W C env V s → Priv C env s (pr ++ [Dc]) → Dc ∉ pr → ItOK W C s.heap src I pr i → s.heap.PlainList Dc ys.toArray → RepL W.prog W.w C ys pre → pre.length + outs.length ≤ 100000 →
      codeAny (model W.prog W.w) A (.compLoop (.ListComp elt [⟨t, iter, ifs, 0⟩, ⟨t2, iter2, ifs2, 0⟩] scope pos) 0 (.ref I) (.ref Dc) env) (PostC W C env s pr Dc (pre ++ outs) V' st') s := by
  induction h with
  | done hle hit =>
    intro A C env s Dc ys pre hA hH hF hP hD hI hl hr hz
    refine loop_under ?_
    rw [turn_out]
    refine wpAny_bind (wpAny_standAt (wpAny_bind (next_end hA hH (hP.sub fun a h => List.mem_append_left _ h) hI hit hle fun s₁ x₁ h₁ => wpAny_pure ?_)))
    have hd : ∀ a ∈ frm env, a ∉ pr := fun a ha hp => hP.fr a (List.mem_append_left _ hp) ha
    refine ⟨rfl, C, ys, x₁.wide fun a h => List.mem_append_left _ (List.mem_append_right _ h), h₁, hF.ext x₁ hd, (hP.sub fun a h => List.mem_append_right _ h).ext x₁ (by simpa using hD), ?_, by simpa using hr⟩
    exact hl.at fun o e => x₁.same e (hP.ρ _ (by simp)) hD
  | deep hp hit ha hi h2 he hc hV hrest ih =>
    rename_i i₀ V₀ Va Vb Vc Vd sa sb sc sd se sf p src2 l2 outs₁ outs₂
    intro A C env s Dc ys pre hA hH hF hP hD hI hl hr hz
    refine loop_under ?_
    rw [turn_out]
    have hd : ∀ a ∈ frm env, a ∉ pr := fun a ha hp => hP.fr a (List.mem_append_left _ hp) ha
    refine wpAny_bind (wpAny_standAt (wpAny_bind (next_item2 (fun v s₁ q => wpAny_bind q) hH (hP.sub fun a h => List.mem_append_left _ h) hI hit hp ht hte fun v C₁ s₁ x₁ h₁ p₁ i₁ r₁ => ?_)))
    have f₁ := hF.ext x₁ hd
    have d₁ := (hP.sub (pr' := [Dc]) fun a h => List.mem_append_right _ h).ext x₁ (by simpa using hD)
    have l₁ := hl.at fun o e => x₁.same e (hP.ρ _ (by simp)) hD
    refine wpAny_bind (ha.bind hA h₁ f₁ r₁ fun C₂ s₂ x₂ h₂ f₂ => ?_)
    refine wpAny_bind (wpAny_mono (hi.run A C₂ env s₂ hA h₂ f₂) (fun b s₃ ⟨C₃, x₃, h₃, e₃⟩ => ?_) noE_imp)
    subst e₃
    simp only [if_true]
    have f₃ := f₂.ext x₃ (by simp)
    refine wpAny_bind (wpAny_mono (h2 A C₃ env s₃ hA h₃ f₃) (fun x s₄ hx => wpAny_bind (wpAny_standAt ?_)) noE_imp)
    rw [hs env x]
    refine wpAny_bind (wpAny_pure (wpAny_bind (wpAny_holding (wpAny_mono hx (fun it2 s₅ ⟨C₅, I₂, pr₂, eI, x₅, h₅, p₅, i₅, fr₅⟩ => ?_) noE_imp))))
    subst eI
    have x25 := (x₂.trans x₃.nil).trans x₅.nil
    have nw : ∀ a ∈ pr ++ [Dc], a ∉ frmW env := fun a ha h => hP.fr a ha (frmW_sub h)
    have q₅ := p₁.ext x25 fun a h => nw a (List.mem_append_left _ h)
    have d₅ := d₁.ext x25 fun a h => nw a (List.mem_append_right _ h)
    have l₅ := l₁.at fun o e => (Priv.keep d₁ x25 fun a h => nw a (List.mem_append_right _ h)) _ (by simp) o e
    have j₅ := i₁.mono x25.le (Priv.keep p₁ x25 fun a h => nw a (List.mem_append_left _ h))
    have f₅ := f₃.ext x₅ (by simp)
    have x23 := x₂.trans x₃.nil
    have live : ∀ a ∈ pr ++ [Dc], a ∉ pr₂ := fun a ha h => by
      have e := fr₅ a h
      have pa : Priv C₃ env s₃ (pr ++ [Dc]) := (p₁.app d₁).ext x23 nw
      obtain ⟨o, e'⟩ := pa.ex a ha
      rw [e] at e'; cases e'
    have hz1 : pre.length + outs₁.length ≤ 100000 := by simp at hz; omega
    have inner := CL1.run (pr := pr₂) (scope := scope) (pos := pos) (d := 1) (gens := [⟨t, iter, ifs, 0⟩, ⟨t2, iter2, ifs2, 0⟩]) hc ht2 he (fun it acc env => turn_in elt t2 iter2 ifs2 ⟨t, iter, ifs, 0⟩ scope pos it acc env) A C₅ env s₅ Dc ys pre hA h₅ f₅ (p₅.app d₅) (fun h => live Dc (by simp) h) i₅ l₅ (hr.mono (x₁.le.trans x25.le)) hz1
    refine wpAny_bind (wpAny_runOwn (codeAny_mono (start_under (g := ⟨t2, iter2, ifs2, 0⟩) rfl rfl inner (it_self i₅ inner)) (fun r s₆ ⟨er, C₆, ys₆, x₆, h₆, f₆, d₆, l₆, r₆⟩ => ?_)))
    subst er
    have ap : ∀ a ∈ pr, a ∉ frmW env ++ pr₂ ++ [Dc] := fun a ha h => by
      rcases List.mem_append.mp h with h | h
      · rcases List.mem_append.mp h with h | h
        · exact nw a (List.mem_append_left _ ha) h
        · exact live a (List.mem_append_left _ ha) h
      · simp at h; subst h; exact hD ha
    have q₆ := q₅.ext x₆ ap
    have j₆ := j₅.mono x₆.le (Priv.keep q₅ x₆ ap)
    refine wpAny_pure ⟨rfl, ?_⟩
    refine codeAny_mono (ih A C₆ env s₆ Dc ys₆ (pre ++ outs₁) hA h₆ (f₆.weak hV) (q₆.app d₆) hD j₆ l₆ r₆ (by simp at hz ⊢; omega)) (fun r s' ⟨e, C', ys', x', q⟩ => ⟨e, C', ys', ?_, by simpa using q⟩)
    have x56 : Ext (frmW env ++ pr ++ [Dc]) C₃ s₃ C₆ s₆ := ((x₅.nil (X := frmW env ++ pr₂ ++ [Dc])).trans x₆).hide fun a h1 h2 => by
      rcases List.mem_append.mp h1 with h | h
      · rcases List.mem_append.mp h with h | h
        · exact absurd (List.mem_append_left _ (List.mem_append_left _ h)) h2
        · exact fr₅ a h
      · exact absurd (List.mem_append_right _ h) h2
    exact (((x₁.wide fun a h => List.mem_append_left _ (List.mem_append_right _ h)).trans (x23.wide fun a h => List.mem_append_left _ (List.mem_append_left _ h))).trans x56).trans x'
end

/-! the comprehension as a whole -/
def relabelS (scope outer : Scope) : Scope :=
  { scope with names := scope.names.map fun (n, k) => if (k == .free && outer.kind == .function && outer.names.lookup n == some .cell) then (n, .cell) else (n, k) }
def innerV (scope : Scope) (V : Vars) : Vars := ⟨false, relabelS scope V.scope, V.vars.filter fun q => scope.names.lookup q.1 == some .free⟩
structure CompOK (scope outer : Scope) : Prop where
  kind : scope.kind = .function
  nocell : ∀ y ∈ scope.names, y.2 ≠ .cell
  nodup : (scope.names.map (·.1)).Nodup
  free : ∀ y ∈ scope.names, y.2 = .free → outer.names.lookup y.1 = some .cell ∨ outer.names.lookup y.1 = some .free

theorem lookup_of_mem {α : Type} {l : List (Str × α)} (hn : (l.map (·.1)).Nodup) {x : Str} {k : α} (h : (x, k) ∈ l) : l.lookup x = some k := by
  induction l with
  | nil => cases h
  | cons y r ih =>
    obtain ⟨z, j⟩ := y
    rw [List.map_cons, List.nodup_cons] at hn
    rw [List.lookup_cons]
    rcases List.mem_cons.mp h with e | h2
    · cases e; simp
    · have : x ≠ z := by rintro rfl; exact hn.1 (List.mem_map_of_mem (f := (·.1)) h2)
      rw [beq_false_of_ne this]; exact ih hn.2 h2

theorem lookup_relabelS (outer : Scope) : ∀ (l : List (Str × NameKind)) (x : Str), (l.map fun (n, k) => if (k == NameKind.free && outer.kind == .function && outer.names.lookup n == some .cell) then (n, NameKind.cell) else (n, k)).lookup x =
    (l.lookup x).map fun k => if (k == NameKind.free && outer.kind == .function && outer.names.lookup x == some .cell) then NameKind.cell else k
  | [], x => rfl
  | (n, k) :: r, x => by
    rw [List.map_cons]
    have ih := lookup_relabelS outer r x
    by_cases e : x = n
    · subst e
      dsimp only
      by_cases c : (k == NameKind.free && outer.kind == .function && outer.names.lookup x == some .cell) = true
      · rw [if_pos c]; simp only [List.lookup_cons, beq_self_eq_true, Option.map_some]; rw [if_pos c]
      · rw [if_neg c]; simp only [List.lookup_cons, beq_self_eq_true, Option.map_some]; rw [if_neg c]
    · have e' := beq_false_of_ne e
      dsimp only
      split <;> (rw [List.lookup_cons, e', List.lookup_cons, e']; exact ih)

def clos (scope : Scope) (env : Env) : List (Str × Addr) := (scope.names.filterMap fun y => if y.2 == .free then (env.cells.lookup y.1).map (y.1, ·) else none).reverse
theorem closureFor_eq {scope : Scope} {env : Env} (h : ∀ y ∈ scope.names, y.2 = .free → ∃ c, env.cells.lookup y.1 = some c) : closureFor scope env = pure (clos scope env) := by
  unfold closureFor clos
  have key : ∀ (l : List (Str × NameKind)) (acc : List (Str × Addr)), (∀ y ∈ l, y.2 = .free → ∃ c, env.cells.lookup y.1 = some c) →
      (forIn l acc fun y cs => (if (y.2 == NameKind.free) = true then do let a ← cellOf env y.1; pure (ForInStep.yield ((y.1, a) :: cs)) else pure (ForInStep.yield cs) : Sem (ForInStep (List (Str × Addr))))) =
        pure ((l.filterMap fun y => if y.2 == .free then (env.cells.lookup y.1).map (y.1, ·) else none).reverse ++ acc) := by
    intro l
    induction l with
    | nil => intro acc _; rfl
    | cons y r ih =>
      intro acc hy
      rw [List.forIn_cons]
      by_cases e : y.2 = .free
      · obtain ⟨c, hc⟩ := hy y (by simp) e
        have e1 : cellOf env y.1 = pure c := by unfold cellOf; rw [hc]
        have e2 : (if y.2 == .free then (env.cells.lookup y.1).map (y.1, ·) else none) = some (y.1, c) := by rw [if_pos (by simp [e]), hc]; rfl
        rw [if_pos (by simp [e]), e1, List.filterMap_cons, e2]
        simp only [pure_bind]
        rw [ih _ fun z hz => hy z (List.mem_cons_of_mem _ hz)]
        simp
      · have e1 : ¬ ((y.2 == NameKind.free) = true) := by simpa using e
        have e2 : (if y.2 == .free then (env.cells.lookup y.1).map (y.1, ·) else none) = none := if_neg e1
        rw [if_neg e1, List.filterMap_cons, e2]
        simp only [pure_bind]
        exact ih _ fun z hz => hy z (List.mem_cons_of_mem _ hz)
  have := key scope.names [] h
  simp only [List.append_nil] at this
  show ((forIn scope.names ([] : List (Str × Addr)) fun y cs => (if (y.2 == NameKind.free) = true then do let a ← cellOf env y.1; pure (ForInStep.yield ((y.1, a) :: cs)) else pure (ForInStep.yield cs) : Sem (ForInStep (List (Str × Addr))))) >>= fun cs => pure cs) = _
  rw [this, pure_bind]
theorem clos_mem {scope : Scope} {env : Env} {x : Str} {c : Addr} (h : (x, c) ∈ clos scope env) : env.cells.lookup x = some c ∧ (x, NameKind.free) ∈ scope.names := by
  unfold clos at h
  rw [List.mem_reverse, List.mem_filterMap] at h
  obtain ⟨y, hy, e⟩ := h
  split at e
  · rename_i q
    obtain ⟨c', hc, e2⟩ := Option.map_eq_some_iff.mp e
    cases e2
    exact ⟨hc, by have : y.2 = .free := by simpa using q
                  rw [← this]; exact hy⟩
  · cases e
theorem clos_lookup {scope : Scope} {env : Env} {x : Str} {c : Addr} (hx : (x, NameKind.free) ∈ scope.names) (hc : env.cells.lookup x = some c) : (clos scope env).lookup x = some c := by
  have hm : (x, c) ∈ clos scope env := by
    unfold clos
    rw [List.mem_reverse, List.mem_filterMap]
    exact ⟨_, hx, by simp [hc]⟩
  cases e : (clos scope env).lookup x with
  | none =>
    have := List.lookup_eq_none_iff.mp e _ hm
    simp at this
  | some c' =>
    have := (clos_mem (lookup_mem e)).1
    rw [hc] at this; cases this; rfl
theorem clos_nodup {scope : Scope} {env : Env} (hn : (scope.names.map (·.1)).Nodup) (hc : (env.cells.map (·.2)).Nodup) : ((clos scope env).map (·.2)).Nodup := by
  unfold clos
  rw [List.map_reverse]
  unfold List.Nodup
  rw [List.pairwise_reverse]
  refine List.Pairwise.imp (fun h => Ne.symm h) ?_
  change List.Nodup _
  generalize scope.names = l at hn
  induction l with
  | nil => simp
  | cons y r ih =>
    rw [List.map_cons, List.nodup_cons] at hn
    rw [List.filterMap_cons]
    split
    · exact ih hn.2
    · rename_i q hq
      rw [List.map_cons, List.nodup_cons]
      refine ⟨fun hm => ?_, ih hn.2⟩
      obtain ⟨⟨z, c⟩, hz, e⟩ := List.mem_map.mp hm
      rw [List.mem_filterMap] at hz
      obtain ⟨w, hw, ew⟩ := hz
      split at hq
      · obtain ⟨c1, hc1, e1⟩ := Option.map_eq_some_iff.mp hq
        split at ew
        · obtain ⟨c2, hc2, e2⟩ := Option.map_eq_some_iff.mp ew
          cases e1; cases e2
          simp only at e
          subst e
          have := cells_inj hc hc1 hc2
          exact hn.1 (this ▸ List.mem_map_of_mem (f := (·.1)) hw)
        · cases ew
      · cases hq
end Mine

/-! part Lay11 -/
namespace Mine

def LoopOK (W : Wd) (D : Nat) (elt : Expr) (gens : List Comprehension) (scope : Scope) (pos : Pos) (src : Src) (V : Vars) (st : St) (outs : List PV) (V' : Vars) (st' : St) : Prop :=
  ∀ A C env s I pr Dc, Room D A → HOK W C st s → FrOK W C env V s → Priv C env s (pr ++ [Dc]) → Dc ∉ pr → ItOK W C s.heap src I pr 0 → s.heap.PlainList Dc #[] →
    codeAny (model W.prog W.w) A (.compLoop (.ListComp elt gens scope pos) 0 (.ref I) (.ref Dc) env) (PostC W C env s pr Dc outs V' st') s

section
variable {W : Wd} {D : Nat} {V V₁ V₂ V₃ V' : Vars} {st st₁ st₂ st₃ st' : St} {A : Around} {C C' : Cfg} {env : Env} {s s' : Shared} {v f : Value} {pv : PV} {l : List PV} {src : Src} {I : Addr} {pr X : List Addr} {i : Nat}

theorem CL1.loop {elt t iter : Expr} {ifs : List Expr} {scope : Scope} {pos : Pos} {outs : List PV} (h : CL1 W D t ifs elt src l 0 V st outs V' st') (hz : outs.length ≤ 100000) (ht : letGoOK t = true := by rfl)
    (hte : EOK src t := by first | (rintro ⟨q, h⟩; cases h; done) | (intro _; rfl)) : LoopOK W D elt [⟨t, iter, ifs, 0⟩] scope pos src V st outs V' st' :=
  fun A C env s I pr Dc hA hH hF hP hD hI hl => by
    have := h.run (pr := pr) (I := I) (scope := scope) (pos := pos) (d := 0) (gens := [⟨t, iter, ifs, 0⟩]) ht hte (fun it acc env => turn_one elt t iter ifs scope pos it acc env) A C env s Dc [] [] hA hH hF hP hD hI hl .nil (by simpa using hz)
    simpa using this
theorem CL2.loop {elt t iter t2 iter2 : Expr} {ifs ifs2 : List Expr} {scope : Scope} {pos : Pos} {outs : List PV} (h : CL2 W D t ifs iter2 t2 ifs2 elt src l 0 V st outs V' st') (hz : outs.length ≤ 100000) (ht : letGoOK t = true := by rfl) (ht2 : letGoOK t2 = true := by rfl)
    (hte : EOK src t := by first | (rintro ⟨q, h⟩; cases h; done) | (intro _; rfl)) (hs : ∀ env x, foldedSetIterable iter2 env x = pure x := by intro _ _; rfl) :
    LoopOK W D elt [⟨t, iter, ifs, 0⟩, ⟨t2, iter2, ifs2, 0⟩] scope pos src V st outs V' st' :=
  fun A C env s I pr Dc hA hH hF hP hD hI hl => by
    have := h.run (pr := pr) (I := I) (iter := iter) (scope := scope) (pos := pos) ht hte ht2 hs A C env s Dc [] [] hA hH hF hP hD hI hl .nil (by simpa using hz)
    simpa using this

theorem relabel_eq {scope : Scope} {env : Env} (h : env.scope = V.scope) : relabel scope env = relabelS scope V.scope := by
  unfold relabel relabelS Env.kindOf
  rw [h]

theorem filter_lookup {vars : List (Str × PV)} {q : Str → Bool} {x : Str} {p : PV} (h : (vars.filter fun e => q e.1).lookup x = some p) : vars.lookup x = some p ∧ q x = true := by
  induction vars with
  | nil => simp at h
  | cons e r ih =>
    obtain ⟨y, u⟩ := e
    rw [List.filter_cons] at h
    rw [List.lookup_cons]
    by_cases hx : x = y
    · subst hx
      simp only [beq_self_eq_true]
      split at h
      · rename_i hq; rw [List.lookup_cons] at h; simp at h; exact ⟨by simp [h], hq⟩
      · rename_i hq; exact absurd (ih h).2 hq
    · rw [beq_false_of_ne hx]
      split at h
      · rw [List.lookup_cons, beq_false_of_ne hx] at h; exact ih h
      · exact ih h

theorem inner_frame {scope : Scope} {Cf : Addr} {cenv : Env} (hF : FrOK W C env V s) (ok : CompOK scope V.scope) (hn : s.heap.Ns Cf fun _ => none) (hg : C.g Cf = none) (hρ : Cf ∉ C.ρ) (hf : Cf ∉ frm env)
    (e1 : cenv.scope = relabelS scope V.scope) (e2 : cenv.locals = Cf) (e3 : cenv.cells = clos scope env) (e4 : cenv.globals = env.globals) (e5 : cenv.builtins = env.builtins) (e6 : cenv.func = none) :
    FrOK W C cenv (innerV scope V) s := by
  have hcells : ∀ y ∈ scope.names, y.2 = .free → ∃ c, env.cells.lookup y.1 = some c := fun y hy hk => by
    obtain ⟨c, v, hc, _⟩ := hF.cells y.1 (ok.free y hy hk)
    exact ⟨c, hc⟩
  have lk : ∀ x, (relabelS scope V.scope).names.lookup x = (scope.names.lookup x).map fun k => if (k == NameKind.free && V.scope.kind == .function && V.scope.names.lookup x == some .cell) then NameKind.cell else k := fun x => lookup_relabelS V.scope scope.names x
  have isFree : ∀ x, (relabelS scope V.scope).names.lookup x = some .cell ∨ (relabelS scope V.scope).names.lookup x = some .free → scope.names.lookup x = some .free := fun x hx => by
    rw [lk] at hx
    cases hk : scope.names.lookup x with
    | none => rw [hk] at hx; simp at hx
    | some k =>
      rw [hk] at hx
      have hm := lookup_mem hk
      have hnc := ok.nocell _ hm
      simp only [Option.map_some, Option.some.injEq] at hx
      split at hx
      · rename_i q
        simp only [Bool.and_eq_true] at q
        rw [show k = .free by simpa using q.1.1]
      · rcases hx with h | h
        · exact absurd h hnc
        · rw [h]
  have hfrm : ∀ a ∈ frm cenv, a = Cf ∨ a ∈ frm env := fun a ha => by
    unfold frm at ha
    rw [e2, e3] at ha
    rcases List.mem_cons.mp ha with h | h
    · exact .inl h
    · obtain ⟨⟨x, c⟩, hm, rfl⟩ := List.mem_map.mp h
      exact .inr (frm_cell (clos_mem hm).1)
  refine ⟨e1, e4.trans hF.glob, e5.trans hF.bi, ok.kind, by rw [e6]; rfl, ⟨_, e2 ▸ hn, fun x p hk hv => ?_⟩, fun x hx => ?_, fun a ha => ?_, fun a ha => ?_, ?_⟩
  · exfalso
    have hv' := (filter_lookup (q := fun x => scope.names.lookup x == some .free) hv).2
    have hk2 : scope.names.lookup x = some .free := by simpa using hv'
    change (relabelS scope V.scope).names.lookup x = _ at hk
    rw [lk, hk2] at hk
    simp only [Option.map_some, Option.some.injEq] at hk
    split at hk <;> cases hk
  · have hfree := isFree x hx
    obtain ⟨c, v, hc, hi, hv⟩ := hF.cells x (ok.free _ (lookup_mem hfree) rfl)
    exact ⟨c, v, by rw [e3]; exact clos_lookup (lookup_mem hfree) hc, hi, fun p hp => hv p (filter_lookup (q := fun x => scope.names.lookup x == some .free) hp).1⟩
  · rcases hfrm a ha with rfl | h
    · exact ⟨hg, hρ⟩
    · exact hF.apart a h
  · rcases hfrm a ha with rfl | h
    · obtain ⟨o, _, _, ho, _⟩ := hn; exact ⟨o, ho⟩
    · exact hF.ex a h
  · unfold frm
    rw [e2, e3, List.nodup_cons]
    refine ⟨fun hm => hf ?_, clos_nodup ok.nodup (List.nodup_cons.mp hF.inj).2⟩
    obtain ⟨⟨x, c⟩, hm', rfl⟩ := List.mem_map.mp hm
    exact frm_cell (clos_mem hm').1

/-- the run of a comprehension up to its list -/
theorem comp_core {elt t iter : Expr} {ifs : List Expr} {rest : List Comprehension} {scope : Scope} {pos : Pos} {outs : List PV} {use : Option (Value → Sem Unit)} {Q : Value → Shared → Prop} {E : Value → Shared → Prop}
    (hi : SI W D V iter st src st₁) (hL : LoopOK W D elt (⟨t, iter, ifs, 0⟩ :: rest) scope pos src (innerV scope V) st₁ outs V' st') (ok : CompOK scope V.scope) (hz : outs.length ≤ 100000)
    (hs : ∀ env x, foldedSetIterable iter env x = pure x) (hA : Room D A) (hH : HOK W C st s) (hF : FrOK W C env V s)
    (k : ∀ C₃ s₃ Dc Cf m, Ext [] C s C₃ s₃ → HOK W C₃ st' s₃ → FrOK W C₃ env V s₃ → Rep W.prog W.w C₃ (.ref Dc) (.lst outs) → Priv C₃ env s₃ [Cf] → s₃.heap.Ns Cf m → s.heap.get? Cf = none → compPost (model W.prog W.w) A E use Q (.ref Dc) Cf (.ok .next) s₃) :
    wpAny (model W.prog W.w) A (comprehension (.ListComp elt (⟨t, iter, ifs, 0⟩ :: rest) scope pos) scope env iter.pos (newList []) false (eval iter env) use) Q E s := by
  have hcells : ∀ y ∈ scope.names, y.2 = .free → ∃ c, env.cells.lookup y.1 = some c := fun y hy hk => by
    obtain ⟨c, v, hc, _⟩ := hF.cells y.1 (ok.free y hy hk)
    exact ⟨c, hc⟩
  refine wpAny_comprehension_free (cl := clos scope env) rfl (hs env) (closureFor_eq hcells) ok.kind (fun x hx hl => lookup_of_mem ok.nodup (by rw [← hl]; exact hx)) ?_
  refine wpAny_mono (hi A C env s hA hH hF) (fun x s₁ hx => wpAny_mono hx (fun it s₂ ⟨C₂, I, pr, eI, x₂, h₂, p₂, i₂, fr⟩ => ?_) noE_imp) noE_imp
  subst eI
  have f₂ := hF.ext x₂ (by simp)
  refine wpAny_newObj_type (hd := by size_fits) (wpAny_newFunctionEnv ok.nocell (by intro y hy; simp at hy) (fun h₁ hns₁ hsb₁ => ?_) ok.kind)
  dsimp only at hns₁ hsb₁ ⊢
  generalize hH2 : s₂.heap.push { cls := .type "list", dict := none, data := .seq ([] : List Value).toArray } = H2 at hns₁ hsb₁ ⊢
  have hC : H2.objs.size = s₂.heap.objs.size + 1 := by rw [← hH2, Heap.size_push]
  have hDC : s₂.heap.objs.size ≠ H2.objs.size := by rw [hC]; exact Nat.ne_of_lt (Nat.lt_succ_self _)
  have below : ∀ b, b < s₂.heap.objs.size → b ≠ H2.objs.size ∧ b ≠ s₂.heap.objs.size := fun b hb => ⟨by rw [hC]; exact Nat.ne_of_lt (Nat.lt_succ_of_lt hb), Nat.ne_of_lt hb⟩
  have old : ∀ b o, s₂.heap.get? b = some o → h₁.get? b = some o := fun b o e => hsb₁.extBut b o (below b (Heap.lt_size e)).1 (Heap.get?_push_of_some _ (hH2 ▸ Heap.get?_push_of_some _ e))
  have hacc : h₁.PlainList s₂.heap.objs.size #[] := ⟨_, hsb₁.extBut _ _ hDC (Heap.get?_push_of_some _ (hH2 ▸ Heap.get?_push_size _ rfl))⟩
  have nC : s₂.heap.get? H2.objs.size = none := by
    cases e : s₂.heap.get? H2.objs.size with
    | none => rfl
    | some o => exact absurd (Heap.lt_size e) (Nat.not_lt.mpr (by rw [hC]; exact Nat.le_succ _))
  have nD : s₂.heap.get? s₂.heap.objs.size = none := get_size _
  generalize hcf : H2.objs.size = Cf at *
  generalize hdc : s₂.heap.objs.size = Dc at *
  have x₃ : Ext [] C₂ s₂ C₂ { s₂ with heap := h₁, toks := s₂.toks + ([] : List (Str × Value)).length } := Ext.keeps C₂ s₂ old
  have h₃ := h₂.keeps (tk := s₂.toks + ([] : List (Str × Value)).length) old
  have f₃ := f₂.ext x₃ (by simp)
  have p₃ := p₂.ext x₃ (by simp)
  have i₃ : ItOK W C₂ h₁ src I pr 0 := i₂.mono (.refl _) fun a ha o e => old a o e
  obtain ⟨gC, ρC⟩ := h₂.fresh nC
  obtain ⟨gD, ρD⟩ := h₂.fresh nD
  have frC : Cf ∉ frm env := fun h => by obtain ⟨o, e⟩ := f₂.ex _ h; rw [nC] at e; cases e
  have frD : Dc ∉ frm env := fun h => by obtain ⟨o, e⟩ := f₂.ex _ h; rw [nD] at e; cases e
  have prC : Cf ∉ pr := fun h => by obtain ⟨o, e⟩ := p₂.ex _ h; rw [nC] at e; cases e
  have prD : Dc ∉ pr := fun h => by obtain ⟨o, e⟩ := p₂.ex _ h; rw [nD] at e; cases e
  generalize hs₃ : ({ s₂ with heap := h₁, toks := s₂.toks + ([] : List (Str × Value)).length } : Shared) = s₃ at x₃ h₃ f₃ p₃ ⊢
  have eh : s₃.heap = h₁ := by rw [← hs₃]
  obtain ⟨cenv, hce⟩ : ∃ e, e = compEnvC scope (clos scope env) Cf env := ⟨_, rfl⟩
  have c1 : cenv.scope = relabelS scope V.scope := by rw [hce]; exact relabel_eq hF.scope
  have c2 : cenv.locals = Cf := by rw [hce]; rfl
  have c3 : cenv.cells = clos scope env := by rw [hce]; rfl
  have c4 : cenv.globals = env.globals := by rw [hce]; rfl
  have c5 : cenv.builtins = env.builtins := by rw [hce]; rfl
  have c6 : cenv.func = none := by rw [hce]; rfl
  have fin : FrOK W C₂ cenv (innerV scope V) s₃ := inner_frame f₃ ok (by rw [eh]; exact hns₁) gC ρC frC c1 c2 c3 c4 c5 c6
  have inFr : ∀ a ∈ frm cenv, a = Cf ∨ a ∈ frm env := fun a ha => by
    unfold frm at ha
    rw [c2, c3] at ha
    rcases List.mem_cons.mp ha with h | h
    · exact .inl h
    · obtain ⟨⟨x, c⟩, hm, rfl⟩ := List.mem_map.mp h
      exact .inr (frm_cell (clos_mem hm).1)
  have pin : Priv C₂ cenv s₃ (pr ++ [Dc]) := by
    refine Priv.app ⟨p₃.g, p₃.ρ, fun a ha hf => ?_, p₃.ex⟩ ⟨fun a ha => by simp at ha; subst ha; exact gD, fun a ha => by simp at ha; subst ha; exact ρD, fun a ha hf => ?_, fun a ha => by simp at ha; subst ha; obtain ⟨n, e⟩ := hacc; exact ⟨_, by rw [eh]; exact e⟩⟩
    · rcases inFr a hf with rfl | h
      · exact prC ha
      · exact p₃.fr a ha h
    · simp at ha; subst ha
      rcases inFr _ hf with h | h
      · exact hDC h
      · exact frD h
  have run := hL A C₂ cenv s₃ I pr Dc hA h₃ fin pin prD (by rw [eh]; exact i₃) (by rw [eh]; exact hacc)
  have start := start_under (g := ⟨t, iter, ifs, 0⟩) (d := 0) rfl rfl run (it_self (C := C₂) (W := W) (by rw [eh]; exact i₃) run)
  refine codeAny_mono (R := PostC W C₂ cenv s₃ pr Dc outs V' st') (by rw [hce] at start ⊢; exact start) (fun r s₄ ⟨er, C₄, ys, x₄, h₄, f₄, d₄, l₄, r₄⟩ => ?_)
  subst er
  have wIn : ∀ a ∈ frmW cenv, a = Cf := fun a ha => by unfold frmW at ha; rw [c6] at ha; simpa [c2] using ha
  -- everything that turned is new
  have fresh0 : ∀ a ∈ frmW cenv ++ pr ++ [Dc], s.heap.get? a = none := fun a ha => by
    rcases List.mem_append.mp ha with h | h
    · rcases List.mem_append.mp h with h | h
      · rw [wIn a h]; exact fresh_back x₂ nC
      · exact fr a h
    · simp at h; subst h; exact fresh_back x₂ nD
  have xall : Ext [] C s C₄ s₄ := (((x₂.trans x₃).nil (X := frmW cenv ++ pr ++ [Dc])).trans x₄).hide fun a h _ => fresh0 a h
  obtain ⟨n, ho⟩ := l₄
  have h₅ := h₄.freeze ho (d₄.g _ (by simp)) (d₄.ρ _ (by simp))
  have le := CLe.add (o := { cls := .type "list", data := .seq ys.toArray n }) (d₄.g Dc (by simp))
  have x₅ := xall.freeze (o := { cls := .type "list", data := .seq ys.toArray n }) (d₄.g _ (by simp)) (fresh0 Dc (by simp))
  obtain ⟨m, hm, _⟩ := f₄.ns
  rw [c2] at hm
  have a₄ := f₄.apart Cf (by rw [← c2]; exact frm_loc cenv)
  have hlen := r₄.length
  have key := k _ s₄ Dc Cf m x₅ h₅ (hF.ext x₅ (by simp)) (.lst (Cfg.add_self _ _ _) rfl rfl rfl (r₄.mono le) (by omega))
    ⟨fun a ha => by simp at ha; subst ha; simpa [Cfg.add, Ne.symm hDC] using a₄.1, fun a ha => by simp at ha; subst ha; exact a₄.2, fun a ha => by simp at ha; subst ha; exact frC, fun a ha => by simp at ha; subst ha; obtain ⟨o, _, _, ho, _⟩ := hm; exact ⟨o, ho⟩⟩ hm (fresh_back x₂ nC)
  exact key

theorem SE_Comp {elt t iter : Expr} {ifs : List Expr} {rest : List Comprehension} {scope : Scope} {pos : Pos} {outs : List PV}
    (hi : SI W D V iter st src st₁) (hL : LoopOK W D elt (⟨t, iter, ifs, 0⟩ :: rest) scope pos src (innerV scope V) st₁ outs V' st') (ok : CompOK scope V.scope) (hz : outs.length ≤ 100000)
    (hs : ∀ env x, foldedSetIterable iter env x = pure x := by intro _ _; rfl) : SE W D V (.ListComp elt (⟨t, iter, ifs, 0⟩ :: rest) scope pos) st (.lst outs) st' := by
  intro A C env s hA hH hF
  show wpAny _ _ (comprehension (.ListComp elt (⟨t, iter, ifs, 0⟩ :: rest) scope pos) scope env iter.pos (newList []) false (eval iter env) none) _ _ s
  refine comp_core hi hL ok hz hs hA hH hF fun C₃ s₃ Dc Cf m x₃ h₃ f₃ r₃ p₃ n₃ hn => ⟨m, n₃, fun h' hs' => ?_⟩
  refine ⟨C₃, ?_, h₃.frame (tk := s₃.toks) hs' (p₃.g _ (by simp)) (p₃.ρ _ (by simp)), r₃⟩
  exact ((x₃.nil (X := [Cf])).trans (Ext.frame (tk := s₃.toks) C₃ hs' (by simp))).hide fun a h _ => by simp at h; subst h; exact hn
/-- a name takes a comprehension, whether the stores are exchanged or not -/
theorem SX_AssignComp {elt t iter : Expr} {ifs : List Expr} {rest : List Comprehension} {scope : Scope} {pos spos yp : Pos} {outs : List PV} {y : Str}
    (hi : SI W D V iter st src st₁) (hL : LoopOK W D elt (⟨t, iter, ifs, 0⟩ :: rest) scope pos src (innerV scope V) st₁ outs V' st') (ok : CompOK scope V.scope) (hz : outs.length ≤ 100000)
    (hk : V.scope.names.lookup y = some .local ∨ (V.scope.names.lookup y = some .cell ∧ V.own = true)) (hs : ∀ env x, foldedSetIterable iter env x = pure x := by intro _ _; rfl) :
    SX W D V (.Assign [.Name y yp] (.ListComp elt (⟨t, iter, ifs, 0⟩ :: rest) scope pos) spos) st .next (V.set y (.lst outs)) st' := by
  intro A C env s hA hH hF
  obtain ⟨b, hb⟩ : ∃ b, swapsWith (.ListComp elt (⟨t, iter, ifs, 0⟩ :: rest) scope pos) (some (.Name y yp)) spos.line env = pure b := ⟨_, rfl⟩
  cases b with
  | false =>
    refine wpAny_Assign_Name ((SE_Comp hi hL ok hz hs).bind hA hH hF fun v C₁ s₁ x₁ h₁ f₁ r₁ => ?_) hb
    exact store_name hk h₁ f₁ r₁ fun s' x' h' f' => ⟨C₁, x₁.nil.trans x', h', f', .next⟩
  | true =>
    rw [exec_Assign_Name_used _ _ _ _ hb]
    refine wpAny_bind (wpAny_standAt (wpAny_bind ?_))
    show wpAny _ A (do let _ ← comprehension (.ListComp elt (⟨t, iter, ifs, 0⟩ :: rest) scope pos) scope env iter.pos (newList []) false (eval iter env) (some (assign (.Name y yp) env))) _ _ s
    refine wpAny_bind (wpAny_mono (comp_core (use := some (assign (.Name y yp) env)) (Q := fun _ s' => PostS W C env s .next (V.set y (.lst outs)) st' .next s') (E := noE) hi hL ok hz hs hA hH hF fun C₃ s₃ Dc Cf m x₃ h₃ f₃ r₃ p₃ n₃ hn => ?_) (fun _ s' hq => wpAny_pure (wpAny_pure hq)) fun _ _ e => e)
    refine wpAny_assign_Name (store_name hk h₃ f₃ r₃ fun s₄ x₄ h₄ f₄ => ?_)
    have nf : ∀ a ∈ [Cf], a ∉ frmW env := fun a ha h => p₃.fr a ha (frmW_sub h)
    have p₄ := p₃.ext x₄ nf
    have n₄ : s₄.heap.Ns Cf m := n₃.at' fun o e => p₃.keep x₄ nf _ (by simp) o e
    refine ⟨m, n₄, fun h' hs' => ?_⟩
    have x₅ : Ext [Cf] C₃ s₄ C₃ { s₄ with heap := h' } := Ext.frame (tk := s₄.toks) C₃ hs' (by simp)
    refine ⟨C₃, ?_, h₄.frame (tk := s₄.toks) hs' (p₄.g _ (by simp)) (p₄.ρ _ (by simp)), f₄.ext x₅ fun a ha h => by simp at h; subst h; exact p₃.fr _ (by simp) ha, .next⟩
    exact (((x₃.nil (X := frmW env ++ [Cf])).trans (x₄.wide fun a h => List.mem_append_left _ h)).trans (x₅.wide fun a h => List.mem_append_right _ h)).hide fun a h h2 => by
      rcases List.mem_append.mp h with h | h
      · exact absurd h h2
      · simp at h; subst h; exact hn
end
end Mine

/-! part Lay12 -/
namespace Mine

section
variable {W : Wd} {D : Nat} {V V₁ V₂ V₃ V' : Vars} {st st₁ st₂ st₃ st' : St} {A : Around} {C C' : Cfg} {env : Env} {s s' : Shared} {v f : Value} {pv : PV} {l : List PV} {src : Src} {I : Addr} {pr X : List Addr} {i : Nat}

theorem SB_add {a b : Int} : SB W D .Add (.int a) (.int b) st (.int (a + b)) := fun A C s u v hA hH ra rb => by cases ra; cases rb; exact add_int (postE_toks hH (.int _ _))
theorem SB_sub {a b : Int} : SB W D .Sub (.int a) (.int b) st (.int (a - b)) := fun A C s u v hA hH ra rb => by cases ra; cases rb; exact PyProof.Rows.sub_int (postE_toks hH (.int _ _))
theorem bits_le {a : Int} (h : a.natAbs < 2 ^ 60) : Builtin.Int.intBits a ≤ 64 := by
  unfold Builtin.Int.intBits
  split
  · omega
  · rename_i q
    have hne : a.natAbs ≠ 0 := by simpa using q
    have := (Nat.log2_lt hne).mpr h
    omega
theorem SB_mul {a b : Int} (h : a.natAbs < 2 ^ 60) : SB W D .Mult (.int a) (.int b) st (.int (a * b)) := fun A C s u v hA hH ra rb => by
  cases ra; cases rb
  exact PyProof.Rows.mul_int (postE_toks hH (.int _ _)) (IntMulOk.of_left (bits_le h))
theorem SB_fdiv {a b : Int} (hb : b ≠ 0) (h : b.natAbs < 2 ^ 60) : SB W D .FloorDiv (.int a) (.int b) st (.int (a.fdiv b)) := fun A C s u v hA hH ra rb => by
  cases ra; cases rb
  refine floordiv_int hb (postE_toks hH (.int _ _)) (.inl ?_)
  unfold Builtin.divisionGoesByPylong
  have : (if (b == 0) = true then 0 else b.natAbs.log2 / 30 + 1) ≤ 300 := by
    split
    · omega
    · rename_i q
      have hne : b.natAbs ≠ 0 := by simpa using q
      have := (Nat.log2_lt hne).mpr h
      omega
  have h2 : ¬ ((if (b == 0) = true then 0 else b.natAbs.log2 / 30 + 1) > 300) := Nat.not_lt.mpr this
  simp only [decide_eq_false h2, Bool.false_and]
theorem SB_mod {a b : Int} (hb : b ≠ 0) : SB W D .Mod (.int a) (.int b) st (.int (a.fmod b)) := fun A C s u v hA hH ra rb => by
  cases ra; cases rb
  exact mod_int' hb (postE_toks hH (.int _ _))
theorem SB_str {x y : Str} (h : x.length + y.length ≤ 100000) : SB W D .Add (.str x) (.str y) st (.str (x ++ y)) := fun A C s u v hA hH ra rb => by
  cases ra; cases rb
  exact add_str (fun t' tk => postE_toks hH (.str _ _)) (sl_of h)
theorem SB_lists {pa pb : PV} {la lb : List PV} (ha : AsL st pa la) (hb : AsL st pb lb) (hz : la.length + lb.length ≤ 100000) : SB W D .Add pa pb st (.lst (la ++ lb)) := fun A C s u v hA hH ra rb => by
  obtain ⟨x, xs, rfl, hx, rx, zx⟩ := ha.isList hH ra
  obtain ⟨y, ys, rfl, hy, ry, zy⟩ := hb.isList hH rb
  obtain ⟨⟨cls, dd, data, sl⟩, ho, hc, n, hd⟩ := id hx
  obtain ⟨⟨cls2, dd2, data2, sl2⟩, ho2, hc2, n2, hd2⟩ := id hy
  simp only at hc hd hc2 hd2
  subst hc hd hc2 hd2
  have e : xs.toArray ++ ys.toArray = (xs ++ ys).toArray := by simp
  have l1 := rx.length
  have l2 := ry.length
  refine concat_meets ⟨_, ho, rfl⟩ ⟨_, ho2, rfl⟩ noFill_list_add seq_list_add PySem.F.slot_list_add PySem.F.entry_list_add (PySem.F.args_list_add_2 _ _) (list_addW x y xs.toArray ys.toArray n n2 dd dd2 sl sl2 (by simp; exact sl_of (by omega))) ⟨ho, ho2, ?_⟩
  rw [e]
  obtain ⟨a, b⟩ := hH.alloc (tk := s.toks) (o := { cls := .type "list", data := .seq (xs ++ ys).toArray }) rfl
  exact ⟨_, b, a, .lst (Cfg.add_self _ _ _) rfl rfl rfl ((rx.append ry).mono b.le) (by simp; omega)⟩

theorem SC_lt {a b : Int} : SC W D .Lt (.int a) (.int b) st (decide (a < b)) := fun A C s u v hA hH ra rb => by cases ra; cases rb; exact PyProof.Rows.lt_int (postE_here hH (.bool _))
theorem SC_gt {a b : Int} : SC W D .Gt (.int a) (.int b) st (decide (b < a)) := fun A C s u v hA hH ra rb => by cases ra; cases rb; exact PyProof.Rows.gt_int (postE_here hH (.bool _))
theorem SC_ge {a b : Int} : SC W D .GtE (.int a) (.int b) st (decide (b ≤ a)) := fun A C s u v hA hH ra rb => by cases ra; cases rb; exact PyProof.Rows.ge_int (postE_here hH (.bool _))
theorem SC_eq {a b : Int} : SC W D .Eq (.int a) (.int b) st (a == b) := fun A C s u v hA hH ra rb => by cases ra; cases rb; exact PyProof.Rows.eq_int (postE_here hH (.bool _))
theorem SC_ne {a b : Int} : SC W D .NotEq (.int a) (.int b) st (a != b) := fun A C s u v hA hH ra rb => by cases ra; cases rb; exact PyProof.Rows.ne_int (postE_here hH (.bool _))
theorem SC_eqS {a b : Str} : SC W D .Eq (.str a) (.str b) st (a == b) := fun A C s u v hA hH ra rb => by cases ra; cases rb; exact PyProof.Rows.eq_str (postE_here hH (.bool _))
theorem SC_eqNil {pa : PV} {la : List PV} (ha : AsL st pa la) : SC W D .Eq pa (.lst []) st la.isEmpty := fun A C s u v hA hH ra rb => by
  obtain ⟨x, xs, rfl, hx, rx, zx⟩ := ha.isList hH ra
  obtain ⟨y, ys, rfl, hy, ry, zy⟩ := AsL.lst.isList hH rb
  cases ry
  have l1 := rx.length
  have hu : A.units < cLine := by have := hA.uc; omega
  cases la with
  | nil =>
    cases rx
    exact SeqAt.eq_listAt (e := fun _ => true) hx hy rfl hu (fun j h1 => by simp at h1) (postE_here hH (.bool _))
  | cons p ps =>
    refine SeqAt.eq_list_lengthsAt hx hy ?_ hu (postE_here hH (.bool _))
    show (xs.length != 0) = true
    rw [l1]; simp
theorem SC_neNil {pa : PV} {la : List PV} (ha : AsL st pa la) : SC W D .NotEq pa (.lst []) st (!la.isEmpty) := fun A C s u v hA hH ra rb => by
  obtain ⟨x, xs, rfl, hx, rx, zx⟩ := ha.isList hH ra
  obtain ⟨y, ys, rfl, hy, ry, zy⟩ := AsL.lst.isList hH rb
  cases ry
  have l1 := rx.length
  have hu : A.units < cLine := by have := hA.uc; omega
  cases la with
  | nil =>
    cases rx
    exact SeqAt.RcNeAt.lists (e := fun _ => true) hx hy rfl hu (fun j h1 => by simp at h1) W.prog W.w _ _ (postE_here hH (.bool _))
  | cons p ps =>
    refine SeqAt.RcNeAt.lists_lengths hx hy ?_ hu W.prog W.w _ _ (postE_here hH (.bool _))
    show (xs.length != 0) = true
    rw [l1]; simp
theorem ints_all {as bs : List Int} (h : as.length = bs.length) : (List.range as.length).all (fun j => as[j]? == bs[j]?) = decide (as = bs) := by
  rw [Bool.eq_iff_iff]
  simp only [List.all_eq_true, List.mem_range, beq_iff_eq, decide_eq_true_eq]
  constructor
  · intro q
    apply List.ext_getElem?
    intro j
    by_cases hj : j < as.length
    · exact q j hj
    · rw [List.getElem?_eq_none (by omega), List.getElem?_eq_none (by omega)]
  · rintro rfl j _; rfl
theorem SC_neInts {as bs : List Int} : SC W D .NotEq (.lst (as.map .int)) (.lst (bs.map .int)) st (!decide (as = bs)) := fun A C s u v hA hH ra rb => by
  obtain ⟨x, xs, rfl, hx, rx, zx⟩ := AsL.lst.isList hH ra
  obtain ⟨y, ys, rfl, hy, ry, zy⟩ := AsL.lst.isList hH rb
  have l1 := rx.length
  have l2 := ry.length
  simp at l1 l2
  have hu : A.units < cLine := by have := hA.uc; omega
  by_cases hl : as.length = bs.length
  · refine SeqAt.RcNeAt.lists (e := fun j => as[j]? == bs[j]?) hx hy (by simp; omega) hu (fun j h1 h2 => ?_) W.prog W.w _ _ ?_
    · simp at h1 h2
      obtain ⟨p, hp, r1⟩ := rx.get' (i := j) (v := xs[j]) (by simp [h1])
      obtain ⟨q, hq, r2⟩ := ry.get' (i := j) (v := ys[j]) (by simp [h2])
      simp at hp hq
      obtain ⟨a, ha, rfl⟩ := hp
      obtain ⟨b, hb, rfl⟩ := hq
      generalize e1 : xs[j] = u at r1
      generalize e2 : ys[j] = v at r2
      cases r1; cases r2
      simp only [List.getElem_toArray, e1, e2, ha, hb]
      exact SeqAt.EqAt.int_int _ _ _ _
    · have := ints_all hl
      simp only [List.size_toArray, l1]
      rw [this]
      exact postE_here hH (.bool _)
  · have hne : as ≠ bs := fun e => hl (by rw [e])
    rw [decide_eq_false hne]
    exact SeqAt.RcNeAt.lists_lengths hx hy (by simp; omega) hu W.prog W.w _ _ (postE_here hH (.bool _))
theorem valueAt_some_DI {kvs : List (Int × Value)} {d : List (Int × PV)} (r : RepDI W.prog W.w C kvs d) (k : Int) : (valueAt kvs k).isSome = (d.lookup k).isSome := by
  cases e : d.lookup k with
  | none => rw [(repDI_get r k).2 e]; rfl
  | some p => obtain ⟨v, h, _⟩ := (repDI_get r k).1 p e; rw [h]; rfl
theorem valueAt_some_DS {kvs : List (Str × Value)} {d : List (Str × PV)} (r : RepDS W.prog W.w C kvs d) (k : Str) : (valueAt kvs k).isSome = (d.lookup k).isSome := by
  cases e : d.lookup k with
  | none => rw [(repDS_get r k).2 e]; rfl
  | some p => obtain ⟨v, h, _⟩ := (repDS_get r k).1 p e; rw [h]; rfl
theorem SC_notInDI {k : Int} {pd : PV} {d : List (Int × PV)} (hd : AsDI st pd d) : SC W D .NotIn (.int k) pd st (!(d.lookup k).isSome) := fun A C s u v hA hH ra rb => by
  cases ra
  obtain ⟨x, kvs, rfl, hm, hL, rl⟩ := hd.isDict hH rb
  refine wpAny_notIn_of (knd := intKind W.prog W.w) (k := k) (by simp [intKind, Value.isInt]) hm hL.mapOf ?_
  rw [valueAt_some_DI rl]
  exact postE_toks hH (.bool _)
theorem SC_notInDS {k : Str} {d : List (Str × PV)} : SC W D .NotIn (.str k) (.dictS d) st (!(d.lookup k).isSome) := fun A C s u v hA hH ra rb => by
  cases ra
  obtain ⟨x, kvs, rfl, hm, hL, rl⟩ := rep_dictS hH rb
  refine wpAny_notIn_of (knd := PySem.strKind W.prog W.w) (k := k) (by simp [PySem.strKind, Value.isStrOf]) hm hL.mapOf ?_
  rw [valueAt_some_DS rl]
  exact postE_toks hH (.bool _)
theorem SC_notInInts {k : Int} {pd : PV} {ns : List Int} (hd : AsL st pd (ns.map .int)) : SC W D .NotIn (.int k) pd st (!ns.any (· == k)) := fun A C s u v hA hH ra rb => by
  cases ra
  obtain ⟨x, xs, rfl, hx, rx, zx⟩ := hd.isList hH rb
  exact notin_list_ints hx rx.ints (postE_here hH (.bool _))
def asB : Value → Bool
  | .bool b => b
  | _ => false
theorem SC_notInBools {k : Bool} {bs : List Bool} : SC W D .NotIn (.bool k) (.lst (bs.map .bool)) st (!bs.any (· == k)) := fun A C s u v hA hH ra rb => by
  cases ra
  obtain ⟨x, xs, rfl, hx, rx, zx⟩ := AsL.lst.isList hH rb
  refine SeqAt.notIn_listAt (fun y => asB y == k) hx (fun y hy => ?_) ?_
  · have hy' : y ∈ xs := by simpa using hy
    obtain ⟨j, hj⟩ := List.getElem?_of_mem hy'
    obtain ⟨p, hp, r⟩ := rx.get' hj
    rw [List.getElem?_map] at hp
    obtain ⟨b, hb, rfl⟩ := Option.map_eq_some_iff.mp hp
    cases r
    exact SeqAt.EqAt.bool_bool _ _
  · have : (xs.toArray.any fun y => asB y == k) = bs.any (· == k) := by
      simp only [List.any_toArray]
      clear hx zx rb
      induction bs generalizing xs with
      | nil => cases rx; rfl
      | cons b bs ih => cases rx with | cons r rs => cases r; rw [List.any_cons, List.any_cons, ih _ rs]; rfl
    rw [this]
    exact postE_here hH (.bool _)
theorem SE_neg1 {k : Nat} {p pos : Pos} {n : Int} : SE W D V (.UnaryOp .USub (.Constant (.int n) k p) pos) st (.int (-n)) st :=
  fun A C env s hA hH hF => wpAny_UnaryOp (wpAny_Constant_int (PyProof.Rows.neg_int (postE_toks hH (.int _ _))))
end
end Mine

/-! part Lay13 -/
namespace Mine

section
variable {W : Wd} {D : Nat} {V V₁ V₂ V₃ V' : Vars} {st st₁ st₂ st₃ st' : St} {A : Around} {C C' : Cfg} {env : Env} {s s' : Shared} {v f : Value} {pv : PV} {l : List PV} {src : Src} {I : Addr} {pr X : List Addr} {i : Nat}

/-- a new immutable object after a run that kept all -/
theorem made {h' : Heap} {tk : Nat} {o : Obj} (hH : HOK W C st s) (hk : ∀ b o, s.heap.get? b = some o → h'.get? b = some o) (ho : o.isFreed = false) {p : PV} (hr : Rep W.prog W.w (C.add h'.objs.size o) (.ref h'.objs.size) p) :
    PostE W C s st p (.ref h'.objs.size) { s with heap := h'.push o, toks := tk } := by
  have h1 := hH.keeps (tk := tk) hk
  obtain ⟨a, b⟩ := h1.alloc (tk := tk) (o := o) ho
  exact ⟨_, (Ext.keeps (tk := tk) C s hk).trans b, a, hr⟩
theorem added {h' : Heap} {tk : Nat} {a : Addr} {o : Obj} (hH : HOK W C st s) (hk : ∀ b o, s.heap.get? b = some o → h'.get? b = some o) (hn : s.heap.get? a = none) (ho : h'.get? a = some o) {p : PV} (hr : Rep W.prog W.w (C.add a o) (.ref a) p) :
    PostE W C s st p (.ref a) { s with heap := h', toks := tk } := by
  obtain ⟨f1, f2⟩ := hH.fresh hn
  exact ⟨_, (Ext.keeps (tk := tk) C s hk).freeze f1 hn, (hH.keeps (tk := tk) hk).freeze ho f1 f2, hr⟩

theorem SCall_len {p : PV} (hl : AsSeq st p l) : SCall W D (.builtin "len") [p] st (.int l.length) st := by
  intro A C s vals hA hH hr
  cases hr with | cons r rs =>
  cases rs
  cases hl with
  | tup =>
    obtain ⟨x, items, rfl, ht, rl, z⟩ := rep_tup hH r
    refine len_tuple ht (by simp; omega) ?_
    rw [List.size_toArray, rl.length]
    exact postE_toks hH (.int _ _)
  | lst a =>
    obtain ⟨x, items, rfl, ht, rl, z⟩ := a.isList hH r
    refine Calls.call_len_list ht (by simp; omega) ?_
    rw [List.size_toArray, rl.length]
    exact postE_toks hH (.int _ _)
theorem SCall_int {n : Int} : SCall W D (.type "int") [.int n] st (.int n) st := by
  intro A C s vals hA hH hr
  cases hr with | cons r rs =>
  cases rs
  cases r
  exact call_int_int (postE_here hH (.int _ _))
theorem SCall_str {n : Int} (h : n.natAbs < 2 ^ 60) : SCall W D (.type "str") [.int n] st (.str (Str.ofString (toString n))) st := by
  intro A C s vals hA hH hr
  cases hr with | cons r rs =>
  cases rs
  cases r
  refine PySem.P.str_of_int ?_ (postE_toks hH (.str _ _))
  by_cases h0 : n.natAbs = 0
  · rw [h0]; decide
  · have := (Nat.log2_lt h0).mpr h; omega
theorem SCall_sum {p : PV} {ns : List Int} (hl : AsL st p (ns.map .int)) : SCall W D (.builtin "sum") [p] st (.int ns.sum) st := by
  intro A C s vals hA hH hr
  cases hr with | cons r rs =>
  cases rs
  obtain ⟨x, items, rfl, ht, rl, z⟩ := hl.isList hH r
  have hi := rl.ints
  obtain ⟨xs, hx⟩ := hi.allInts.items
  rw [hx] at ht
  refine sum_intListG hA.handled ht fun h' tk t' hk => ?_
  have e : preSum (numAt xs) xs.size = ns.sum := by
    rw [preSum_eq, List.take_of_length_le (by simp), ← nums_intItems, ← hx]
    show (numsOf items).sum = _
    rw [hi.numsOf]
  rw [e]
  exact ⟨C, Ext.keeps C s hk, hH.keeps hk, .int _ _⟩
theorem SCall_tupleL {p : PV} (hl : AsL st p l) : SCall W D (.type "tuple") [p] st (.tup l) st := by
  intro A C s vals hA hH hr
  cases hr with | cons r rs =>
  cases rs
  obtain ⟨x, items, rfl, ht, rl, z⟩ := hl.isList hH r
  refine call_tuple_list ht (fun h' hk => ?_) (by simp; exact sl_of z)
  have h1 := hH.keeps (tk := s.toks) hk
  obtain ⟨f1, f2⟩ := h1.fresh (get_size h')
  exact made hH hk rfl (.tup (Cfg.add_self _ _ _) rfl rfl (rl.mono (CLe.add f1)) z)
def chars (x : Str) : List PV := x.cps.toList.map fun c => .str ⟨#[c]⟩
theorem SCall_tupleS {x : Str} (hz : x.length ≤ 100000) : SCall W D (.type "tuple") [.str x] st (.tup (chars x)) st := by
  intro A C s vals hA hH hr
  cases hr with | cons r rs =>
  cases rs
  cases r
  refine call_tuple_str hA.handled x _ (fun h' tk acc hk hacc => ?_) (sl_of hz)
  have h1 := hH.keeps (tk := tk) hk
  obtain ⟨f1, f2⟩ := h1.fresh (get_size h')
  have hr : ∀ C : Cfg, RepL W.prog W.w C acc.toList (chars x) := fun C => by
    have hlen : acc.toList.length = (chars x).length := by simp [chars, hacc.1]
    have hat : ∀ j v p, acc.toList[j]? = some v → (chars x)[j]? = some p → Rep W.prog W.w C v p := fun j v p h1 h2 => by
      obtain ⟨c, u, hc, ev⟩ := hacc.2 j v (by rw [← Array.getElem?_toList]; exact h1)
      subst ev
      unfold chars at h2
      rw [List.getElem?_map] at h2
      obtain ⟨c', hc', e2⟩ := Option.map_eq_some_iff.mp h2
      subst e2
      have : c = c' := by
        rw [Array.getElem?_toList] at hc'
        rw [hc] at hc'; exact Option.some.inj hc'
      subst this
      exact .str _ _
    generalize acc.toList = as at hlen hat
    generalize chars x = ps at hlen hat
    induction as generalizing ps with
    | nil => cases ps with | nil => exact .nil | cons p ps => simp at hlen
    | cons a as ih => cases ps with
      | nil => simp at hlen
      | cons p ps => exact .cons (hat 0 a p rfl rfl) (ih ps (by simpa using hlen) fun j v p h1 h2 => hat (j + 1) v p (by simpa using h1) (by simpa using h2))
  exact made (tk := tk) hH hk rfl (.tup (o := { cls := .type "tuple", data := .seq acc }) (items := acc.toList) (n := 0) (Cfg.add_self _ _ _) rfl (by simp) (hr _) (by have := (hr C).length; rw [this]; simp only [chars, List.length_map, Array.length_toList]; exact hz))
theorem SCall_listT : SCall W D (.type "list") [.tup l] st (.lst l) st := by
  intro A C s vals hA hH hr
  cases hr with | cons r rs =>
  cases rs
  obtain ⟨x, items, rfl, ⟨o, ho, hc, n, hd⟩, rl, z⟩ := rep_tup hH r
  refine call_list_seq x (.inr rfl) ho hc hd (fun h' c' hk hD => ?_) (by simp; exact sl_of z)
  obtain ⟨f1, f2⟩ := hH.fresh (get_size s.heap)
  exact added (tk := s.toks) hH hk (get_size _) hD (.lst (Cfg.add_self _ _ _) rfl rfl rfl (rl.mono (CLe.add f1)) z)

theorem max_best (ns : List Int) : ∀ k, k < ns.length → argBest (fun i j => decide ((ns[i]?).getD 0 > (ns[j]?).getD 0)) k ≤ k ∧ (∀ j, j ≤ k → (ns[j]?).getD 0 ≤ (ns[argBest (fun i j => decide ((ns[i]?).getD 0 > (ns[j]?).getD 0)) k]?).getD 0)
  | 0, h => ⟨Nat.le_refl _, fun j hj => by simp at hj; subst hj; exact Int.le_refl _⟩
  | k + 1, h => by
    obtain ⟨h1, h2⟩ := max_best ns k (by omega)
    unfold argBest
    split
    · rename_i q
      simp only [decide_eq_true_eq] at q
      refine ⟨Nat.le_refl _, fun j hj => ?_⟩
      by_cases e : j = k + 1
      · subst e; exact Int.le_refl _
      · have := h2 j (by omega); omega
    · rename_i q
      simp only [decide_eq_true_eq] at q
      refine ⟨by omega, fun j hj => ?_⟩
      by_cases e : j = k + 1
      · subst e; omega
      · exact h2 j (by omega)
/-- the greatest of a list that is not empty -/
theorem SCall_max {p : PV} {ns : List Int} {m : Int} (hl : AsL st p (ns.map .int)) (hm : m ∈ ns) (hle : ∀ x ∈ ns, x ≤ m) : SCall W D (.builtin "max") [p] st (.int m) st := by
  intro A C s vals hA hH hr
  cases hr with | cons r rs =>
  cases rs
  obtain ⟨x, items, rfl, ht, rl, z⟩ := hl.isList hH r
  have hi := rl.ints
  have hlen := rl.length
  simp at hlen
  have hpos : 0 < ns.length := List.length_pos_of_mem hm
  have hxl : x < s.heap.objs.size := by obtain ⟨o, e, _⟩ := ht; exact Heap.lt_size e
  refine call_max_walk (wpAny_pyIter_list ht ?_)
  refine ⟨_, _, _, _, _, _, _, rfl, Walks.list (A := A.in1) hA.handled _ x (Nat.ne_of_lt hxl) items.toArray, ⟨⟨_, Heap.get?_push_size _ rfl, rfl, rfl⟩, ht.push _⟩, fun b hb => ?_, by simpa [hlen] using hpos,
    CmpOf.ints_gt (fun i => (ns[i]?).getD 0) (fun i v hv => ?_), fun v h' tk hP hk => ?_⟩
  · show b < (s.heap.push _).objs.size
    rw [Heap.size_push]
    simp at hb
    rcases hb with rfl | rfl
    · exact Nat.lt_succ_self _
    · exact Nat.lt_succ_of_lt hxl
  · obtain ⟨q, hq, rq⟩ := rl.get' (i := i) (v := v) (by simpa using hv)
    rw [List.getElem?_map] at hq
    obtain ⟨n, hn, rfl⟩ := Option.map_eq_some_iff.mp hq
    cases rq
    exact ⟨_, by simp only [hn, Option.getD_some]; rfl⟩
  · have hsz : items.toArray.size - 1 = ns.length - 1 := by simp [hlen]
    rw [hsz] at hP
    obtain ⟨b1, b2⟩ := max_best ns (ns.length - 1) (by omega)
    obtain ⟨q, hq, rq⟩ := rl.get' (i := argBest (fun i j => decide ((ns[i]?).getD 0 > (ns[j]?).getD 0)) (ns.length - 1)) (v := v) (by simpa using hP)
    rw [List.getElem?_map] at hq
    obtain ⟨n, hn, rfl⟩ := Option.map_eq_some_iff.mp hq
    have e : n = m := by
      have hn' : (ns[argBest (fun i j => decide ((ns[i]?).getD 0 > (ns[j]?).getD 0)) (ns.length - 1)]?).getD 0 = n := by rw [hn]; rfl
      obtain ⟨j, hj⟩ := List.getElem?_of_mem hm
      have hjl := (List.getElem?_eq_some_iff.mp hj).1
      have h1 := b2 j (by omega)
      rw [hn'] at h1
      rw [hj] at h1
      simp only [Option.getD_some] at h1
      have h2 := hle n (List.mem_of_getElem? hn)
      omega
    subst e
    cases rq
    have hk' : ∀ b o, s.heap.get? b = some o → h'.get? b = some o := fun b o e => hk b o (fun hm => by
      rw [List.mem_singleton.mp hm, get_size] at e; cases e) (Heap.get?_push_of_some _ e)
    exact ⟨C, Ext.keeps C s hk', hH.keeps hk', .int _ _⟩

theorem post_sorted {ns ms : List Int} (hH : HOK W C st s) {vs' : List Value} {h' : Heap} {tk : Nat} {a : Addr} {e : Nat} (hk : ∀ b o, s.heap.get? b = some o → h'.get? b = some o) (hn : s.heap.get? a = none) (ho : h'.get? a = some (seqObj "list" vs'.toArray e))
    (hi : IntsAre vs' ms) (hz : vs'.length ≤ 100000) : PostE W C s st (.lst (ms.map .int)) (.ref a) { s with heap := h', toks := tk } :=
  added hH hk hn ho (.lst (Cfg.add_self _ _ _) rfl rfl rfl (RepL.of_ints hi) hz)
theorem sorted_unique {as bs : List Int} (hp : as.Perm bs) (ha : as.Pairwise (· ≤ ·)) (hb : bs.Pairwise (· ≤ ·)) : as = bs :=
  hp.eq_of_pairwise (fun a b _ _ h1 h2 => Int.le_antisymm h1 h2) ha hb
/-- sorted of a list of ints: ms is the sorted list -/
theorem SCall_sortedL {p : PV} {ns ms : List Int} (hl : AsL st p (ns.map .int)) (h64 : ns.length < 64) (hp : ms.Perm ns) (hs : ms.Pairwise (· ≤ ·)) : SCall W D (.builtin "sorted") [p] st (.lst (ms.map .int)) st := by
  intro A C s vals hA hH hr
  cases hr with | cons r rs =>
  cases rs
  obtain ⟨x, items, rfl, ht, rl, z⟩ := hl.isList hH r
  have hlen := rl.length
  simp at hlen
  refine sorted_ints ht rl.ints (by omega) fun out ns' a1 a2 a3 => ?_
  obtain ⟨e, he⟩ := sortedAll_at s.heap items out
  have en : ns' = ms := sorted_unique (a2.trans hp.symm) a3 hs
  subst en
  refine post_sorted (tk := s.toks) (ns := ns) hH (fun _ _ => sortedAll_old) ?_ he a1 ?_
  · cases q : s.heap.get? (s.heap.objs.size + 1) with
    | none => rfl
    | some o => exact absurd (Heap.lt_size q) (Nat.not_lt.mpr (Nat.le_succ _))
  · have h1 : out.toList.length = ns'.length := a1.length
    have h2 := hp.length_eq
    omega
end
end Mine

/-! part Lay14 -/
namespace Mine

structure FnAt (W : Wd) (f : Addr) (fd : FuncData) (body : List Stmt) (names : List Str) (n : Nat) (dv : List Value) : Prop where
  at_ : ∃ oc od osl, W.K.lookup f = some ⟨oc, od, .func fd, osl⟩
  body : fd.body = .stmts body
  clo : fd.closure = []
  glob : fd.globals = mainGlobals
  bi : fd.builtins = builtinsNs
  code : codeIn W.K fd.code fd.qualname = true
  co : fd.scope.isCoroutine = false
  gen : fd.scope.isGenerator = false
  kind : fd.scope.kind = .function
  nofree : ∀ y ∈ fd.scope.names, y.2 ≠ .free
  nodup : names.Nodup
  scnodup : (fd.scope.names.map (·.1)).Nodup
  kinds : ∀ x ∈ names, fd.scope.names.lookup x = some .local ∨ fd.scope.names.lookup x = some .cell
  bind : ∀ (s : Shared) (vals : List Value), W.K.In s.heap → vals.length = n → BindsTo s fd ⟨vals, []⟩ (names.zip (vals ++ dv))

section
variable {W : Wd} {D : Nat} {V V₁ V₂ V₃ V' : Vars} {st st₁ st₂ st₃ st' : St} {A : Around} {C C' : Cfg} {env : Env} {s s' : Shared} {v f : Value} {pv : PV} {l : List PV} {src : Src} {I : Addr} {pr X : List Addr} {i : Nat}

theorem cellsFrom_has : ∀ (names : List (Str × NameKind)) (n : Nat) (acc : List (Str × Addr)) (x : Str), ((∃ c, acc.lookup x = some c) ∨ (x, NameKind.cell) ∈ names) → ∃ c, (cellsFrom n names acc).lookup x = some c
  | [], n, acc, x, h => by
    rcases h with h | h
    · exact h
    · cases h
  | (y, k) :: r, n, acc, x, h => by
    unfold cellsFrom
    split
    · refine cellsFrom_has r (n + 1) _ x ?_
      rcases h with ⟨c, h⟩ | h
      · left
        rw [List.lookup_cons]
        split
        · exact ⟨_, rfl⟩
        · exact ⟨c, h⟩
      · rcases List.mem_cons.mp h with e | h
        · cases e; left; exact ⟨n, by simp [List.lookup_cons]⟩
        · exact .inr h
    · rename_i hk
      refine cellsFrom_has r n acc x ?_
      rcases h with h | h
      · exact .inl h
      · rcases List.mem_cons.mp h with e | h
        · cases e; exact absurd rfl hk
        · exact .inr h
theorem cellsFrom_nodup : ∀ (names : List (Str × NameKind)) (n : Nat) (acc : List (Str × Addr)), (names.map (·.1)).Nodup → (acc.map (·.1)).Nodup → (∀ x ∈ names.map (·.1), x ∉ acc.map (·.1)) → ((cellsFrom n names acc).map (·.1)).Nodup
  | [], n, acc, _, h, _ => h
  | (y, k) :: r, n, acc, h1, h2, h3 => by
    rw [List.map_cons, List.nodup_cons] at h1
    unfold cellsFrom
    split
    · refine cellsFrom_nodup r (n + 1) _ h1.2 ?_ ?_
      · rw [List.map_cons, List.nodup_cons]; exact ⟨h3 y (by simp), h2⟩
      · intro x hx
        rw [List.map_cons, List.mem_cons, not_or]
        exact ⟨fun e => by rw [e] at hx; exact h1.1 hx, h3 x (by rw [List.map_cons]; exact List.mem_cons_of_mem _ hx)⟩
    · exact cellsFrom_nodup r n acc h1.2 h2 fun x hx => h3 x (by rw [List.map_cons]; exact List.mem_cons_of_mem _ hx)
theorem bindL_none {kindOf : Str → Option NameKind} : ∀ (b : List (Str × Value)) (m : Str → Option Value) (x : Str), x ∉ b.map (·.1) → bindL kindOf b m x = m x
  | [], _, _, _ => rfl
  | (n, v) :: r, m, x, h => by
    simp only [List.map_cons, List.mem_cons, not_or] at h
    unfold bindL
    rw [bindL_none r _ x h.2]
    split
    · simp [h.1]
    · rfl
theorem bindL_some {kindOf : Str → Option NameKind} : ∀ (b : List (Str × Value)) (m : Str → Option Value) (x : Str) (v : Value), (b.map (·.1)).Nodup → (x, v) ∈ b → kindOf x = some .local → bindL kindOf b m x = some v
  | (n, u) :: r, m, x, v, hn, h, hk => by
    rw [List.map_cons, List.nodup_cons] at hn
    unfold bindL
    rcases List.mem_cons.mp h with e | h
    · cases e
      rw [bindL_none r _ n hn.1, if_pos hk]; simp
    · exact bindL_some r _ x v hn.2 h hk
theorem bindC_none {kindOf : Str → Option NameKind} : ∀ (b : List (Str × Value)) (m : Str → Option Value) (x : Str), x ∉ b.map (·.1) → bindC kindOf b m x = m x
  | [], _, _, _ => rfl
  | (n, v) :: r, m, x, h => by
    simp only [List.map_cons, List.mem_cons, not_or] at h
    unfold bindC
    rw [bindC_none r _ x h.2]
    split
    · rfl
    · simp [h.1]
theorem bindC_some {kindOf : Str → Option NameKind} : ∀ (b : List (Str × Value)) (m : Str → Option Value) (x : Str) (v : Value), (b.map (·.1)).Nodup → (x, v) ∈ b → kindOf x ≠ some .local → bindC kindOf b m x = some v
  | (n, u) :: r, m, x, v, hn, h, hk => by
    rw [List.map_cons, List.nodup_cons] at hn
    unfold bindC
    rcases List.mem_cons.mp h with e | h
    · cases e
      rw [bindC_none r _ n hn.1, if_neg hk]; simp
    · exact bindC_some r _ x v hn.2 h hk
theorem zip_rep {vs : List Value} {ps : List PV} (r : RepL W.prog W.w C vs ps) : ∀ (names : List Str) (x : Str) (p : PV), (names.zip ps).lookup x = some p → ∃ v, (x, v) ∈ names.zip vs ∧ Rep W.prog W.w C v p := by
  induction vs generalizing ps with
  | nil => intro names x p h; cases r; simp at h
  | cons u us ih =>
    intro names x p h
    cases r with | cons a r =>
    cases names with
    | nil => simp at h
    | cons n ns =>
      rw [List.zip_cons_cons, List.lookup_cons] at h
      split at h
      · rename_i q; cases h; exact ⟨u, by rw [eq_of_beq q]; simp, a⟩
      · obtain ⟨v, hm, hv⟩ := ih r ns x p h
        exact ⟨v, by rw [List.zip_cons_cons]; exact List.mem_cons_of_mem _ hm, hv⟩
theorem zip_fst_sub {α : Type} : ∀ (names : List Str) (vs : List α), ((names.zip vs).map (·.1)).Sublist names
  | [], _ => by simp
  | n :: ns, [] => by simp
  | n :: ns, v :: vs => by simpa using zip_fst_sub ns vs

theorem room_deeper (hA : Room (D + 1) A) (env : Env) : Room D (A.deeper env) :=
  ⟨hA.handled, by have := hA.depth; show A.depth + 1 + D < _; omega, by have := hA.units; show A.units + 3 + 8 * D + 100 < _; omega, hA.guards⟩

theorem enter {f : Addr} {fd : FuncData} {body : List Stmt} {names : List Str} {n : Nat} {dv vals : List Value} {args dargs : List PV} {R : Result → Shared → Prop} (B : Base W) (F : FnAt W f fd body names n dv) (hA : Room (D + 1) A) (hH : HOK W C st s)
    (hr : RepL W.prog W.w C vals args) (hdv : RepL W.prog W.w C dv dargs) (hn : vals.length = n)
    (k : ∀ env s₁, (∀ b o, s.heap.get? b = some o → s₁.heap.get? b = some o) → (∃ h tk, s₁ = { s with heap := h, toks := tk }) → Ext [] C s C s₁ → HOK W C st s₁ → FrOK W C env ⟨true, fd.scope, names.zip (args ++ dargs)⟩ s₁ → (∀ a ∈ frm env, s.heap.get? a = none) → s.heap.objs.size ≤ env.locals → Room D (A.deeper env) →
      wpAny (model W.prog W.w) (A.deeper env) (execs body env) (fun f s' => R (.ok (.ret (match f with | .ret v => v | _ => .none))) s') noE s₁) :
    codeAny (model W.prog W.w) A (.call (.ref f) ⟨vals, []⟩) R s := by
  obtain ⟨oc, od, osl, ho⟩ := F.at_
  have hin := hH.inK B
  refine codeAny_call_function hA.lt (hin _ _ ho) rfl F.co F.gen F.body (codeRec_of hin F.code) ?_
  refine F.bind s vals hin hn _ _ _ _ ?_
  rw [F.clo]
  have hsub := zip_fst_sub names (vals ++ dv)
  have hnd : ((names.zip (vals ++ dv)).map (·.1)).Nodup := hsub.nodup F.nodup
  have hmem : ∀ x ∈ names.zip (vals ++ dv), x.1 ∈ names := fun x hx => hsub.subset (List.mem_map_of_mem (f := (·.1)) hx)
  refine wpAny_newFunctionEnv_cells F.kind (fun x hx => ?_) fun env he s₁ x => ?_
  · rcases F.kinds x.1 (hmem x hx) with h | h
    · exact .inl h
    · refine .inr ⟨h, ?_⟩
      obtain ⟨c, hc⟩ := cellsFrom_has fd.scope.names (s.heap.objs.size + 1) [] x.1 (.inr (lookup_mem h))
      rw [hc]; rfl
  obtain ⟨h₁, tk, es⟩ := x.toInCall.same
  have keep := x.toInCall.keep
  have fresh := x.toInCall.fresh
  have e1 : env.scope = fd.scope := by rw [he]; rfl
  have e2 : env.cells = cellsFrom (s.heap.objs.size + 1) fd.scope.names [] := by rw [he]; rfl
  have e3 : env.globals = mainGlobals := by rw [he]; exact F.glob
  have e4 : env.builtins = builtinsNs := by rw [he]; exact F.bi
  have e5 : env.func.isSome = true := by rw [he]; rfl
  have ek : ∀ y, env.kindOf y = fd.scope.names.lookup y := fun y => by show env.scope.names.lookup y = _; rw [e1]
  have hnew : ∀ a ∈ frm env, s.heap.objs.size ≤ a := fun a ha => by
    unfold frm at ha
    rcases List.mem_cons.mp ha with rfl | ha
    · exact fresh
    · obtain ⟨⟨y, c⟩, hm, rfl⟩ := List.mem_map.mp ha
      exact Nat.le_of_lt (Nat.lt_of_le_of_lt fresh (x.above y c hm))
  have hnone : ∀ a ∈ frm env, s.heap.get? a = none := fun a ha => by
    cases e : s.heap.get? a with
    | none => rfl
    | some o => exact absurd (Heap.lt_size e) (Nat.not_lt.mpr (hnew a ha))
  have X : Ext [] C s C s₁ := by rw [es]; exact Ext.keeps C s (by rw [es] at keep; exact keep)
  have H : HOK W C st s₁ := by rw [es]; exact hH.keeps (by rw [es] at keep; exact keep)
  have hra := hr.append hdv
  have FR : FrOK W C env ⟨true, fd.scope, names.zip (args ++ dargs)⟩ s₁ := by
    refine ⟨e1, e3, e4, F.kind, e5, ⟨_, x.toInCall.ns, fun y p hk hv => ?_⟩, fun y hy => ?_, fun a ha => hH.fresh (hnone a ha), fun a ha => ?_, ?_⟩
    · obtain ⟨u, hm, hu⟩ := zip_rep hra names y p hv
      exact ⟨u, bindL_some _ _ y u hnd hm (by rw [ek]; exact hk), hu⟩
    · have hy' : fd.scope.names.lookup y = some .cell := by
        rcases hy with h | h
        · exact h
        · exact absurd rfl (F.nofree _ (lookup_mem h))
      obtain ⟨c, hc⟩ := cellsFrom_has fd.scope.names (s.heap.objs.size + 1) [] y (.inr (lookup_mem hy'))
      refine ⟨c, _, by rw [e2]; exact hc, x.cell y c (by rw [e2]; exact hc), fun p hp => ?_⟩
      obtain ⟨u, hm, hu⟩ := zip_rep hra names y p hp
      exact ⟨u, bindC_some _ _ y u hnd hm (by rw [ek, hy']; decide), hu⟩
    · unfold frm at ha
      rcases List.mem_cons.mp ha with rfl | ha
      · obtain ⟨o, _, _, ho, _⟩ := x.toInCall.ns; exact ⟨o, ho⟩
      · obtain ⟨⟨y, c⟩, hm, rfl⟩ := List.mem_map.mp ha
        have hl : ∃ c', env.cells.lookup y = some c' := by
          cases e : env.cells.lookup y with
          | some c' => exact ⟨c', rfl⟩
          | none => have := List.lookup_eq_none_iff.mp e _ hm; simp at this
        obtain ⟨c', hl⟩ := hl
        have hnd' : (env.cells.map (·.1)).Nodup := by
          rw [e2]
          exact cellsFrom_nodup _ _ _ F.scnodup (by simp) (by simp)
        have hcc := lookup_of_mem hnd' hm
        obtain ⟨o, ho, _⟩ := x.cell y c hcc
        exact ⟨o, ho⟩
    · unfold frm
      rw [List.nodup_cons]
      refine ⟨fun hm => ?_, ?_⟩
      · obtain ⟨⟨y, c⟩, hm', e⟩ := List.mem_map.mp hm
        exact absurd e (Nat.ne_of_gt (x.above y c hm'))
      · unfold List.Nodup
        rw [List.pairwise_map]
        exact x.apart
  exact ⟨B.nolimit.keeps H.keep0, codeAny_func (wpAny_mono (k env s₁ keep ⟨h₁, tk, es⟩ X H FR hnone fresh (room_deeper hA env)) (fun _ _ q => q) fun _ _ e => e.elim)⟩

theorem SCall_fn {f : Addr} {fd : FuncData} {body : List Stmt} {names : List Str} {n : Nat} {args : List PV} (B : Base W) (F : FnAt W f fd body names n []) (hn : args.length = n)
    (hb : SS W D ⟨true, fd.scope, names.zip args⟩ body st (.ret pv) V' st') : SCall W (D + 1) (.ref f) args st pv st' := by
  intro A C s vals hA hH hr
  refine wpAny_call (enter B F hA hH hr .nil (hr.length.trans hn) fun env s₁ _ _ x₁ h₁ f₁ fr hs hA' => ?_)
  rw [List.append_nil] at f₁
  refine hb.bind hA' h₁ f₁ fun fl C₂ s₂ x₂ h₂ f₂ r₂ => ?_
  cases r₂ with | ret r =>
  exact ⟨C₂, (x₁.nil.trans x₂).hide fun a ha _ => fr a (frmW_sub ha), h₂, r⟩
end
end Mine

/-! part Lay15 -/
namespace Mine

inductive InitBody : List Stmt → List Str → Prop
  | nil : InitBody [] []
  | cons {b : List Stmt} {as : List Str} {a : Str} {p1 p2 p3 p4 : Pos} : InitBody b as → InitBody (.Assign [.Attribute (.Name "self" p1) a p2] (.Name a p3) p4 :: b) (a :: as)

structure ClsAt (W : Wd) (c fI : Addr) (fd : FuncData) (body : List Stmt) (attrs : List Str) (n : Nat) (dv : List Value) : Prop where
  makes : makesIn W.K c = true
  init : findIn W.K (.ref c) "__init__" = some (some (.ref fI))
  fn : typeIn W.K (.ref fI) = some (.type "function")
  fnat : FnAt W fI fd body ("self" :: attrs) (n + 1) dv
  loc : ∀ x ∈ (Str.ofString "self" :: attrs), fd.scope.names.lookup x = some .local
  nodbg : ∀ x ∈ (Str.ofString "self" :: attrs), (x == ("__debug__" : Str)) = false
  body : InitBody body attrs
  setattr : findIn W.K (.ref c) "__setattr__" = some (some (.builtin "object.__setattr__"))
  over : plainOver W.K c = true
  taker : ∀ a ∈ attrs, takerIn W.K c a = some none
  hasDict : hasDictIn W.K c = true
  few : attrs.length ≤ 100

section
variable {W : Wd} {D : Nat} {V V₁ V₂ V₃ V' : Vars} {st st₁ st₂ st₃ st' : St} {A : Around} {C C' : Cfg} {env : Env} {s s' : Shared} {v f : Value} {pv : PV} {l : List PV} {src : Src} {I : Addr} {pr X : List Addr} {i : Nat}

theorem repF_app {es : List DictEntry} {fs : List (Str × PV)} (r : RepF W.prog W.w C es fs) {h : Int} {k : Str} {t : Tok} {p : PV} (hv : Rep W.prog W.w C v p) : RepF W.prog W.w C (es ++ [⟨h, .str k t, v⟩]) (fs ++ [(k, p)]) := by
  induction es generalizing fs with
  | nil => cases r; exact .cons hv .nil
  | cons e es ih => cases r with | cons a r => exact .cons a (ih r)
theorem putL_new {es : List DictEntry} {fs : List (Str × PV)} (r : RepF W.prog W.w C es fs) {n : Str} (hn : fs.lookup n = none) (h : Int) (k u : Value) : putL n h k u es = es ++ [⟨h, k, u⟩] := by
  induction es generalizing fs with
  | nil => rfl
  | cons e es ih => cases r with
    | cons a r =>
      rename_i h' k' t v p ps
      rw [List.lookup_cons] at hn
      split at hn
      · cases hn
      · rename_i q
        have hk : (Value.str k' t).isStr n = false := by
          show (k' == n) = false
          exact beq_false_of_ne fun e => by rw [e] at q; simp at q
        unfold putL
        rw [hk]
        simp only [Bool.false_eq_true, if_false, ih r hn]
        rfl
theorem RepF.len {es : List DictEntry} {fs : List (Str × PV)} (r : RepF W.prog W.w C es fs) : es.length = fs.length := by
  induction es generalizing fs with
  | nil => cases r; rfl
  | cons e es ih => cases r with | cons a r => simp [ih r]

theorem init_run {c x dx L : Addr} {h₀ : Heap} {m : Str → Option Value} {body : List Stmt} {attrs : List Str} (hb : InitBody body attrs) (X₀ : W.K.In h₀)
    (hs : findIn W.K (.ref c) "__setattr__" = some (some (.builtin "object.__setattr__"))) (hp : plainOver W.K c = true) (hh : hasDictIn W.K c = true)
    (hxd : x ≠ dx) (hscope : env.scope = V.scope) (hkind : V.scope.kind = .function) (hL : env.locals = L) (hself : m (Str.ofString "self") = some (.ref x)) (lself : V.scope.names.lookup (Str.ofString "self") = some .local) :
    ∀ (fs : List (Str × PV)) (ps : List PV) (es : List DictEntry) (n : Nat) (s : Shared), (∀ a ∈ attrs, takerIn W.K c a = some none) → (∀ a ∈ attrs, V.scope.names.lookup a = some .local) → (∀ a ∈ attrs, (a == ("__debug__" : Str)) = false) →
      (∀ a p, (a, p) ∈ attrs.zip ps → ∃ v, m a = some v ∧ Rep W.prog W.w C v p) → attrs.length = ps.length → attrs.Nodup → (∀ a ∈ attrs, fs.lookup a = none) → fs.length + attrs.length ≤ 100 →
      RepF W.prog W.w C es fs → Fr h₀ L s.heap m → News h₀ L s.heap [(x, instObj c dx), (dx, dictOf es n)] →
      wpAny (model W.prog W.w) A (execs body env) (fun f s' => f = .next ∧ ∃ h' tk es' n', s' = { s with heap := h', toks := tk } ∧ Fr h₀ L h' m ∧ News h₀ L h' [(x, instObj c dx), (dx, dictOf es' n')] ∧ RepF W.prog W.w C es' (fs ++ attrs.zip ps)) noE s := by
  induction hb with
  | nil =>
    intro fs ps es n s _ _ _ _ _ _ _ _ rf F N
    exact wpAny_execs_nil ⟨rfl, s.heap, s.toks, es, n, rfl, F, N, by simpa using rf⟩
  | cons hb ih =>
    rename_i b as a p1 p2 p3 p4
    intro fs ps es n s ht hl hd hv hlen hnd hno hz rf F N
    cases ps with
    | nil => simp at hlen
    | cons p ps =>
      obtain ⟨v, hm, hr⟩ := hv a p (by simp)
      have na := hno a (by simp)
      have kf : ∀ y, env.kindOf y = V.scope.names.lookup y := fun y => by show env.scope.names.lookup y = _; rw [hscope]
      have hk : env.scope.kind = .function := by rw [hscope]; exact hkind
      refine wpAny_execs_cons (plainObj_wpAny_Assign_Attribute (wpAny_Name (wpAny_loadName_local hk (by rw [kf]; exact hl a (by simp)) (by rw [hL]; exact F.ns) hm ?_) (hd a (by simp))) rfl)
      refine wpAny_Name (wpAny_loadName_local hk (by rw [kf]; exact lself) (by rw [hL]; exact F.ns) hself ?_) (by decide)
      have Iat : InstAt s.heap x (instObj c dx) c (some (dictOf es n)) := ⟨(N (x, instObj c dx) (by simp)).1, rfl, rfl, (N (dx, dictOf es n) (by simp)).1⟩
      refine set_dict F X₀ N Iat rfl hs hp (ht a (by simp)) hh (by rw [repF_none rf na]; rfl) rfl (.tail hxd (.head (by simp))) ?_ fun h' F' N' => ?_
      · rw [putL_new rf na, List.length_append, rf.len]; simp at hz ⊢; omega
      · rw [putL_new rf na] at N'
        have := ih (fs ++ [(a, p)]) ps _ _ { s with heap := h', toks := s.toks + 2 } (fun y hy => ht y (List.mem_cons_of_mem _ hy)) (fun y hy => hl y (List.mem_cons_of_mem _ hy)) (fun y hy => hd y (List.mem_cons_of_mem _ hy))
          (fun y q hq => hv y q (by rw [List.zip_cons_cons]; exact List.mem_cons_of_mem _ hq)) (by simpa using hlen) (List.nodup_cons.mp hnd).2 (fun y hy => ?_) (by simp at hz ⊢; omega) (repF_app rf hr) F' N'
        · refine wpAny_mono this (fun f s' ⟨e, h'', tk, es', n', es, F'', N'', r''⟩ => ⟨e, h'', tk, es', n', by rw [es], F'', N'', by simpa using r''⟩) fun _ _ e => e
        · have hya : y ≠ a := fun e => (List.nodup_cons.mp hnd).1 (e ▸ hy)
          rw [List.lookup_append, hno y (List.mem_cons_of_mem _ hy)]
          simp [List.lookup_cons, beq_false_of_ne hya]

theorem room_type (hA : Room (D + 1) A) (c : Addr) (rest : List Value) : Room D (A.under (.builtin "type.__call__" ⟨.ref c :: rest, []⟩)) := by
  have e : A.under (.builtin "type.__call__" ⟨.ref c :: rest, []⟩) = { A with depth := A.depth + 1, units := A.units + 1 } := by
    unfold Around.under
    have h1 : (Code.builtin "type.__call__" ⟨.ref c :: rest, []⟩).weight = 1 := by rfl
    have h2 : (Code.builtin "type.__call__" ⟨.ref c :: rest, []⟩).envs = [] := by rfl
    have h3 : (Code.builtin "type.__call__" ⟨.ref c :: rest, []⟩).guards = [] := by rfl
    have h4 : (Code.builtin "type.__call__" ⟨.ref c :: rest, []⟩).cUnits = 1 := by rfl
    rw [h1, h2, h3, h4]
    rfl
  rw [e]
  exact ⟨hA.handled, by have := hA.depth; show A.depth + 1 + D < _; omega, by have := hA.units; show A.units + 1 + 8 * D + 100 < _; omega, hA.guards⟩

/-- a class is called -/
theorem SCall_new {c fI : Addr} {fd : FuncData} {body : List Stmt} {attrs : List Str} {n : Nat} {dv : List Value} {args dargs : List PV} (B : Base W) (T : ClsAt W c fI fd body attrs n dv) (hn : args.length = n) (hd : ∀ C, RepL W.prog W.w C dv dargs)
    (hlen : attrs.length = args.length + dargs.length) : SCall W (D + 2) (.ref c) args st (.obj c (attrs.zip (args ++ dargs))) st := by
  intro A C s vals hA hH hr
  refine wpAny_call ?_
  obtain ⟨hh, g, d, t, os⟩ := s
  have hin := hH.inK B
  refine make_core (makes_of hin T.makes) (looks_findIn hin T.init) (fun self => bind_fn hin self T.fn) (.inl rfl) ?_
  have hk : ∀ b o, hh.get? b = some o → ((hh.push emptyDict).push (instObj c hh.objs.size)).get? b = some o := fun b o e => Heap.get?_push_of_some _ (Heap.get?_push_of_some _ e)
  have H1 : HOK W C st ⟨(hh.push emptyDict).push (instObj c hh.objs.size), g, d, t, os⟩ := hH.keeps (tk := t) hk
  have X1 : Ext [] C ⟨hh, g, d, t, os⟩ C ⟨(hh.push emptyDict).push (instObj c hh.objs.size), g, d, t, os⟩ := Ext.keeps (tk := t) C ⟨hh, g, d, t, os⟩ hk
  have gx : ((hh.push emptyDict).push (instObj c hh.objs.size)).get? (hh.objs.size + 1) = some (instObj c hh.objs.size) := by
    have := Heap.get?_push_size (hh.push emptyDict) (o := instObj c hh.objs.size) rfl
    rwa [Heap.size_push] at this
  have gd : ((hh.push emptyDict).push (instObj c hh.objs.size)).get? hh.objs.size = some emptyDict := Heap.get?_push_of_some _ (Heap.get?_push_size _ rfl)
  have nx : hh.get? (hh.objs.size + 1) = none := by
    cases e : hh.get? (hh.objs.size + 1) with
    | none => rfl
    | some o => exact absurd (Heap.lt_size e) (Nat.not_lt.mpr (Nat.le_succ _))
  have nd : hh.get? hh.objs.size = none := get_size hh
  obtain ⟨x, hx⟩ : ∃ x, x = hh.objs.size + 1 := ⟨_, rfl⟩
  obtain ⟨dx, hdx⟩ : ∃ x, x = hh.objs.size := ⟨_, rfl⟩
  rw [← hx] at gx nx
  rw [← hx]
  rw [← hdx] at gx gd nd hk H1 X1
  rw [← hdx]
  have hxd : x ≠ dx := by rw [hx, hdx]; exact Nat.succ_ne_self _
  refine enter (D := D) (args := .raw x :: args) B T.fnat (room_type hA c vals) H1 (.cons (.raw x) hr) (hd C) (by rw [List.length_cons, hr.length, hn]) fun env s2 k2 e2 x2 h2 f2 fr2 sz2 hA2 => ?_
  obtain ⟨h2', tk2, e2⟩ := e2
  subst e2
  obtain ⟨m, hns, hm⟩ := f2.ns
  have K0 : W.K.In (hideAll ((hh.push emptyDict).push (instObj c dx)) [x, dx]) := fun a o e => by
    refine hideAll_get _ (hk _ _ (hin a o e)) ?_
    intro hm
    simp at hm
    rcases hm with rfl | rfl
    · have := hin _ o e; dsimp only at this; rw [nx] at this; cases this
    · have := hin _ o e; dsimp only at this; rw [nd] at this; cases this
  have F : Fr (hideAll ((hh.push emptyDict).push (instObj c dx)) [x, dx]) env.locals h2' m := ⟨hns, fun b o e => k2 b o (of_hideAll _ e), by rw [hideAll_size]; exact sz2⟩
  have hlt : ∀ b o, ((hh.push emptyDict).push (instObj c dx)).get? b = some o → b ≠ env.locals := fun b o e q => by
    have := Heap.lt_size e
    rw [q] at this
    exact absurd this (Nat.not_lt.mpr sz2)
  have N : News (hideAll ((hh.push emptyDict).push (instObj c dx)) [x, dx]) env.locals h2' [(x, instObj c dx), (dx, dictOf [] 0)] := fun p hp => by
    simp at hp
    rcases hp with rfl | rfl
    · exact ⟨k2 _ _ gx, hlt _ _ gx, hideAll_none _ (by simp)⟩
    · exact ⟨k2 _ _ gd, hlt _ _ gd, hideAll_none _ (by simp)⟩
  have hnd := T.fnat.nodup
  rw [List.nodup_cons] at hnd
  have hself : m (Str.ofString "self") = some (.ref x) := by
    obtain ⟨v, e, r⟩ := hm (Str.ofString "self") (.raw x) (T.loc _ (by simp)) (by show List.lookup _ _ = _; rw [List.cons_append, List.zip_cons_cons, List.lookup_cons]; simp)
    cases r; exact e
  have hattr : ∀ a p, (a, p) ∈ attrs.zip (args ++ dargs) → ∃ v, m a = some v ∧ Rep W.prog W.w C v p := fun a p hp => by
    have ha : a ∈ attrs := (List.of_mem_zip hp).1
    have hne : a ≠ Str.ofString "self" := fun e => hnd.1 (e ▸ ha)
    refine hm a p (T.loc a (List.mem_cons_of_mem _ ha)) ?_
    show List.lookup _ _ = _
    rw [List.cons_append, List.zip_cons_cons, List.lookup_cons, beq_false_of_ne hne]
    exact lookup_of_mem ((zip_fst_sub attrs (args ++ dargs)).nodup hnd.2) hp
  have run := init_run (W := W) (C := C) (A := (A.under (.builtin "type.__call__" ⟨.ref c :: vals, []⟩)).deeper env) (V := ⟨true, fd.scope, []⟩) (env := env) (L := env.locals) (m := m) T.body K0 T.setattr T.over T.hasDict hxd f2.scope T.fnat.kind rfl hself (T.loc _ (by simp)) [] (args ++ dargs) [] 0
    { heap := h2', gens := g, drawn := d, toks := tk2, os := os } T.taker (fun a ha => T.loc a (List.mem_cons_of_mem _ ha)) (fun a ha => T.nodbg a (List.mem_cons_of_mem _ ha)) hattr (by rw [List.length_append]; exact hlen) hnd.2 (fun _ _ => rfl) (by simpa using T.few) .nil F N
  refine wpAny_mono run (fun f s' ⟨ef, h', tk, es', n', es, F', N', rf⟩ => ?_) fun _ _ e => e
  subst ef
  subst es
  refine ⟨rfl, ?_⟩
  have hk' : ∀ b o, hh.get? b = some o → h'.get? b = some o := fun b o e => F'.keep b o (hideAll_get _ (hk b o e) (fun hm => by
    simp at hm
    rcases hm with rfl | rfl
    · rw [nx] at e; cases e
    · rw [nd] at e; cases e))
  have H3 : HOK W C st ⟨h', g, d, tk, os⟩ := hH.keeps (tk := tk) hk'
  have X3 : Ext [] C ⟨hh, g, d, t, os⟩ C ⟨h', g, d, tk, os⟩ := Ext.keeps (tk := tk) C ⟨hh, g, d, t, os⟩ hk'
  obtain ⟨gd1, gd2⟩ := hH.fresh (a := dx) nd
  obtain ⟨gx1, gx2⟩ := hH.fresh (a := x) nx
  have H4 := H3.freeze (N' (dx, dictOf es' n') (by simp)).1 gd1 gd2
  have X4 := X3.freeze (o := dictOf es' n') gd1 nd
  have gx1' : (C.add dx (dictOf es' n')).g x = none := by simpa [Cfg.add, hxd] using gx1
  have H5 := H4.freeze (N' (x, instObj c dx) (by simp)).1 gx1' gx2
  have X5 := X4.freeze (o := instObj c dx) gx1' nx
  show PostE W C _ st _ _ _
  refine ⟨_, X5, H5, .obj (dx := dx) (es := es') (n := n') (Cfg.add_self _ _ _) (by simp only [Cfg.add]; rw [if_neg (Ne.symm hxd)]; simp) (rf.mono ((CLe.add gd1).trans (CLe.add gx1')))⟩
end
end Mine

/-! part Lay16 -/
namespace Mine

section
variable {W : Wd} {D : Nat} {V V₁ V₂ V₃ V' : Vars} {st st₁ st₂ st₃ st' : St} {A : Around} {C C' : Cfg} {env : Env} {s s' : Shared} {v f : Value} {pv : PV} {l : List PV} {src : Src} {I : Addr} {pr X : List Addr} {i : Nat}

/-! sorted of a dict of ints -/
theorem keys_ints {kvs : List (Int × Value)} {as : List Value} (hl : as.length = kvs.length) (h : ∀ (j : Nat) (u : Value), as[j]? = some u → ∃ k x, kvs[j]? = some (k, x) ∧ (intKind W.prog W.w).is k u = true) : IntsAre as (kvs.map (·.1)) := by
  induction as generalizing kvs with
  | nil => cases kvs with | nil => exact .nil | cons k ks => simp at hl
  | cons a as ih => cases kvs with
    | nil => simp at hl
    | cons k ks =>
      obtain ⟨k', x, e, hk⟩ := h 0 a rfl
      simp at e
      have : Value.isInt k' a = true := by simpa [intKind] using hk
      obtain ⟨t, rfl⟩ := Value.isInt_shape this
      subst e
      exact .cons _ _ (ih (by simpa using hl) fun j u hj => by simpa using h (j + 1) u (by simpa using hj))
theorem repDI_keys {kvs : List (Int × Value)} {d : List (Int × PV)} (r : RepDI W.prog W.w C kvs d) : kvs.map (·.1) = d.map (·.1) := by
  induction kvs generalizing d with
  | nil => cases r; rfl
  | cons x xs ih => cases r with | cons a r => simp [ih r]
theorem SCall_sortedD {p : PV} {d : List (Int × PV)} {ms : List Int} (hl : AsDI st p d) (h64 : d.length < 64) (hp : ms.Perm (d.map (·.1))) (hs : ms.Pairwise (· ≤ ·)) : SCall W D (.builtin "sorted") [p] st (.lst (ms.map .int)) st := by
  intro A C s vals hA hH hr
  cases hr with | cons r rs =>
  cases rs
  obtain ⟨x, kvs, rfl, hm, hL, rl⟩ := hl.isDict hH r
  obtain ⟨ep, hat⟩ := hL.dictAt
  have hlen := rl.length
  refine Calls.call_function_entry kind_sorted plain_sorted entry_sorted (args_sorted1 _) ?_
  unfold Builtin.«sorted»
  refine wpAny_bind (m := checkCount "sorted" 1 1 _) (wpAny_pure ?_)
  refine wpAny_bind (kdu_collect (A := A.in1) (kdl_dict (knd := intKind W.prog W.w) (kvs := kvs) (ep := ep) hm) hA.handled hat (sl_of (by omega)) fun h' tk acc hk hacc => ?_)
  have hal : acc.toList.length = kvs.length := by rw [Array.length_toList]; exact hacc.1
  have hI : IntsAre acc.toList (kvs.map (·.1)) := keys_ints (W := W) hal fun j u hj => hacc.2 j u (by rw [← Array.getElem?_toList]; exact hj)
  refine wpAny_bind (wpAny_newList ?_ (by rw [hal]; exact sl_of (by omega)))
  have hoL : (h'.push (seqObj "list" acc.toList.toArray 0)).get? h'.objs.size = some (seqObj "list" acc.toList.toArray 0) := Heap.get?_push_size _ rfl
  show wpAny _ _ _ _ _ { s with heap := h'.push (seqObj "list" acc.toList.toArray 0), toks := tk }
  refine wpAny_bind (wpAny_holding (wpAny_call_entry slot_list_sort ⟨_, hoL, rfl⟩ entry_list_sort (list_sort_tree hoL hI (by omega) fun out ns' a1 a2 a3 => ⟨_, rfl, ?_⟩) (args_list_sort _)))
  refine wpAny_pure ⟨_, rfl, ?_⟩
  obtain ⟨e, he⟩ := sortedHeap_at (vs := acc.toList) (out := out) hoL
  have en : ns' = ms := by
    rw [repDI_keys rl] at a2
    exact sorted_unique (a2.trans hp.symm) a3 hs
  subst en
  have hold : ∀ b o, s.heap.get? b = some o → (sortedHeap (h'.push (seqObj "list" acc.toList.toArray 0)) h'.objs.size acc.toList out).get? b = some o := fun b o e => by
    have h1 := hk b o e
    rw [sortedHeap_old (Nat.ne_of_lt (Heap.lt_size h1)) (by rw [Heap.size_push]; exact Nat.lt_succ_of_lt (Heap.lt_size h1))]
    exact Heap.get?_push_of_some _ h1
  have hnew : s.heap.get? h'.objs.size = none := by
    cases q : s.heap.get? h'.objs.size with
    | none => rfl
    | some o => exact absurd (Heap.lt_size (hk _ _ q)) (Nat.lt_irrefl _)
  refine post_sorted (tk := tk) (ns := ns') hH hold hnew he a1 ?_
  have h1 : out.toList.length = ns'.length := a1.length
  have h2 := hp.length_eq
  simp at h2
  omega

/-! slices -/
theorem take_pick (items : Array Value) (b : Nat) : slicePick items none (some (b : Int)) none = (items.toList.take b).toArray := by
  unfold slicePick
  have e : sliceBounds none (some (b : Int)) none items.size = (0, ((min b items.size : Nat) : Int), 1) := by
    simp only [sliceBounds, Option.getD_none]
    have h2 : ¬ ((b : Int) < 0) := by omega
    simp only [h2, if_false, show (1 : Int) > 0 by decide, if_true]
    congr 2
    omega
  rw [e]
  have h1' : sliceRange 0 ((min b items.size : Nat) : Int) 1 = (List.range (min b items.size)).map (0 + ·) := by simpa using sliceRange_one 0 (min b items.size)
  dsimp only
  rw [h1', pick_run]
  congr 1
  rw [List.drop_zero, List.take_eq_take_iff]
  simp
theorem made_seq {h' : Heap} {tk : Nat} {vs : List Value} {ps : List PV} (hH : HOK W C st s) (hk : ∀ b o, s.heap.get? b = some o → h'.get? b = some o) (rl : RepL W.prog W.w C vs ps) (hz : vs.length ≤ 100000) :
    PostE W C s st (.lst ps) (.ref h'.objs.size) { s with heap := h'.push { cls := .type "list", data := .seq vs.toArray }, toks := tk } ∧
    PostE W C s st (.tup ps) (.ref h'.objs.size) { s with heap := h'.push { cls := .type "tuple", data := .seq vs.toArray }, toks := tk } := by
  obtain ⟨f1, f2⟩ := (hH.keeps (tk := tk) hk).fresh (get_size h')
  exact ⟨made (tk := tk) hH hk rfl (.lst (Cfg.add_self _ _ _) rfl rfl rfl (rl.mono (CLe.add f1)) hz), made (tk := tk) hH hk rfl (.tup (Cfg.add_self _ _ _) rfl rfl (rl.mono (CLe.add f1)) hz)⟩
theorem const_part {prog : Program} {w : World} {E : Value → Shared → Prop} {n : Int} {k : Nat} {p1 : Pos} {Q : Value → Shared → Prop} (h : Q (.int n s.toks) { s with toks := s.toks + 1 }) :
    wpAny (model prog w) A (evalPart (some (.Constant (.int n) k p1)) env) Q E s := fun _ _ _ => h
theorem SE_sliceTo {o : Expr} {k b : Nat} {p1 p2 pos : Pos} {po : PV} (ho : SE W D V o st po st₁) (hl : AsL st₁ po l) : SE W D V (.Subscript o (.Slice none (some (.Constant (.int (b : Int)) k p1)) none p2) pos) st (.lst (l.take b)) st₁ := by
  intro A C env s hA hH hF
  refine Subscript_ (ho.bind hA hH hF fun a C₁ s₁ x₁ h₁ f₁ r₁ => ?_)
  obtain ⟨x, items, rfl, hL, rl, z⟩ := hl.isList h₁ r₁
  refine wpAny_Slice (wpAny_pure (const_part (wpAny_pure ?_)))
  have hp := hL.push { cls := .type "slice", data := .fields #[.none, .int b s₁.toks, .none] }
  refine sub_tail hp.typeIs list_getitem_lookup (wpAny_getItem_list_slice hp (Heap.IsSliceOf.new ..) .none (.int _ _) .none (by simp) ?_ (by simp; exact sl_of z))
  rw [take_pick]
  exact ((made_seq (tk := s₁.toks + 1) h₁ (fun b o e => Heap.get?_push_of_some _ e) (rl.take b) (by simp; omega)).1).via x₁
/-- the script, which lies in the base as it was given -/
theorem SE_sliceRaw {x : Str} {xp : Pos} {k b : Nat} {p1 p2 pos : Pos} {a : Addr} {items : List Value} {ns : List Int} (ho : SE W D V (.Name x xp) st (.raw a) st) (hL : W.s₀.heap.IsList a items.toArray) (hI : IntsAre items ns) (z : items.length ≤ 100000) :
    SE W D V (.Subscript (.Name x xp) (.Slice none (some (.Constant (.int (b : Int)) k p1)) none p2) pos) st (.lst ((ns.take b).map .int)) st := by
  intro A C env s hA hH hF
  refine Subscript_ (ho.bind hA hH hF fun a C₁ s₁ x₁ h₁ f₁ r₁ => ?_)
  cases r₁
  have hL₁ : s₁.heap.IsList a items.toArray := let ⟨o, e, r⟩ := hL; ⟨o, h₁.keep0 _ _ e, r⟩
  have rl : RepL W.prog W.w C₁ items (ns.map .int) := RepL.of_ints hI
  refine wpAny_Slice (wpAny_pure (const_part (wpAny_pure ?_)))
  have hp := hL₁.push { cls := .type "slice", data := .fields #[.none, .int b s₁.toks, .none] }
  refine sub_tail hp.typeIs list_getitem_lookup (wpAny_getItem_list_slice hp (Heap.IsSliceOf.new ..) .none (.int _ _) .none (by simp) ?_ (by simp; exact sl_of z))
  rw [take_pick, List.map_take]
  exact ((made_seq (tk := s₁.toks + 1) h₁ (fun b o e => Heap.get?_push_of_some _ e) (rl.take b) (by simp; omega)).1).via x₁

theorem tuple_slice {prog : Program} {w : World} {E : Value → Shared → Prop} {t sl : Addr} {items : Array Value} {vl vu vs : Value} {lo hi stp : Option Int} {Q : Value → Shared → Prop} (ht : IsTup s.heap t items)
    (hs : s.heap.IsSliceOf sl vl vu vs) (pl : IsPart vl lo) (pu : IsPart vu hi) (ps : IsPart vs stp) (h0 : (stp.getD 1 == 0) = false)
    (hne : ((Builtin.Slice.sliceAdjust lo hi (stp.getD 1) items.size).1 == 0 && stp.getD 1 == 1 && Builtin.Slice.slicePlaces (Builtin.Slice.sliceAdjust lo hi (stp.getD 1) items.size).1 (Builtin.Slice.sliceAdjust lo hi (stp.getD 1) items.size).2 (stp.getD 1) == items.size) = false)
    (h : Q (.ref s.heap.objs.size) { s with heap := s.heap.push { cls := .type "tuple", data := .seq ((List.range (Builtin.Slice.slicePlaces (Builtin.Slice.sliceAdjust lo hi (stp.getD 1) items.size).1 (Builtin.Slice.sliceAdjust lo hi (stp.getD 1) items.size).2 (stp.getD 1))).filterMap fun (k : Nat) => items[((Builtin.Slice.sliceAdjust lo hi (stp.getD 1) items.size).1 + (k : Int) * (stp.getD 1)).toNat]?).toArray } })
    (hz : Builtin.Slice.slicePlaces (Builtin.Slice.sliceAdjust lo hi (stp.getD 1) items.size).1 (Builtin.Slice.sliceAdjust lo hi (stp.getD 1) items.size).2 (stp.getD 1) ≤ 100000) : wpAny (model prog w) A (getItem (.ref t) (.ref sl)) Q E s := by
  obtain ⟨os, hos, hcs, hds⟩ := id hs
  have hTs : s.TypeIs (.ref sl) "slice" := ⟨os, hos, hcs⟩
  have part : ∀ {v : Value} {p : Option Int} {Q : Option Int → Shared → Prop}, IsPart v p → Q p s → wpAny (model prog w) A.in1 (Builtin.Slice.slicePartIndex v) Q E s := fun h q => by
    cases h with
    | none => exact slicePart_none q
    | int i u => exact slicePart_int q
  unfold getItem
  try with_reducible refine wpAny_holding ?_
  first | refine wpAny_bind (wpAny_pure ?_) | skip
  refine wpAny_bind (wpAny_sequenceKey ht.typeIs (by decide) ?_)
  refine wpAny_bind (wpAny_callSpecial?_slot (name := Str.ofString "__getitem__") ht.typeIs PyProof.Rows.slot_tuple_getitem
    (wpAny_call_entry PyProof.Rows.slot_tuple_getitem ht.typeIs PyProof.Rows.entry_tuple_getitem ?_ (PyProof.Rows.args_tuple_getitem _ _)))
  show wpAny _ _ (Builtin.Tuple.tupleItemsOf (.ref t) >>= _) _ _ s
  refine wpAny_bind (tupleItemsOf_ ht ?_)
  refine wpAny_bind (wpAny_typeOf hTs ?_)
  rw [if_pos (by decide)]
  refine wpAny_bind ?_
  unfold Builtin.Slice.sliceApplied Builtin.Slice.sliceFields
  refine wpAny_bind (wpAny_bind (wpAny_field hos hds (x := vl) rfl (wpAny_bind (wpAny_field hos hds (x := vu) rfl (wpAny_bind (wpAny_field hos hds (x := vs) rfl (wpAny_pure ?_)))))))
  refine wpAny_bind (part ps ?_)
  show wpAny _ _ (if (stp.getD 1 == 0) = true then _ else _) _ _ s
  rw [if_neg (by rw [h0]; exact Bool.false_ne_true)]
  refine wpAny_bind (part pl (wpAny_bind (part pu (wpAny_bind (wpAny_pure ?_)))))
  refine wpAny_pure ?_
  show wpAny _ _ (if ((Builtin.Slice.sliceAdjust lo hi (stp.getD 1) items.size).1 == 0 && stp.getD 1 == 1 && Builtin.Slice.slicePlaces (Builtin.Slice.sliceAdjust lo hi (stp.getD 1) items.size).1 (Builtin.Slice.sliceAdjust lo hi (stp.getD 1) items.size).2 (stp.getD 1) == items.size) = true then _ else _) _ _ s
  rw [if_neg (by rw [hne]; exact Bool.false_ne_true)]
  have hdrop : sizeOk (.seq ((List.range (Builtin.Slice.slicePlaces (Builtin.Slice.sliceAdjust lo hi (stp.getD 1) items.size).1 (Builtin.Slice.sliceAdjust lo hi (stp.getD 1) items.size).2 (stp.getD 1))).filterMap fun (k : Nat) => items[((Builtin.Slice.sliceAdjust lo hi (stp.getD 1) items.size).1 + (k : Int) * (stp.getD 1)).toNat]?).toArray) := by
    show Array.size _ ≤ sizeLine
    rw [List.size_toArray]
    exact sl_of (Nat.le_trans (List.length_filterMap_le _ _) (by rw [List.length_range]; exact hz))
  exact wpAny_bind (m := Builtin.Tuple.tupleExact _) (wpAny_newObj_type (wpAny_pure ⟨_, rfl, wpAny_pure h⟩) hdrop)

theorem rev_pick (items : List Value) : ∀ n, n ≤ items.length → (List.range n).filterMap (fun (k : Nat) => items.toArray[((items.length : Int) - 1 + (k : Int) * -1).toNat]?) = items.reverse.take n
  | 0, _ => by simp
  | n + 1, h => by
    rw [List.range_succ, List.filterMap_append, rev_pick items n (by omega), List.take_add_one]
    congr 1
    have e : ((items.length : Int) - 1 + (n : Int) * -1).toNat = items.length - 1 - n := by omega
    rw [List.filterMap_cons, List.filterMap_nil, e, List.getElem?_reverse (by omega)]
    simp only [List.getElem?_toArray]
    cases items[items.length - 1 - n]? <;> rfl
theorem SE_slice14 {o : Expr} {k1 k2 : Nat} {p1 p2 p3 pos : Pos} {q0 q1 q2 q3 q4 : PV} (ho : SE W D V o st (.tup [q0, q1, q2, q3, q4]) st₁) :
    SE W D V (.Subscript o (.Slice (some (.Constant (.int 1) k1 p1)) (some (.Constant (.int 4) k2 p2)) none p3) pos) st (.tup [q1, q2, q3]) st₁ := by
  intro A C env s hA hH hF
  refine Subscript_ (ho.bind hA hH hF fun a C₁ s₁ x₁ h₁ f₁ r₁ => ?_)
  obtain ⟨x, items, rfl, hL, rl, z⟩ := rep_tup h₁ r₁
  refine wpAny_Slice (const_part (const_part (wpAny_pure ?_)))
  cases rl with | cons r0 rl =>
  cases rl with | cons r1 rl =>
  cases rl with | cons r2 rl =>
  cases rl with | cons r3 rl =>
  cases rl with | cons r4 rl =>
  cases rl
  rename_i v0 v1 v2 v3 v4
  have hp := hL.push { cls := .type "slice", data := .fields #[.int 1 s₁.toks, .int 4 (s₁.toks + 1), .none] }
  refine sub_tail hp.typeIs PyProof.Rows.slot_tuple_getitem.lookup (tuple_slice (lo := some 1) (hi := some 4) (stp := none) hp (Heap.IsSliceOf.new ..) (.int _ _) (.int _ _) .none (by rfl) (by rfl) ?_ (by show Builtin.Slice.slicePlaces 1 4 1 ≤ 100000; decide))
  exact ((made_seq (tk := s₁.toks + 1 + 1) h₁ (fun b o e => Heap.get?_push_of_some _ e) (.cons r1 (.cons r2 (.cons r3 .nil))) (by simp)).2).via x₁
theorem SE_sliceRev {o : Expr} {k1 : Nat} {p1 p2 p3 pos : Pos} (ho : SE W D V o st (.tup l) st₁) :
    SE W D V (.Subscript o (.Slice none none (some (.UnaryOp .USub (.Constant (.int 1) k1 p1) p2)) p3) pos) st (.tup l.reverse) st₁ := by
  intro A C env s hA hH hF
  refine Subscript_ (ho.bind hA hH hF fun a C₁ s₁ x₁ h₁ f₁ r₁ => ?_)
  obtain ⟨x, items, rfl, hL, rl, z⟩ := rep_tup h₁ r₁
  refine wpAny_Slice (wpAny_pure (wpAny_pure ?_))
  show wpAny _ _ (eval (.UnaryOp .USub (.Constant (.int 1) k1 p1) p2) env) _ _ _
  refine wpAny_UnaryOp (wpAny_Constant_int (PyProof.Rows.neg_int ?_))
  have hp := hL.push { cls := .type "slice", data := .fields #[.none, .none, .int (-1) (s₁.toks + 1)] }
  have e1 : Builtin.Slice.sliceAdjust none none (-1) (items.toArray.size : Int) = ((items.length : Int) - 1, -1) := by
    unfold Builtin.Slice.sliceAdjust; simp
  have e2 : Builtin.Slice.slicePlaces ((items.length : Int) - 1) (-1) (-1) = items.length := by
    unfold Builtin.Slice.slicePlaces
    simp
    split <;> omega
  refine sub_tail hp.typeIs PyProof.Rows.slot_tuple_getitem.lookup (tuple_slice (lo := none) (hi := none) (stp := some (-1)) hp (Heap.IsSliceOf.new ..) .none .none (.int _ _) (by rfl) ?_ ?_ ?_)
  · simp
  · simp only [Option.getD_some]
    rw [e1]
    dsimp only
    rw [e2]
    have e3 : (List.range items.length).filterMap (fun (k : Nat) => items.toArray[((items.length : Int) - 1 + (k : Int) * -1).toNat]?) = items.reverse := by
      rw [rev_pick items items.length (Nat.le_refl _), List.take_of_length_le (by simp)]
    rw [e3]
    exact ((made_seq (tk := s₁.toks + 1 + 1) h₁ (fun b o e => Heap.get?_push_of_some _ e) rl.reverse (by simpa using z)).2).via x₁
  · simp only [Option.getD_some]
    rw [e1]
    dsimp only
    rw [e2]; exact z
end
end Mine

/-! part Lay17 -/
namespace Mine

section
variable {W : Wd} {D : Nat} {V V₁ V₂ V₃ V' : Vars} {st st₁ st₂ st₃ st' : St} {A : Around} {C C' : Cfg} {env : Env} {s s' : Shared} {v f : Value} {pv : PV} {l : List PV} {src : Src} {I : Addr} {pr X : List Addr} {i : Nat}

theorem keys_miss {prog : Program} {w : World} {E : Value → Shared → Prop} {a : Addr} {o : Obj} {xs : Array Value} {k : Nat} {Q : Option Value → Shared → Prop}
    (hx : s.heap.get? a = some o) (hc : o.cls = .type "list") (hdat : o.data = .seq xs k) (hd : o.dict = none) (hA : A.handled = none)
    (h : ∀ h' tk, (∀ b o, s.heap.get? b = some o → h'.get? b = some o) → Q none { s with heap := h', toks := tk }) :
    wpAny (model prog w) A (getAttr? (.ref a) "keys") Q E s := by
  obtain ⟨c, dct, dat, sl⟩ := o
  simp only at hc hdat hd
  subst hc hdat hd
  obtain ⟨hp, g, d, tk, os⟩ := s
  have hT : ∀ tk', (⟨hp, g, d, tk', os⟩ : Shared).TypeIs (.ref a) "list" := fun _ => ⟨_, hx, rfl⟩
  have f1 := sub_AttributeError
  have f3 := PySem.F.slot_list_getattribute.lookup
  have f4 := PySem.F.slot_list_getattribute.bind (.ref a)
  have f5 := am_list_getattr_none
  have hmiss : typeLookup (.type "list") (Str.ofString "keys") = pure none := am_miss_of_fast (by decide +kernel)
  unfold getAttr?
  refine wpAny_bind (wpAny_mkText ?_)
  unfold getAttrBy?
  refine wpAny_bind (wpAny_attempt ?_)
  unfold getAttrBy
  repeat (any_goals (first | assumption | exact hT _ | ((with_reducible show wpAny _ _ (call (Value.builtin "list.__getattribute__") _ _) _ _ _); refine call_meets PySem.F.slot_list_getattribute (hT _) am_entry_list_getattribute (PySem.F.args_list_getattribute_2 _ _) (meets_getattribute_miss_list a xs k sl (Str.ofString "keys") _ hmiss (by decide) (by size_fits)) ⟨hx, hA, fun h' tk' e hx' => ?_⟩) | wp_step))
  obtain ⟨t', u', he⟩ := hx'.there
  show wpAny _ _ (getattributeRaised _ _ _ _ _ _ _) _ _ _
  unfold getattributeRaised
  repeat (any_goals (first | assumption | wp_step))
  exact h _ _ hx'.keeps

theorem entry_dul : entryFor table "dict.update.loop" = some Builtin.«dict.update.loop» := entryFor_of_tree (by kernel_rfl)
theorem plain_dul : plainId "dict.update.loop" = true := by decide +kernel

theorem RepDS.keys {kvs : List (Str × Value)} {d : List (Str × PV)} (r : RepDS W.prog W.w C kvs d) : kvs.map (·.1) = d.map (·.1) := by
  induction kvs generalizing d with
  | nil => cases r; rfl
  | cons x xs ih => cases r with | cons a r => simp [ih r]
theorem RepDS.app {kvs : List (Str × Value)} {d : List (Str × PV)} (r : RepDS W.prog W.w C kvs d) {k : Str} {p : PV} (hr : Rep W.prog W.w C v p) : RepDS W.prog W.w C (kvs ++ [(k, v)]) (d ++ [(k, p)]) := by
  induction kvs generalizing d with
  | nil => cases r; exact .cons hr .nil
  | cons x xs ih => cases r with | cons a r => exact .cons a (ih r)
/-- the pairs that are still to come -/
theorem pairs_loop {dx I ax : Addr} (pairs : List (Str × PV)) (lk : Rep W.prog W.w C (.ref ax) (.lst (pairs.map fun q => .tup [.str q.1, q.2]))) (hdx : (dx == sysModules) = false) (hz : pairs.length ≤ 100000)
    {R : Result → Shared → Prop} (hA : A.handled = none) (hnd : (pairs.map (·.1)).Nodup) :
    ∀ (n i : Nat) (s : Shared) (kvs : List (Str × Value)), pairs.length - i = n → i ≤ pairs.length → HOK W C st s → C.g dx = none → dx ∉ C.ρ → C.g I = none → I ∉ C.ρ → I ≠ dx → s.heap.IsListIter I ax i → s.heap.DictOf (PySem.strKind W.prog W.w) dx kvs → RepDS W.prog W.w C kvs (pairs.take i) →
      (∀ h' tk kvs', (∀ b o, b ≠ dx → b ≠ I → s.heap.get? b = some o → h'.get? b = some o) → h'.DictOf (PySem.strKind W.prog W.w) dx kvs' → RepDS W.prog W.w C kvs' pairs → R (.ok (.ret .none)) { s with heap := h', toks := tk }) →
      codeAny (model W.prog W.w) A (.builtin "dict.update.loop" ⟨[.ref dx, .ref I, rawInt (i : Int), .none], []⟩) R s := by
  intro n
  induction n with
  | zero =>
    intro i s kvs hn hi hH g1 g2 g3 g4 hne hit hd hr hR
    refine codeAny_builtin entry_dul ?_
    rw [Around.under_plainId plain_dul _]
    obtain ⟨x, items, e, hL, rl, z⟩ := AsL.lst.isList hH lk
    cases e
    have hlen := rl.length
    simp at hlen
    have ei : i = pairs.length := by omega
    show wpAny _ _ (pyNext (.ref I) >>= _) _ _ s
    refine wpAny_bind (wpAny_pyNext_list_end (by exact hA) hit hL (by simp; omega) fun h' he => ?_)
    show wpAny _ _ (Builtin.Dict.addKeywords dx [] >>= _) _ _ _
    refine wpAny_bind (wpAny_pure (wpAny_pure ?_))
    refine hR h' s.toks kvs (fun b o n1 n2 e => he b o n2 e) (hd.extBut he (Ne.symm hne)) ?_
    rw [ei] at hr
    simpa using hr
  | succ n ih =>
    intro i s kvs hn hi hH g1 g2 g3 g4 hne hit hd hr hR
    refine codeAny_builtin entry_dul ?_
    rw [Around.under_plainId plain_dul _]
    obtain ⟨x, items, e, hL, rl, z⟩ := AsL.lst.isList hH lk
    cases e
    have hlt : i < pairs.length := by omega
    obtain ⟨u, hu, ru⟩ := rl.get (i := i) (p := .tup [.str (pairs[i]).1, (pairs[i]).2]) (by simp [hlt])
    obtain ⟨T, titems, rfl, hT, rt, zt⟩ := rep_tup hH ru
    cases rt with | cons rk rt =>
    cases rt with | cons rv rt =>
    cases rt
    rename_i kv vv
    cases rk with | str _ tk0 =>
    show wpAny _ _ (pyNext (.ref I) >>= _) _ _ s
    have nTI : T ≠ I := by rintro rfl; cases ru with | tup e => rw [g3] at e; cases e
    refine wpAny_bind (wpAny_pyNext_list_item hit hL (by simpa using hu) fun h₁ hit₁ hs₁ => ?_)
    have hT₁ : IsTup h₁ T [Value.str (pairs[i]).1 tk0, vv].toArray := hT.extBut hs₁.extBut nTI
    have hd₁ := hd.sameBut hs₁ (Ne.symm hne)
    refine wpAny_bind (wpAny_holding (wpAny_bind (wpAny_tryCatch ?_)))
    unfold Builtin.Dict.pairItems
    refine wpAny_bind (wpAny_typeOf (T := "tuple") hT₁.typeIs ?_)
    rw [if_pos (by decide)]
    obtain ⟨oT, hoT, _, nT, hdT⟩ := hT₁
    refine wpAny_bind (wpAny_seqItems hoT hdT (wpAny_pure ?_))
    show wpAny _ _ (holding [Value.str (pairs[i]).1 tk0, vv] (dictSet dx (.str (pairs[i]).1 tk0) vv)) _ _ _
    have hkl := hr
    have hlk : kvs.length ≤ 100000 := by
      have : kvs.length = (pairs.take i).length := by
        have := congrArg List.length hr.keys
        simpa using this
      rw [this, List.length_take]; omega
    refine wpAny_holding (wpAny_dictSet_pairs (knd := PySem.strKind W.prog W.w) (k := (pairs[i]).1) (by simp [PySem.strKind, Value.isStrOf]) hd₁ (fun h₂ hd₂ hs₂ => ?_) (sl_of hlk))
    have hs₂' : Heap.SameBut dx h₁ h₂ := hs₂
    refine wpAny_pure ⟨plainId_quiet plain_dul _, ?_⟩
    have ekeep : ∀ b o, b ≠ dx → b ≠ I → s.heap.get? b = some o → h₂.get? b = some o := fun b o n1 n2 e => hs₂'.extBut b o n1 (hs₁.extBut b o n2 e)
    have hst : stored kvs (pairs[i]).1 vv = kvs ++ [((pairs[i]).1, vv)] := by
      unfold stored
      rw [if_neg]
      intro hany
      rw [List.any_eq_true] at hany
      obtain ⟨q, hq, e⟩ := hany
      simp at e
      have hm : q.1 ∈ (pairs.take i).map (·.1) := by rw [← hr.keys]; exact List.mem_map_of_mem (f := (·.1)) hq
      rw [e, List.map_take] at hm
      obtain ⟨j, hj⟩ := List.getElem?_of_mem hm
      have hji : j < i := by
        have := (List.getElem?_eq_some_iff.mp hj).1
        rw [List.length_take] at this
        omega
      rw [List.getElem?_take_of_lt hji] at hj
      have hi2 : (pairs.map (·.1))[i]? = some (pairs[i]).1 := by simp [hlt]
      have := (List.getElem?_inj (by simp; omega) hnd).mp (hj.trans hi2.symm)
      omega
    have hr' : RepDS W.prog W.w C (stored kvs (pairs[i]).1 vv) (pairs.take (i + 1)) := by
      rw [hst, List.take_add_one]
      have : pairs[i]?.toList = [((pairs[i]).1, (pairs[i]).2)] := by rw [List.getElem?_eq_getElem hlt]; rfl
      rw [this]
      exact hr.app rv
    have H₂ : HOK W C st { s with heap := h₂, toks := s.toks + 1 } := hH.frameL (pr := [dx, I]) (tk := s.toks + 1) (fun b o n e => ekeep b o (fun q => n (by simp [q])) (fun q => n (by simp [q])) e) (fun a ha => by simp at ha; rcases ha with rfl | rfl <;> assumption) (fun a ha => by simp at ha; rcases ha with rfl | rfl <;> assumption)
    have := ih (i + 1) { s with heap := h₂, toks := s.toks + 1 } _ (by omega) hlt H₂ g1 g2 g3 g4 hne (hit₁.extBut hs₂'.extBut hne) hd₂ hr' (fun h' tk kvs' k d r => hR h' tk kvs' (fun b o n1 n2 e => k b o n1 n2 (ekeep b o n1 n2 e)) d r)
    exact this

/-- dict of a list of pairs whose keys are strs -/
theorem SCall_dictP (B : Base W) {pairs : List (Str × PV)} (hnd : (pairs.map (·.1)).Nodup) (hz : pairs.length ≤ 100000) : SCall W D (.type "dict") [.lst (pairs.map fun q => .tup [.str q.1, q.2])] st (.dictS pairs) st := by
  intro A C s vals hA hH hr
  cases hr with | cons r rs =>
  cases rs
  have r' := r
  cases r' with | lst e1 e2 e4 e3 rl z =>
  rename_i l o items nn
  have ho := hH.ghost _ _ e1
  have hlen := rl.length
  simp at hlen
  refine callType_codes (Q₁ := fun obj s₁ => obj = .ref s.heap.objs.size ∧ s₁ = { s with heap := s.heap.push { cls := .type "dict", data := .dict #[] } }) PySem.F.kt_called_dict (PySem.F.kt_typeCall_dict_1 _) PySem.F.entry_dict_init (kt_code_dict_new _ ⟨rfl, rfl⟩) ?_
  rintro obj s₁ ⟨rfl, rfl⟩
  have hnew : (s.heap.push { cls := .type "dict", data := .dict #[] }).DictOf (PySem.strKind W.prog W.w) s.heap.objs.size [] := Heap.DictOf.new s.heap
  have ho' := Heap.get?_push_of_some { cls := .type "dict", data := .dict #[] } ho
  refine ⟨hnew.typeIs, PySem.F.args_dict_init_2 _ _, ?_⟩
  unfold Builtin.«dict.__init__»
  refine wpAny_bind ?_
  unfold Builtin.Dict.selfAndRest
  refine wpAny_bind (wpAny_notOrdered_dict hnew.typeIs ?_)
  show wpAny _ _ (pure (s.heap.objs.size, [Value.ref l])) _ _ _
  refine wpAny_pure ?_
  show wpAny _ _ (Builtin.Dict.updateFrom "dict.__init__" s.heap.objs.size (.ref l) [] .none) _ _ _
  unfold Builtin.Dict.updateFrom
  refine wpAny_bind (wpAny_typeOf (T := "list") ⟨_, ho', e2⟩ ?_)
  rw [if_pos (by decide)]
  refine wpAny_bind (keys_miss ho' e2 e3 e4 (by exact hA.handled) fun h₁ tk₁ hk₁ => ?_)
  have hk01 : ∀ b o, s.heap.get? b = some o → h₁.get? b = some o := fun b o e => hk₁ b o (Heap.get?_push_of_some _ e)
  have hL₁ : h₁.IsList l items.toArray := ⟨o, hk01 _ _ ho, e2, nn, e3⟩
  show wpAny _ _ (rule _ >>= _) _ _ _
  refine wpAny_bind (wpAny_rule (wpAny_bind (wpAny_pyIter_list hL₁ ?_)))
  refine wpAny_pure ⟨plainId_quiet plain_dul _, ?_⟩
  have gI : (h₁.push { cls := .type "list_iterator", data := .fields #[.ref l, .int 0 0] }).IsListIter h₁.objs.size l 0 := ⟨_, Heap.get?_push_size _ rfl, rfl, rfl⟩
  have hd₁ : h₁.DictOf (PySem.strKind W.prog W.w) s.heap.objs.size [] := hnew.at fun o e => hk₁ _ o e
  have hdI : h₁.objs.size ≠ s.heap.objs.size := by
    obtain ⟨o, es, ep, e, _⟩ := hd₁
    exact Nat.ne_of_gt (Heap.lt_size e)
  have nI : s.heap.get? h₁.objs.size = none := by
    cases q : s.heap.get? h₁.objs.size with
    | none => rfl
    | some o => exact absurd (Heap.lt_size (hk01 _ _ q)) (Nat.lt_irrefl _)
  obtain ⟨f1, f2⟩ := hH.fresh (get_size s.heap)
  obtain ⟨f3, f4⟩ := hH.fresh nI
  have hkI : ∀ b o, s.heap.get? b = some o → (h₁.push { cls := .type "list_iterator", data := .fields #[.ref l, .int 0 0] }).get? b = some o := fun b o e => Heap.get?_push_of_some _ (hk01 b o e)
  have H₂ := hH.keeps (tk := tk₁) hkI
  refine pairs_loop (W := W) (C := C) (st := st) (ax := l) (dx := s.heap.objs.size) (I := h₁.objs.size) pairs r (hH.notMods B) hz (by exact hA.handled) hnd pairs.length 0 _ [] (by omega) (Nat.zero_le _) H₂ f1 f2 f3 f4 hdI gI (hd₁.push _) (by simpa using .nil) fun h' tk kvs' k d rd => ?_
  show Value.none = Value.none ∧ PostE W C s st _ _ _
  refine ⟨rfl, ?_⟩
  obtain ⟨od, hod, hdd⟩ := Heap.dictOf_iff.mp d
  have hk' : ∀ b o, s.heap.get? b = some o → h'.get? b = some o := fun b o e => k b o (Nat.ne_of_lt (Heap.lt_size e)) (fun q => by rw [q, nI] at e; cases e) (hkI b o e)
  exact added (W := W) (C := C) (st := st) (tk := tk) hH hk' (get_size s.heap) hod (.dictS (Cfg.add_self _ _ _) (hH.notMods B) hdd (rd.mono (CLe.add f1)))

/-- three names take a display of three, the stores exchanged -/
theorem SX_AssignSw {ts es : List Expr} {k k' : Nat} {tp vp pos : Pos} {n1 n2 n3 : Str} {p1 p2 p3 : PV} (h : SE W D V (.Tuple es k' vp) st (.tup [p1, p2, p3]) st₁)
    (hw : ∀ env : Env, env.scope = V.scope → swappedStores [.Tuple ts k tp] (.Tuple es k' vp) env = pure (some [n1, n2, n3]))
    (h1 : V.scope.names.lookup n1 = some .local) (h2 : V.scope.names.lookup n2 = some .local) (h3 : V.scope.names.lookup n3 = some .local) :
    SX W D V (.Assign [.Tuple ts k tp] (.Tuple es k' vp) pos) st .next (((V.set n3 p3).set n2 p2).set n1 p1) st₁ := by
  intro A C env s hA hH hF
  refine Assign_Tuple_swapped (h.bind hA hH hF fun v C₁ s₁ x₁ h₁ f₁ r₁ => ?_) swap_tuple (hw env hF.scope)
  refine unpack_seq hA h₁ .tup r₁ rfl fun vs s₂ x₂ h₂ rl => ?_
  cases rl with | cons r1 rl =>
  cases rl with | cons r2 rl =>
  cases rl with | cons r3 rl =>
  cases rl
  have f₂ := f₁.ext x₂ (by simp)
  show wpAny _ _ (assignInOrder [bindName env n3, bindName env n2, bindName env n1] _) _ _ _
  refine wpAny_assignInOrder_more (wpAny_bindName (store_local h3 h₂ f₂ r3 fun s₃ x₃ h₃ f₃ => ?_))
  refine wpAny_assignInOrder_more (wpAny_bindName (store_local (V := V.set n3 p3) h2 h₃ f₃ r2 fun s₄ x₄ h₄ f₄ => ?_))
  refine wpAny_assignInOrder_more (wpAny_bindName (store_local (V := (V.set n3 p3).set n2 p2) h1 h₄ f₄ r1 fun s₅ x₅ h₅ f₅ => ?_))
  exact wpAny_pure ⟨C₁, (((x₁.nil.trans x₂.nil).trans x₃).trans x₄).trans x₅, h₅, f₅, .next⟩
end
end Mine

/-! part Lay18 -/
namespace Mine

section
variable {W : Wd} {D D' : Nat} {V V₁ V₂ V₃ V' : Vars} {st st₁ st₂ st₃ st' : St} {f : Value} {pv : PV} {l : List PV} {src : Src}

theorem SCall.le {args : List PV} (h : SCall W D f args st pv st') (hd : D ≤ D') : SCall W D' f args st pv st' := fun A C s vals hA hH hr => h A C s vals (hA.le hd) hH hr

theorem SCall_fn' {f : Addr} {fd : FuncData} {body : List Stmt} {names : List Str} {n : Nat} {args : List PV} (B : Base W) (F : FnAt W f fd body names n []) (hn : args.length = n)
    (hb : ∃ V', SS W D ⟨true, fd.scope, names.zip args⟩ body st (.ret pv) V' st') : SCall W (D + 1) (.ref f) args st pv st' := let ⟨_, h⟩ := hb; SCall_fn B F hn h
theorem SS_nil_eq (h : st = st') : SS W D V [] st .next V st' := h ▸ SS_nil
theorem SS_one {x : Stmt} {fl : Flo} (h : SX W D V x st fl V₁ st₁) (e : st₁ = st') : SS W D V [x] st fl V₁ st' := by
  subst e
  intro A C env s hA hH hF
  refine wpAny_execs_cons (h.bind hA hH hF fun f C₁ s₁ x₁ h₁ f₁ r₁ => ?_)
  cases r₁ with
  | next => exact wpAny_execs_nil ⟨C₁, x₁, h₁, f₁, .next⟩
  | cont => exact ⟨C₁, x₁, h₁, f₁, .cont⟩
  | ret r => exact ⟨C₁, x₁, h₁, f₁, .ret r⟩
theorem SE.to {x : Expr} (h : SE W D V x st pv st₁) (e : st₁ = st') : SE W D V x st pv st' := e ▸ h
theorem set_last {α : Type} (l : List α) (a b : α) : (l ++ [a]).set l.length b = l ++ [b] := by simp
theorem get_last {α : Type} (l : List α) (a : α) : (l ++ [a])[l.length]? = some a := by simp
theorem pstored_new {d : List (Int × PV)} {k : Int} {p : PV} (h : ∀ q ∈ d, q.1 ≠ k) : pstored d k p = d ++ [(k, p)] := by
  unfold pstored
  rw [if_neg]
  intro hany
  rw [List.any_eq_true] at hany
  obtain ⟨q, hq, e⟩ := hany
  exact h q hq (by simpa using e)
theorem vle_set {x : Str} {p : PV} (h : V.vars.lookup x = none) : VLe V (V.set x p) := ⟨rfl, rfl, fun y q hq => by
  show (setv x p V.vars).lookup y = _
  rw [lookup_setv]
  by_cases e : y = x
  · subst e; rw [h] at hq; cases hq
  · rw [if_neg e]; exact hq⟩
theorem VLe.trans (a : VLe V V₁) (b : VLe V₁ V₂) : VLe V V₂ := ⟨a.own.trans b.own, a.scope.trans b.scope, fun x p h => b.vars x p (a.vars x p h)⟩

/-- a loop whose turns all go on -/
theorem ForL_fold {t : Expr} {body : List Stmt} (V : Nat → Vars) (S : Nat → St) (hit : ∀ i, i ≤ l.length → Items (S i) src l)
    (h : ∀ i p, l[i]? = some p → ∃ V₁ st₁ V₂ fl, SA W D (V i) t p (S i) V₁ st₁ ∧ SS W D V₁ body st₁ fl V₂ (S (i + 1)) ∧ (fl = .next ∨ fl = .cont) ∧ VLe (V (i + 1)) V₂) :
    ForL W D t body src l 0 (V 0) (S 0) .next (V l.length) (S l.length) := by
  have key : ∀ n i, l.length - i = n → i ≤ l.length → ForL W D t body src l i (V i) (S i) .next (V l.length) (S l.length) := by
    intro n
    induction n with
    | zero =>
      intro i hn hi
      have : i = l.length := by omega
      subst this
      exact .done (Nat.le_refl _) (hit _ (Nat.le_refl _))
    | succ n ih =>
      intro i hn hi
      have hlt : i < l.length := by omega
      obtain ⟨V₁, st₁, V₂, fl, a, b, c, d⟩ := h i l[i] (List.getElem?_eq_getElem hlt)
      exact .step (List.getElem?_eq_getElem hlt) (hit i hi) a b c d (ih (i + 1) (by omega) hlt)
  exact key _ 0 rfl (Nat.zero_le _)

theorem ForL_fold' {t : Expr} {body : List Stmt} {st0 stn : St} (V : Vars) (S : Nat → St) (h0 : S 0 = st0) (hn : S l.length = stn) (hit : ∀ i, i ≤ l.length → Items (S i) src l)
    (h : ∀ i p, l[i]? = some p → ∃ V₁ st₁ V₂ fl, SA W D V t p (S i) V₁ st₁ ∧ SS W D V₁ body st₁ fl V₂ (S (i + 1)) ∧ (fl = .next ∨ fl = .cont) ∧ VLe V V₂) :
    ForL W D t body src l 0 V st0 .next V stn := by
  subst h0 hn
  exact ForL_fold (fun _ => V) S hit h
/-- a comprehension without an if, which leaves the store alone -/
theorem CL1_map {t elt : Expr} (g : PV → PV) (hit : Items st src l) (h : ∀ p ∈ l, ∃ V₁, SA W D V t p st V₁ st ∧ SE W D V₁ elt st (g p) st ∧ VLe V V₁) : CL1 W D t [] elt src l 0 V st (l.map g) V st := by
  have key : ∀ n i, l.length - i = n → i ≤ l.length → CL1 W D t [] elt src l i V st ((l.drop i).map g) V st := by
    intro n
    induction n with
    | zero =>
      intro i hn hi
      rw [List.drop_eq_nil_of_le (by omega)]
      exact .done (by omega) hit
    | succ n ih =>
      intro i hn hi
      have hlt : i < l.length := by omega
      obtain ⟨V₁, a, b, c⟩ := h l[i] (List.getElem_mem hlt)
      rw [List.drop_eq_getElem_cons hlt, List.map_cons]
      exact .take (List.getElem?_eq_getElem hlt) hit a .nil b c (ih (i + 1) (by omega) hlt)
  simpa using key _ 0 rfl (Nat.zero_le _)
/-- with one if -/
theorem CL1_filter {t elt c : Expr} (q : PV → Bool) (g : PV → PV) (hit : Items st src l) (h : ∀ p ∈ l, ∃ V₁, SA W D V t p st V₁ st ∧ ST W D V₁ c st (q p) st ∧ (q p = true → SE W D V₁ elt st (g p) st) ∧ VLe V V₁) :
    CL1 W D t [c] elt src l 0 V st ((l.filter q).map g) V st := by
  have key : ∀ n i, l.length - i = n → i ≤ l.length → CL1 W D t [c] elt src l i V st (((l.drop i).filter q).map g) V st := by
    intro n
    induction n with
    | zero =>
      intro i hn hi
      rw [List.drop_eq_nil_of_le (by omega)]
      exact .done (by omega) hit
    | succ n ih =>
      intro i hn hi
      have hlt : i < l.length := by omega
      obtain ⟨V₁, a, b, d, e⟩ := h l[i] (List.getElem_mem hlt)
      rw [List.drop_eq_getElem_cons hlt, List.filter_cons]
      cases hq : q l[i] with
      | true =>
        rw [hq] at b
        rw [if_pos rfl, List.map_cons]
        exact .take (List.getElem?_eq_getElem hlt) hit a (.tt b .nil) (d hq) e (ih (i + 1) (by omega) hlt)
      | false =>
        rw [hq] at b
        rw [if_neg (by simp)]
        exact .skip (List.getElem?_eq_getElem hlt) hit a (.ff b) e (ih (i + 1) (by omega) hlt)
  simpa using key _ 0 rfl (Nat.zero_le _)
/-- with a store that turns -/
theorem CL1_fold {t elt : Expr} (S : Nat → St) (g : Nat → PV) (hit : ∀ i, i ≤ l.length → Items (S i) src l) (h : ∀ i p, l[i]? = some p → ∃ V₁, SA W D V t p (S i) V₁ (S i) ∧ SE W D V₁ elt (S i) (g i) (S (i + 1)) ∧ VLe V V₁) :
    CL1 W D t [] elt src l 0 V (S 0) ((List.range l.length).map g) V (S l.length) := by
  have key : ∀ n i, l.length - i = n → i ≤ l.length → CL1 W D t [] elt src l i V (S i) (((List.range l.length).drop i).map g) V (S l.length) := by
    intro n
    induction n with
    | zero =>
      intro i hn hi
      have : i = l.length := by omega
      subst this
      rw [List.drop_eq_nil_of_le (by simp)]
      exact .done (Nat.le_refl _) (hit _ (Nat.le_refl _))
    | succ n ih =>
      intro i hn hi
      have hlt : i < l.length := by omega
      obtain ⟨V₁, a, b, c⟩ := h i l[i] (List.getElem?_eq_getElem hlt)
      rw [List.drop_eq_getElem_cons (by simpa using hlt), List.map_cons, List.getElem_range]
      exact .take (List.getElem?_eq_getElem hlt) (hit i hi) a .nil b c (ih (i + 1) (by omega) hlt)
  simpa using key _ 0 rfl (Nat.zero_le _)
/-- two clauses -/
theorem CL2_flat {t iter2 t2 elt : Expr} {ifs2 : List Expr} (g : PV → List PV) (hit : Items st src l)
    (h : ∀ p ∈ l, ∃ V₁ src2 l2 V₂, SA W D V t p st V₁ st ∧ SI W D V₁ iter2 st src2 st ∧ EOK src2 t2 ∧ CL1 W D t2 ifs2 elt src2 l2 0 V₁ st (g p) V₂ st ∧ VLe V V₂) :
    CL2 W D t [] iter2 t2 ifs2 elt src l 0 V st (l.flatMap g) V st := by
  have key : ∀ n i, l.length - i = n → i ≤ l.length → CL2 W D t [] iter2 t2 ifs2 elt src l i V st ((l.drop i).flatMap g) V st := by
    intro n
    induction n with
    | zero =>
      intro i hn hi
      rw [List.drop_eq_nil_of_le (by omega)]
      exact .done (by omega) hit
    | succ n ih =>
      intro i hn hi
      have hlt : i < l.length := by omega
      obtain ⟨V₁, src2, l2, V₂, a, b, c, d, e⟩ := h l[i] (List.getElem_mem hlt)
      rw [List.drop_eq_getElem_cons hlt, List.flatMap_cons]
      exact .deep (List.getElem?_eq_getElem hlt) hit a .nil b c d e (ih (i + 1) (by omega) hlt)
  simpa using key _ 0 rfl (Nat.zero_le _)
/-- two clauses over a store that turns -/
theorem CL2_fold {t iter2 t2 elt : Expr} {ifs2 : List Expr} (S : Nat → St) (g : Nat → List PV) (hit : ∀ i, i ≤ l.length → Items (S i) src l)
    (h : ∀ i p, l[i]? = some p → ∃ V₁ src2 st₃ l2 V₂, SA W D V t p (S i) V₁ (S i) ∧ SI W D V₁ iter2 (S i) src2 st₃ ∧ EOK src2 t2 ∧ CL1 W D t2 ifs2 elt src2 l2 0 V₁ st₃ (g i) V₂ (S (i + 1)) ∧ VLe V V₂) :
    CL2 W D t [] iter2 t2 ifs2 elt src l 0 V (S 0) ((List.range l.length).flatMap g) V (S l.length) := by
  have key : ∀ n i, l.length - i = n → i ≤ l.length → CL2 W D t [] iter2 t2 ifs2 elt src l i V (S i) (((List.range l.length).drop i).flatMap g) V (S l.length) := by
    intro n
    induction n with
    | zero =>
      intro i hn hi
      have : i = l.length := by omega
      subst this
      rw [List.drop_eq_nil_of_le (by simp)]
      exact .done (Nat.le_refl _) (hit _ (Nat.le_refl _))
    | succ n ih =>
      intro i hn hi
      have hlt : i < l.length := by omega
      obtain ⟨V₁, src2, st₃, l2, V₂, a, b, c, d, e⟩ := h i l[i] (List.getElem?_eq_getElem hlt)
      rw [List.drop_eq_getElem_cons (by simpa using hlt), List.flatMap_cons, List.getElem_range]
      exact .deep (List.getElem?_eq_getElem hlt) (hit i hi) a .nil b c d e (ih (i + 1) (by omega) hlt)
  simpa using key _ 0 rfl (Nat.zero_le _)
end
end Mine

/-! part Fn0 -/
namespace Mine

section
variable {W : Wd} {D : Nat} {V V₁ V₂ V' : Vars} {st st₁ st₂ st' : St} {pv : PV} {e : Expr} {es : List Expr} {ps args : List PV} {np pos : Pos}

theorem call_coverage_of (hK : W.K = HdT.K39 W.w.params) (B : Base W) (hk : V.scope.names.lookup (Str.ofString "coverage_of") = some .globalImplicit) (hs : SEs W D V (e :: es) st ps st₁) (hc : SCall W D (.ref 70) ps st₁ pv st₂) (hp : (e :: es).any starry = false) :
    SE W D V (.Call (.Name (Str.ofString "coverage_of") np) (e :: es) [] pos) st pv st₂ :=
  SE_Call B (NameIs.global B hk (by rw [hK]; kernel_rfl)) (keep_ref (by rw [hK]; kernel_rfl)) hs hc hp

theorem call_tests_of (hK : W.K = HdT.K39 W.w.params) (B : Base W) (hk : V.scope.names.lookup (Str.ofString "tests_of") = some .globalImplicit) (hs : SEs W D V (e :: es) st ps st₁) (hc : SCall W D (.ref 153) ps st₁ pv st₂) (hp : (e :: es).any starry = false) :
    SE W D V (.Call (.Name (Str.ofString "tests_of") np) (e :: es) [] pos) st pv st₂ :=
  SE_Call B (NameIs.global B hk (by rw [hK]; kernel_rfl)) (keep_ref (by rw [hK]; kernel_rfl)) hs hc hp

theorem call_rule_tests (hK : W.K = HdT.K39 W.w.params) (B : Base W) (hk : V.scope.names.lookup (Str.ofString "rule_tests") = some .globalImplicit) (hs : SEs W D V (e :: es) st ps st₁) (hc : SCall W D (.ref 160) ps st₁ pv st₂) (hp : (e :: es).any starry = false) :
    SE W D V (.Call (.Name (Str.ofString "rule_tests") np) (e :: es) [] pos) st pv st₂ :=
  SE_Call B (NameIs.global B hk (by rw [hK]; kernel_rfl)) (keep_ref (by rw [hK]; kernel_rfl)) hs hc hp

theorem call_rules_at (hK : W.K = HdT.K39 W.w.params) (B : Base W) (hk : V.scope.names.lookup (Str.ofString "rules_at") = some .globalImplicit) (hs : SEs W D V (e :: es) st ps st₁) (hc : SCall W D (.ref 165) ps st₁ pv st₂) (hp : (e :: es).any starry = false) :
    SE W D V (.Call (.Name (Str.ofString "rules_at") np) (e :: es) [] pos) st pv st₂ :=
  SE_Call B (NameIs.global B hk (by rw [hK]; kernel_rfl)) (keep_ref (by rw [hK]; kernel_rfl)) hs hc hp

theorem call_glyph_of_name (hK : W.K = HdT.K39 W.w.params) (B : Base W) (hk : V.scope.names.lookup (Str.ofString "glyph_of_name") = some .globalImplicit) (hs : SEs W D V (e :: es) st ps st₁) (hc : SCall W D (.ref 214) ps st₁ pv st₂) (hp : (e :: es).any starry = false) :
    SE W D V (.Call (.Name (Str.ofString "glyph_of_name") np) (e :: es) [] pos) st pv st₂ :=
  SE_Call B (NameIs.global B hk (by rw [hK]; kernel_rfl)) (keep_ref (by rw [hK]; kernel_rfl)) hs hc hp

theorem call_glyphs_of_names (hK : W.K = HdT.K39 W.w.params) (B : Base W) (hk : V.scope.names.lookup (Str.ofString "glyphs_of_names") = some .globalImplicit) (hs : SEs W D V (e :: es) st ps st₁) (hc : SCall W D (.ref 219) ps st₁ pv st₂) (hp : (e :: es).any starry = false) :
    SE W D V (.Call (.Name (Str.ofString "glyphs_of_names") np) (e :: es) [] pos) st pv st₂ :=
  SE_Call B (NameIs.global B hk (by rw [hK]; kernel_rfl)) (keep_ref (by rw [hK]; kernel_rfl)) hs hc hp

theorem call_is_of_glyphs (hK : W.K = HdT.K39 W.w.params) (B : Base W) (hk : V.scope.names.lookup (Str.ofString "is_of_glyphs") = some .globalImplicit) (hs : SEs W D V (e :: es) st ps st₁) (hc : SCall W D (.ref 224) ps st₁ pv st₂) (hp : (e :: es).any starry = false) :
    SE W D V (.Call (.Name (Str.ofString "is_of_glyphs") np) (e :: es) [] pos) st pv st₂ :=
  SE_Call B (NameIs.global B hk (by rw [hK]; kernel_rfl)) (keep_ref (by rw [hK]; kernel_rfl)) hs hc hp

theorem call_actions_of (hK : W.K = HdT.K39 W.w.params) (B : Base W) (hk : V.scope.names.lookup (Str.ofString "actions_of") = some .globalImplicit) (hs : SEs W D V (e :: es) st ps st₁) (hc : SCall W D (.ref 231) ps st₁ pv st₂) (hp : (e :: es).any starry = false) :
    SE W D V (.Call (.Name (Str.ofString "actions_of") np) (e :: es) [] pos) st pv st₂ :=
  SE_Call B (NameIs.global B hk (by rw [hK]; kernel_rfl)) (keep_ref (by rw [hK]; kernel_rfl)) hs hc hp

theorem call_glyph_rule (hK : W.K = HdT.K39 W.w.params) (B : Base W) (hk : V.scope.names.lookup (Str.ofString "glyph_rule") = some .globalImplicit) (hs : SEs W D V (e :: es) st ps st₁) (hc : SCall W D (.ref 236) ps st₁ pv st₂) (hp : (e :: es).any starry = false) :
    SE W D V (.Call (.Name (Str.ofString "glyph_rule") np) (e :: es) [] pos) st pv st₂ :=
  SE_Call B (NameIs.global B hk (by rw [hK]; kernel_rfl)) (keep_ref (by rw [hK]; kernel_rfl)) hs hc hp

theorem call_cover_rule (hK : W.K = HdT.K39 W.w.params) (B : Base W) (hk : V.scope.names.lookup (Str.ofString "cover_rule") = some .globalImplicit) (hs : SEs W D V (e :: es) st ps st₁) (hc : SCall W D (.ref 241) ps st₁ pv st₂) (hp : (e :: es).any starry = false) :
    SE W D V (.Call (.Name (Str.ofString "cover_rule") np) (e :: es) [] pos) st pv st₂ :=
  SE_Call B (NameIs.global B hk (by rw [hK]; kernel_rfl)) (keep_ref (by rw [hK]; kernel_rfl)) hs hc hp

theorem call_glyphs_chain (hK : W.K = HdT.K39 W.w.params) (B : Base W) (hk : V.scope.names.lookup (Str.ofString "glyphs_chain") = some .globalImplicit) (hs : SEs W D V (e :: es) st ps st₁) (hc : SCall W D (.ref 248) ps st₁ pv st₂) (hp : (e :: es).any starry = false) :
    SE W D V (.Call (.Name (Str.ofString "glyphs_chain") np) (e :: es) [] pos) st pv st₂ :=
  SE_Call B (NameIs.global B hk (by rw [hK]; kernel_rfl)) (keep_ref (by rw [hK]; kernel_rfl)) hs hc hp

theorem call_chain_tables (hK : W.K = HdT.K39 W.w.params) (B : Base W) (hk : V.scope.names.lookup (Str.ofString "chain_tables") = some .globalImplicit) (hs : SEs W D V (e :: es) st ps st₁) (hc : SCall W D (.ref 255) ps st₁ pv st₂) (hp : (e :: es).any starry = false) :
    SE W D V (.Call (.Name (Str.ofString "chain_tables") np) (e :: es) [] pos) st pv st₂ :=
  SE_Call B (NameIs.global B hk (by rw [hK]; kernel_rfl)) (keep_ref (by rw [hK]; kernel_rfl)) hs hc hp

theorem call_fits (hK : W.K = HdT.K39 W.w.params) (B : Base W) (hk : V.scope.names.lookup (Str.ofString "fits") = some .globalImplicit) (hs : SEs W D V (e :: es) st ps st₁) (hc : SCall W D (.ref 262) ps st₁ pv st₂) (hp : (e :: es).any starry = false) :
    SE W D V (.Call (.Name (Str.ofString "fits") np) (e :: es) [] pos) st pv st₂ :=
  SE_Call B (NameIs.global B hk (by rw [hK]; kernel_rfl)) (keep_ref (by rw [hK]; kernel_rfl)) hs hc hp

theorem call_law_draw (hK : W.K = HdT.K39 W.w.params) (B : Base W) (hk : V.scope.names.lookup (Str.ofString "_law_draw") = some .globalImplicit) (hs : SEs W D V (e :: es) st ps st₁) (hc : SCall W D (.ref 311) ps st₁ pv st₂) (hp : (e :: es).any starry = false) :
    SE W D V (.Call (.Name (Str.ofString "_law_draw") np) (e :: es) [] pos) st pv st₂ :=
  SE_Call B (NameIs.global B hk (by rw [hK]; kernel_rfl)) (keep_ref (by rw [hK]; kernel_rfl)) hs hc hp

theorem call_law_sets (hK : W.K = HdT.K39 W.w.params) (B : Base W) (hk : V.scope.names.lookup (Str.ofString "_law_sets") = some .globalImplicit) (hs : SEs W D V (e :: es) st ps st₁) (hc : SCall W D (.ref 317) ps st₁ pv st₂) (hp : (e :: es).any starry = false) :
    SE W D V (.Call (.Name (Str.ofString "_law_sets") np) (e :: es) [] pos) st pv st₂ :=
  SE_Call B (NameIs.global B hk (by rw [hK]; kernel_rfl)) (keep_ref (by rw [hK]; kernel_rfl)) hs hc hp

theorem call_law_fits (hK : W.K = HdT.K39 W.w.params) (B : Base W) (hk : V.scope.names.lookup (Str.ofString "_law_fits") = some .globalImplicit) (hs : SEs W D V (e :: es) st ps st₁) (hc : SCall W D (.ref 322) ps st₁ pv st₂) (hp : (e :: es).any starry = false) :
    SE W D V (.Call (.Name (Str.ofString "_law_fits") np) (e :: es) [] pos) st pv st₂ :=
  SE_Call B (NameIs.global B hk (by rw [hK]; kernel_rfl)) (keep_ref (by rw [hK]; kernel_rfl)) hs hc hp

theorem call_law_hit (hK : W.K = HdT.K39 W.w.params) (B : Base W) (hk : V.scope.names.lookup (Str.ofString "_law_hit") = some .globalImplicit) (hs : SEs W D V (e :: es) st ps st₁) (hc : SCall W D (.ref 327) ps st₁ pv st₂) (hp : (e :: es).any starry = false) :
    SE W D V (.Call (.Name (Str.ofString "_law_hit") np) (e :: es) [] pos) st pv st₂ :=
  SE_Call B (NameIs.global B hk (by rw [hK]; kernel_rfl)) (keep_ref (by rw [hK]; kernel_rfl)) hs hc hp

theorem call_Coverage (hK : W.K = HdT.K39 W.w.params) (B : Base W) (hk : V.scope.names.lookup (Str.ofString "Coverage") = some .globalImplicit) (hs : SEs W D V (e :: es) st ps st₁) (hc : SCall W D (.ref 59) ps st₁ pv st₂) (hp : (e :: es).any starry = false) :
    SE W D V (.Call (.Name (Str.ofString "Coverage") np) (e :: es) [] pos) st pv st₂ :=
  SE_Call B (NameIs.global B hk (by rw [hK]; kernel_rfl)) (keep_ref (by rw [hK]; kernel_rfl)) hs hc hp

theorem call_Rule (hK : W.K = HdT.K39 W.w.params) (B : Base W) (hk : V.scope.names.lookup (Str.ofString "Rule") = some .globalImplicit) (hs : SEs W D V (e :: es) st ps st₁) (hc : SCall W D (.ref 101) ps st₁ pv st₂) (hp : (e :: es).any starry = false) :
    SE W D V (.Call (.Name (Str.ofString "Rule") np) (e :: es) [] pos) st pv st₂ :=
  SE_Call B (NameIs.global B hk (by rw [hK]; kernel_rfl)) (keep_ref (by rw [hK]; kernel_rfl)) hs hc hp

theorem call_Contexts (hK : W.K = HdT.K39 W.w.params) (B : Base W) (hk : V.scope.names.lookup (Str.ofString "Contexts") = some .globalImplicit) (hs : SEs W D V (e :: es) st ps st₁) (hc : SCall W D (.ref 144) ps st₁ pv st₂) (hp : (e :: es).any starry = false) :
    SE W D V (.Call (.Name (Str.ofString "Contexts") np) (e :: es) [] pos) st pv st₂ :=
  SE_Call B (NameIs.global B hk (by rw [hK]; kernel_rfl)) (keep_ref (by rw [hK]; kernel_rfl)) hs hc hp

theorem call_RuleRow (hK : W.K = HdT.K39 W.w.params) (B : Base W) (hk : V.scope.names.lookup (Str.ofString "RuleRow") = some .globalImplicit) (hs : SEs W D V (e :: es) st ps st₁) (hc : SCall W D (.ref 300) ps st₁ pv st₂) (hp : (e :: es).any starry = false) :
    SE W D V (.Call (.Name (Str.ofString "RuleRow") np) (e :: es) [] pos) st pv st₂ :=
  SE_Call B (NameIs.global B hk (by rw [hK]; kernel_rfl)) (keep_ref (by rw [hK]; kernel_rfl)) hs hc hp

theorem call_len (B : Base W) (hk : V.scope.names.lookup (Str.ofString "len") = some .globalImplicit) (hs : SE W D V e st pv st₁) {r : PV} (hc : SCall W D (.builtin "len") [pv] st₁ r st₂) (hp : starry e = false) :
    SE W D V (.Call (.Name (Str.ofString "len") np) [e] [] pos) st r st₂ :=
  SE_Call B (NameIs.builtin B hk (by decide) rfl) keep_builtin (SEs_cons hs SEs_nil hp) hc (by simp [hp])

theorem call_int (B : Base W) (hk : V.scope.names.lookup (Str.ofString "int") = some .globalImplicit) (hs : SE W D V e st pv st₁) {r : PV} (hc : SCall W D (.type "int") [pv] st₁ r st₂) (hp : starry e = false) :
    SE W D V (.Call (.Name (Str.ofString "int") np) [e] [] pos) st r st₂ :=
  SE_Call B (NameIs.builtin B hk (by decide) rfl) keep_type (SEs_cons hs SEs_nil hp) hc (by simp [hp])

theorem call_sum (B : Base W) (hk : V.scope.names.lookup (Str.ofString "sum") = some .globalImplicit) (hs : SE W D V e st pv st₁) {r : PV} (hc : SCall W D (.builtin "sum") [pv] st₁ r st₂) (hp : starry e = false) :
    SE W D V (.Call (.Name (Str.ofString "sum") np) [e] [] pos) st r st₂ :=
  SE_Call B (NameIs.builtin B hk (by decide) rfl) keep_builtin (SEs_cons hs SEs_nil hp) hc (by simp [hp])

theorem call_sorted (B : Base W) (hk : V.scope.names.lookup (Str.ofString "sorted") = some .globalImplicit) (hs : SE W D V e st pv st₁) {r : PV} (hc : SCall W D (.builtin "sorted") [pv] st₁ r st₂) (hp : starry e = false) :
    SE W D V (.Call (.Name (Str.ofString "sorted") np) [e] [] pos) st r st₂ :=
  SE_Call B (NameIs.builtin B hk (by decide) rfl) keep_builtin (SEs_cons hs SEs_nil hp) hc (by simp [hp])

theorem call_tuple (B : Base W) (hk : V.scope.names.lookup (Str.ofString "tuple") = some .globalImplicit) (hs : SE W D V e st pv st₁) {r : PV} (hc : SCall W D (.type "tuple") [pv] st₁ r st₂) (hp : starry e = false) :
    SE W D V (.Call (.Name (Str.ofString "tuple") np) [e] [] pos) st r st₂ :=
  SE_Call B (NameIs.builtin B hk (by decide) rfl) keep_type (SEs_cons hs SEs_nil hp) hc (by simp [hp])

theorem call_list (B : Base W) (hk : V.scope.names.lookup (Str.ofString "list") = some .globalImplicit) (hs : SE W D V e st pv st₁) {r : PV} (hc : SCall W D (.type "list") [pv] st₁ r st₂) (hp : starry e = false) :
    SE W D V (.Call (.Name (Str.ofString "list") np) [e] [] pos) st r st₂ :=
  SE_Call B (NameIs.builtin B hk (by decide) rfl) keep_type (SEs_cons hs SEs_nil hp) hc (by simp [hp])

theorem call_max (B : Base W) (hk : V.scope.names.lookup (Str.ofString "max") = some .globalImplicit) (hs : SE W D V e st pv st₁) {r : PV} (hc : SCall W D (.builtin "max") [pv] st₁ r st₂) (hp : starry e = false) :
    SE W D V (.Call (.Name (Str.ofString "max") np) [e] [] pos) st r st₂ :=
  SE_Call B (NameIs.builtin B hk (by decide) rfl) keep_builtin (SEs_cons hs SEs_nil hp) hc (by simp [hp])

theorem call_str (B : Base W) (hk : V.scope.names.lookup (Str.ofString "str") = some .globalImplicit) (hs : SE W D V e st pv st₁) {r : PV} (hc : SCall W D (.type "str") [pv] st₁ r st₂) (hp : starry e = false) :
    SE W D V (.Call (.Name (Str.ofString "str") np) [e] [] pos) st r st₂ :=
  SE_Call B (NameIs.builtin B hk (by decide) rfl) keep_type (SEs_cons hs SEs_nil hp) hc (by simp [hp])

theorem call_dict (B : Base W) (hk : V.scope.names.lookup (Str.ofString "dict") = some .globalImplicit) (hs : SE W D V e st pv st₁) {r : PV} (hc : SCall W D (.type "dict") [pv] st₁ r st₂) (hp : starry e = false) :
    SE W D V (.Call (.Name (Str.ofString "dict") np) [e] [] pos) st r st₂ :=
  SE_Call B (NameIs.builtin B hk (by decide) rfl) keep_type (SEs_cons hs SEs_nil hp) hc (by simp [hp])

theorem is_range (B : Base W) (hk : V.scope.names.lookup (Str.ofString "range") = some .globalImplicit) : NameIs W V "range" (.type "range") := NameIs.builtin B hk (by decide) rfl
theorem is_enumerate (B : Base W) (hk : V.scope.names.lookup (Str.ofString "enumerate") = some .globalImplicit) : NameIs W V "enumerate" (.type "enumerate") := NameIs.builtin B hk (by decide) rfl
theorem glob_BY_GLYPHS (hK : W.K = HdT.K39 W.w.params) (B : Base W) (hk : V.scope.names.lookup (Str.ofString "BY_GLYPHS") = some .globalImplicit) : SE W D V (.Name (Str.ofString "BY_GLYPHS") np) st (.int 1) st := SE_name (f := .int 1 _) (NameIs.global B hk (by rw [hK]; rfl)) (fun _ _ => .int _ _)
theorem glob_BY_CLASSES (hK : W.K = HdT.K39 W.w.params) (B : Base W) (hk : V.scope.names.lookup (Str.ofString "BY_CLASSES") = some .globalImplicit) : SE W D V (.Name (Str.ofString "BY_CLASSES") np) st (.int 2) st := SE_name (f := .int 2 _) (NameIs.global B hk (by rw [hK]; rfl)) (fun _ _ => .int _ _)
theorem glob_BY_COVERAGES (hK : W.K = HdT.K39 W.w.params) (B : Base W) (hk : V.scope.names.lookup (Str.ofString "BY_COVERAGES") = some .globalImplicit) : SE W D V (.Name (Str.ofString "BY_COVERAGES") np) st (.int 3) st := SE_name (f := .int 3 _) (NameIs.global B hk (by rw [hK]; rfl)) (fun _ _ => .int _ _)

end
end Mine

/-! part Fn1 -/
namespace Mine

def covPV (gs : List Int) : PV := .obj 59 [("glyphs", .tup (gs.map .int))]

theorem cls_Coverage {W : Wd} (hK : W.K = HdT.K39 W.w.params) : ∃ fd body, ClsAt W 59 35 fd body [Str.ofString "glyphs"] 1 [] := by
  refine ⟨_, _, ⟨by rw [hK]; kernel_rfl, by rw [hK]; kernel_rfl, by rw [hK]; kernel_rfl, ⟨⟨_, _, _, by rw [hK]; rfl⟩, rfl, rfl, rfl, rfl, by rw [hK]; kernel_rfl, rfl, rfl, rfl, by decide, by decide, by decide, by decide, ?_⟩, by decide, by decide, .cons .nil, by rw [hK]; kernel_rfl, by rw [hK]; kernel_rfl, (by rw [hK]; intro a ha; (repeat (rcases List.mem_cons.mp ha with rfl | ha; · kernel_rfl)); cases ha), by rw [hK]; kernel_rfl, by decide⟩⟩
  intro s vals hin hl
  match vals, hl with
  | [a, b], _ => exact BindsTo.of_eq rfl

theorem new_Coverage {W : Wd} (hK : W.K = HdT.K39 W.w.params) (B : Base W) {D : Nat} {st : St} {p : PV} : SCall W (D + 2) (.ref 59) [p] st (.obj 59 [("glyphs", p)]) st := by
  obtain ⟨fd, body, T⟩ := cls_Coverage hK
  exact SCall_new (dargs := []) B T rfl (fun _ => .nil) rfl
theorem keep_59 {W : Wd} (hK : W.K = HdT.K39 W.w.params) : Keep W (.ref 59) := keep_ref (by rw [hK]; kernel_rfl)

theorem c_coverage_of {W : Wd} (hK : W.K = HdT.K39 W.w.params) (B : Base W) {D : Nat} {st : St} {gs : List Int} (hs : gs.Pairwise (· < ·)) (hz : gs.length < 60) :
    SCall W (D + 3) (.ref 70) [.tup (gs.map .int)] st (covPV gs) (st ++ [.dict (gs.map fun g => (g, .bool true))]) := by
  refine SCall_fn' (D := D + 2) B (names := [Str.ofString "glyphs"]) (n := 1)
    ⟨⟨_, _, _, by rw [hK]; rfl⟩, rfl, rfl, rfl, rfl, by rw [hK]; kernel_rfl, rfl, rfl, rfl, by decide, by decide, by decide, by decide, ?_⟩ rfl ?_
  · intro s vals hin hl
    match vals, hl with
    | [a], _ => exact BindsTo.of_eq rfl
  apply Exists.intro
  apply SS_cons (SX_Assign (SE_DictM B) (.inl rfl))
  apply SS_cons
  · apply SX_For (src := .tup (gs.map .int)) (l := gs.map .int)
    · apply SI_tup
      exact SE_local rfl rfl
    · refine ForL_fold' _ (fun i => st ++ [.dict ((gs.take i).map fun g => (g, .bool true))]) rfl rfl (fun _ _ => .tup) ?_
      intro i p hp
      rw [List.getElem?_map] at hp
      obtain ⟨g, hg, rfl⟩ := Option.map_eq_some_iff.mp hp
      apply Exists.intro
      apply Exists.intro
      apply Exists.intro
      apply Exists.intro
      apply And.intro
      · exact SA_name (.inl rfl)
      apply And.intro
      · apply SS_one
        · apply SX_setD (d := (gs.take i).map fun g => (g, .bool true))
          · exact SE_bool
          · exact SE_local rfl rfl
          · exact SE_local rfl rfl
          · exact get_last _ _
          · simp; omega
        · rw [set_last]
          have hi : i < gs.length := (List.getElem?_eq_some_iff.mp hg).1
          rw [List.take_add_one, hg, pstored_new]
          · simp
          · intro q hq
            simp only [List.mem_map] at hq
            obtain ⟨x, hx, rfl⟩ := hq
            obtain ⟨j, hj⟩ := List.getElem?_of_mem hx
            have hji : j < i := by
              have := (List.getElem?_eq_some_iff.mp hj).1
              rw [List.length_take] at this; omega
            rw [List.getElem?_take_of_lt hji] at hj
            obtain ⟨h1, e1⟩ := List.getElem?_eq_some_iff.mp hj
            obtain ⟨h2, e2⟩ := List.getElem?_eq_some_iff.mp hg
            have := List.pairwise_iff_getElem.mp hs j i h1 h2 hji
            rw [e1, e2] at this
            exact Int.ne_of_lt this
      · exact ⟨.inl rfl, vle_set rfl⟩
    all_goals rfl
  apply SS_one
  · apply SX_Return
    apply call_Coverage hK B
    · rfl
    · apply SEs_cons
      · apply call_tuple B
        · rfl
        · apply call_sorted B
          · rfl
          · exact SE_local rfl rfl
          · apply SCall_sortedD (d := gs.map fun g => (g, .bool true)) (ms := gs)
            · rw [List.length_map, List.take_of_length_le (Nat.le_refl _)]
              exact .mref (get_last _ _)
            · simp; omega
            · simp [Function.comp_def]
            · exact hs.imp Int.le_of_lt
          · rfl
        · exact SCall_tupleL .lst
        · rfl
      · exact SEs_nil
      · rfl
    · exact new_Coverage hK B
    · rfl
  · simp
end Mine

/-! part Lay19 -/
namespace Mine

section
variable {W : Wd} {D D' : Nat} {V V₁ V₂ V₃ V' : Vars} {st st₁ st₂ st₃ st' : St} {f : Value} {pv : PV} {l : List PV} {src : Src} {C : Cfg} {s : Shared}

theorem HOK.frameX {h' : Heap} {tk : Nat} {a : Addr} (h : HOK W C st s) (hs : Heap.SameBut a s.heap h') (h1 : C.g a = none) (h2 : a ∉ C.ρ) : HOK W C st { s with heap := h', toks := tk } := h.frame hs h1 h2

/-- a display of one pair, as a value -/
theorem SE_Dict1 (B : Base W) {ke e : Expr} {k : Int} {pos : Pos} (hk : SE W D V ke st (.int k) st₁) (he : SE W D V e st₁ pv st₂) : SE W D V (.Dict [some ke] [e] pos) st (.dictI [(k, pv)]) st₂ := by
  intro A C env s hA hH hF
  refine wpAny_Dict_pairs (knd := intKind W.prog W.w) (pairs := [(eval ke env, do let x ← eval e env; standAt pos; pure x)]) rfl (by simp) (by simp) ?_
  have hk0 : ∀ b o, s.heap.get? b = some o → (s.heap.push { cls := .type "dict", data := .dict #[] }).get? b = some o := fun b o e => Heap.get?_push_of_some _ e
  have H0 := hH.keeps (tk := s.toks) hk0
  have X0 := Ext.keeps (tk := s.toks) C s hk0
  have F0 := hF.ext X0 (by simp)
  obtain ⟨f1, f2⟩ := hH.fresh (get_size s.heap)
  have g0 : (s.heap.push { cls := .type "dict", data := .dict #[] }).get? s.heap.objs.size = some { cls := .type "dict", data := .dict #[] } := Heap.get?_push_size _ rfl
  refine evalPairs_cons (hk.bind hA H0 F0 fun kv C₁ s₁ x₁ h₁ F₁ r₁ => wpAny_bind (he.bind hA h₁ F₁ fun v C₂ s₂ x₂ h₂ F₂ r₂ => wpAny_bind (wpAny_standAt (wpAny_pure (evalPairs_nil ?_)))))
  cases r₁
  have x := x₁.trans x₂
  have g2 := x.same g0 f2 (by simp)
  have n1 := x.new _ _ (by simp) g0 f1
  have n2 : s.heap.objs.size ∉ C₂.ρ := fun h => f2 (x.ρnew _ _ (by simp) g0 h)
  refine ⟨[(k, v)], ⟨by simp [intKind, Value.isInt], rfl, trivial⟩, (Heap.DictOf.new (knd := intKind W.prog W.w) s.heap).at fun o e => by rw [g0] at e; cases e; exact g2, fun h' hd hs => ?_⟩
  obtain ⟨od, hod, hdd⟩ := Heap.dictOf_iff.mp hd
  have H3 := h₂.frame (tk := s₂.toks + 1) hs n1 n2
  have H4 := H3.freeze (o := od) hod n1 n2
  have X3 : Ext [s.heap.objs.size] C₂ s₂ C₂ { s₂ with heap := h', toks := s₂.toks + 1 } := Ext.frame C₂ hs (by simp)
  have X4 : Ext [] C s C₂ { s₂ with heap := h', toks := s₂.toks + 1 } := (((X0.trans x).wide (Y := [s.heap.objs.size]) (by simp)).trans X3).hide (fun y hy _ => by simp at hy; subst hy; exact get_size _)
  refine ⟨_, X4.freeze n1 (get_size _), H4, .dictI (Cfg.add_self _ _ _) (hH.notMods B) hdd ?_⟩
  exact .cons (r₂.mono (CLe.add n1)) .nil

/-- a loop whose turns keep a law -/
theorem ForL_inv {t : Expr} {body : List Stmt} (P : Nat → Vars → St → Prop) (hit : ∀ i V st, P i V st → Items st src l)
    (h : ∀ i p V st, l[i]? = some p → P i V st → ∃ V₁ st₁ V₂ V₃ st₂ fl, SA W D V t p st V₁ st₁ ∧ SS W D V₁ body st₁ fl V₂ st₂ ∧ (fl = .next ∨ fl = .cont) ∧ VLe V₃ V₂ ∧ P (i + 1) V₃ st₂) (h0 : P 0 V st) :
    ∃ V' st', ForL W D t body src l 0 V st .next V' st' ∧ P l.length V' st' := by
  have key : ∀ n i V st, l.length - i = n → i ≤ l.length → P i V st → ∃ V' st', ForL W D t body src l i V st .next V' st' ∧ P l.length V' st' := by
    intro n
    induction n with
    | zero =>
      intro i V st hn hi hP
      have : i = l.length := by omega
      subst this
      exact ⟨V, st, .done (Nat.le_refl _) (hit _ _ _ hP), hP⟩
    | succ n ih =>
      intro i V st hn hi hP
      have hlt : i < l.length := by omega
      obtain ⟨V₁, st₁, V₂, V₃, st₂, fl, a, b, c, d, e⟩ := h i l[i] V st (List.getElem?_eq_getElem hlt) hP
      obtain ⟨V', st', f, g⟩ := ih (i + 1) V₃ st₂ (by omega) hlt e
      exact ⟨V', st', .step (List.getElem?_eq_getElem hlt) (hit i _ _ hP) a b c d f, g⟩
  exact key _ 0 V st rfl (Nat.zero_le _) h0

/-- a comprehension whose turns keep a law: what it gives is found on the way -/
theorem CL1_inv {t elt : Expr} (P : Nat → List PV → St → Prop) (hit : ∀ i outs st, P i outs st → Items st src l)
    (h : ∀ i p outs st, l[i]? = some p → P i outs st → ∃ V₁ y st₁, SA W D V t p st V₁ st ∧ SE W D V₁ elt st y st₁ ∧ VLe V V₁ ∧ P (i + 1) (outs ++ [y]) st₁) (h0 : P 0 [] st) :
    ∃ outs st', CL1 W D t [] elt src l 0 V st outs V st' ∧ P l.length outs st' := by
  have key : ∀ n i pre st, l.length - i = n → i ≤ l.length → P i pre st → ∃ outs st', CL1 W D t [] elt src l i V st outs V st' ∧ P l.length (pre ++ outs) st' := by
    intro n
    induction n with
    | zero =>
      intro i pre st hn hi hP
      have : i = l.length := by omega
      subst this
      exact ⟨[], st, .done (Nat.le_refl _) (hit _ _ _ hP), by simpa using hP⟩
    | succ n ih =>
      intro i pre st hn hi hP
      have hlt : i < l.length := by omega
      obtain ⟨V₁, y, st₁, a, b, c, e⟩ := h i l[i] pre st (List.getElem?_eq_getElem hlt) hP
      obtain ⟨outs, st', f, g⟩ := ih (i + 1) (pre ++ [y]) st₁ (by omega) hlt e
      exact ⟨y :: outs, st', .take (List.getElem?_eq_getElem hlt) (hit i _ _ hP) a .nil b c f, by simpa using g⟩
  simpa using key _ 0 [] st rfl (Nat.zero_le _) h0
theorem vle_app {o : Bool} {sc : Scope} {a b : List (Str × PV)} : VLe ⟨o, sc, a⟩ ⟨o, sc, a ++ b⟩ := ⟨rfl, rfl, fun x p h => by
  show (a ++ b).lookup x = _
  rw [List.lookup_append, show a.lookup x = some p from h]; rfl⟩
end

def kCell : NameKind → Bool
  | .cell => true
  | _ => false
def kFree : NameKind → Bool
  | .free => true
  | _ => false
noncomputable def nodupB : List Str → Bool
  | [] => true
  | x :: r => !(r.any (x == ·)) && nodupB r
noncomputable def heldIn (x : Str) : List (Str × NameKind) → Bool
  | [] => false
  | (y, k) :: r => if x == y then (kCell k || kFree k) else heldIn x r
def fnKind : ScopeKind → Bool
  | .function => true
  | _ => false
def compOKb (scope outer : Scope) : Bool := fnKind scope.kind && scope.names.all (fun y => !kCell y.2) && nodupB (scope.names.map (·.1)) && scope.names.all (fun y => !kFree y.2 || heldIn y.1 outer.names)
theorem nodupB_ok : ∀ {l : List Str}, nodupB l = true → l.Nodup
  | [], _ => List.nodup_nil
  | x :: r, h => by
    unfold nodupB at h
    rw [Bool.and_eq_true, Bool.not_eq_true', List.any_eq_false] at h
    exact List.nodup_cons.mpr ⟨fun hm => by simpa using h.1 x hm, nodupB_ok h.2⟩
theorem heldIn_ok {x : Str} : ∀ {l : List (Str × NameKind)}, heldIn x l = true → l.lookup x = some .cell ∨ l.lookup x = some .free
  | (y, k) :: r, h => by
    unfold heldIn at h
    by_cases e : x = y
    · subst e
      rw [if_pos (by simp)] at h
      rw [List.lookup_cons]
      simp only [beq_self_eq_true]
      cases k <;> simp [kCell, kFree] at h <;> simp
    · rw [if_neg (by simpa using e)] at h
      rw [List.lookup_cons, beq_false_of_ne e]
      exact heldIn_ok h
theorem compOK {scope outer : Scope} (h : compOKb scope outer = true) : CompOK scope outer := by
  unfold compOKb at h
  simp only [Bool.and_eq_true] at h
  obtain ⟨⟨⟨h1, h2⟩, h3⟩, h4⟩ := h
  refine ⟨?_, ?_, nodupB_ok h3, ?_⟩
  · revert h1; cases scope.kind <;> simp [fnKind]
  · intro y hy e
    have := List.all_eq_true.mp h2 y hy
    rw [e] at this; simp [kCell] at this
  · intro y hy e
    have := List.all_eq_true.mp h4 y hy
    rw [e] at this
    exact heldIn_ok (by simpa [kFree] using this)
end Mine

/-! part Fn2 -/
namespace Mine

theorem at_59_glyphs {W : Wd} (hK : W.K = HdT.K39 W.w.params) : AttrOf W.K 59 (Str.ofString "glyphs") := ⟨by rw [hK]; kernel_rfl, by rw [hK]; kernel_rfl, ⟨none, by rw [hK]; kernel_rfl, rfl⟩⟩
theorem at_101_back {W : Wd} (hK : W.K = HdT.K39 W.w.params) : AttrOf W.K 101 (Str.ofString "back") := ⟨by rw [hK]; kernel_rfl, by rw [hK]; kernel_rfl, ⟨none, by rw [hK]; kernel_rfl, rfl⟩⟩
theorem at_101_inside {W : Wd} (hK : W.K = HdT.K39 W.w.params) : AttrOf W.K 101 (Str.ofString "inside") := ⟨by rw [hK]; kernel_rfl, by rw [hK]; kernel_rfl, ⟨none, by rw [hK]; kernel_rfl, rfl⟩⟩
theorem at_101_ahead {W : Wd} (hK : W.K = HdT.K39 W.w.params) : AttrOf W.K 101 (Str.ofString "ahead") := ⟨by rw [hK]; kernel_rfl, by rw [hK]; kernel_rfl, ⟨none, by rw [hK]; kernel_rfl, rfl⟩⟩
theorem at_101_actions {W : Wd} (hK : W.K = HdT.K39 W.w.params) : AttrOf W.K 101 (Str.ofString "actions") := ⟨by rw [hK]; kernel_rfl, by rw [hK]; kernel_rfl, ⟨none, by rw [hK]; kernel_rfl, rfl⟩⟩
theorem at_144_form {W : Wd} (hK : W.K = HdT.K39 W.w.params) : AttrOf W.K 144 (Str.ofString "form") := ⟨by rw [hK]; kernel_rfl, by rw [hK]; kernel_rfl, ⟨none, by rw [hK]; kernel_rfl, rfl⟩⟩
theorem at_144_sets {W : Wd} (hK : W.K = HdT.K39 W.w.params) : AttrOf W.K 144 (Str.ofString "sets") := ⟨by rw [hK]; kernel_rfl, by rw [hK]; kernel_rfl, ⟨none, by rw [hK]; kernel_rfl, rfl⟩⟩
theorem at_144_coverage {W : Wd} (hK : W.K = HdT.K39 W.w.params) : AttrOf W.K 144 (Str.ofString "coverage") := ⟨by rw [hK]; kernel_rfl, by rw [hK]; kernel_rfl, ⟨none, by rw [hK]; kernel_rfl, rfl⟩⟩
theorem at_144_classes {W : Wd} (hK : W.K = HdT.K39 W.w.params) : AttrOf W.K 144 (Str.ofString "classes") := ⟨by rw [hK]; kernel_rfl, by rw [hK]; kernel_rfl, ⟨none, by rw [hK]; kernel_rfl, rfl⟩⟩
theorem at_300_parts {W : Wd} (hK : W.K = HdT.K39 W.w.params) : AttrOf W.K 300 (Str.ofString "parts") := ⟨by rw [hK]; kernel_rfl, by rw [hK]; kernel_rfl, ⟨none, by rw [hK]; kernel_rfl, rfl⟩⟩
theorem at_300_kind {W : Wd} (hK : W.K = HdT.K39 W.w.params) : AttrOf W.K 300 (Str.ofString "kind") := ⟨by rw [hK]; kernel_rfl, by rw [hK]; kernel_rfl, ⟨none, by rw [hK]; kernel_rfl, rfl⟩⟩
theorem me_59_index {W : Wd} (hK : W.K = HdT.K39 W.w.params) : MethOf W.K 59 (Str.ofString "index") 42 := ⟨by rw [hK]; kernel_rfl, by rw [hK]; kernel_rfl, by rw [hK]; kernel_rfl, by rw [hK]; kernel_rfl⟩
theorem me_59_has {W : Wd} (hK : W.K = HdT.K39 W.w.params) : MethOf W.K 59 (Str.ofString "has") 49 := ⟨by rw [hK]; kernel_rfl, by rw [hK]; kernel_rfl, by rw [hK]; kernel_rfl, by rw [hK]; kernel_rfl⟩
theorem me_144_rules {W : Wd} (hK : W.K = HdT.K39 W.w.params) : MethOf W.K 144 (Str.ofString "rules") 141 := ⟨by rw [hK]; kernel_rfl, by rw [hK]; kernel_rfl, by rw [hK]; kernel_rfl, by rw [hK]; kernel_rfl⟩

section
variable {W : Wd}
def rulePV (b i a acts : PV) : PV := .obj 101 [("back", b), ("inside", i), ("ahead", a), ("actions", acts)]
theorem cls_Rule (hK : W.K = HdT.K39 W.w.params) : ∃ fd body, ClsAt W 101 84 fd body [Str.ofString "back", Str.ofString "inside", Str.ofString "ahead", Str.ofString "actions"] 4 [] := by
  refine ⟨_, _, ⟨by rw [hK]; kernel_rfl, by rw [hK]; kernel_rfl, by rw [hK]; kernel_rfl, ⟨⟨_, _, _, by rw [hK]; rfl⟩, rfl, rfl, rfl, rfl, by rw [hK]; kernel_rfl, rfl, rfl, rfl, by decide, by decide, by decide, by decide, ?_⟩, by decide, by decide, .cons (.cons (.cons (.cons .nil))), by rw [hK]; kernel_rfl, by rw [hK]; kernel_rfl, (by rw [hK]; intro a ha; (repeat (rcases List.mem_cons.mp ha with rfl | ha; · kernel_rfl)); cases ha), by rw [hK]; kernel_rfl, by decide⟩⟩
  intro s vals hin hl
  match vals, hl with
  | [a, b, c, d, e], _ => exact BindsTo.of_eq rfl
theorem new_Rule (hK : W.K = HdT.K39 W.w.params) (B : Base W) {D : Nat} {st : St} {b i a acts : PV} : SCall W (D + 2) (.ref 101) [b, i, a, acts] st (rulePV b i a acts) st := by
  obtain ⟨fd, body, T⟩ := cls_Rule hK
  exact SCall_new (dargs := []) B T rfl (fun _ => .nil) rfl
def rowPV (word : PV) (parts : PV) : PV := .obj 300 [("kind", word), ("parts", parts)]
theorem cls_RuleRow (hK : W.K = HdT.K39 W.w.params) : ∃ fd body, ClsAt W 300 276 fd body [Str.ofString "kind", Str.ofString "parts"] 2 [] := by
  refine ⟨_, _, ⟨by rw [hK]; kernel_rfl, by rw [hK]; kernel_rfl, by rw [hK]; kernel_rfl, ⟨⟨_, _, _, by rw [hK]; rfl⟩, rfl, rfl, rfl, rfl, by rw [hK]; kernel_rfl, rfl, rfl, rfl, by decide, by decide, by decide, by decide, ?_⟩, by decide, by decide, .cons (.cons .nil), by rw [hK]; kernel_rfl, by rw [hK]; kernel_rfl, (by rw [hK]; intro a ha; (repeat (rcases List.mem_cons.mp ha with rfl | ha; · kernel_rfl)); cases ha), by rw [hK]; kernel_rfl, by decide⟩⟩
  intro s vals hin hl
  match vals, hl with
  | [a, b, c], _ => exact BindsTo.of_eq rfl
theorem new_RuleRow (hK : W.K = HdT.K39 W.w.params) (B : Base W) {D : Nat} {st : St} {a b : PV} : SCall W (D + 2) (.ref 300) [a, b] st (rowPV a b) st := by
  obtain ⟨fd, body, T⟩ := cls_RuleRow hK
  exact SCall_new (dargs := []) B T rfl (fun _ => .nil) rfl
def tabPV (form : Int) (sets : PV) : PV := .obj 144 [("form", .int form), ("is_chained", .bool true), ("sets", sets), ("coverage", .none), ("classes", .none)]
theorem cls_Contexts (hK : W.K = HdT.K39 W.w.params) : ∃ fd body, ClsAt W 144 120 fd body [Str.ofString "form", Str.ofString "is_chained", Str.ofString "sets", Str.ofString "coverage", Str.ofString "classes"] 3 [.none, .none] := by
  refine ⟨_, _, ⟨by rw [hK]; kernel_rfl, by rw [hK]; kernel_rfl, by rw [hK]; kernel_rfl, ⟨⟨_, _, _, by rw [hK]; rfl⟩, rfl, rfl, rfl, rfl, by rw [hK]; kernel_rfl, rfl, rfl, rfl, by decide, by decide, by decide, by decide, ?_⟩, by decide, by decide, .cons (.cons (.cons (.cons (.cons .nil)))), by rw [hK]; kernel_rfl, by rw [hK]; kernel_rfl, (by rw [hK]; intro a ha; (repeat (rcases List.mem_cons.mp ha with rfl | ha; · kernel_rfl)); cases ha), by rw [hK]; kernel_rfl, by decide⟩⟩
  intro s vals hin hl
  match vals, hl with
  | [a, b, c, d], _ => exact BindsTo.of_defaults rfl (hin _ _ (by rw [hK]; rfl)) rfl rfl rfl
theorem new_Contexts (hK : W.K = HdT.K39 W.w.params) (B : Base W) {D : Nat} {st : St} {form : Int} {sets : PV} : SCall W (D + 2) (.ref 144) [.int form, .bool true, sets] st (tabPV form sets) st := by
  obtain ⟨fd, body, T⟩ := cls_Contexts hK
  exact SCall_new (dargs := [.none, .none]) B T rfl (fun _ => .cons .none (.cons .none .nil)) rfl
end
end Mine

/-! part Fn3 -/
namespace Mine
section
variable {W : Wd} {D : Nat} {st : St}

def ixV (sc : Scope) (gs : List Int) (x lo hi : Int) : Vars := ⟨true, sc, [(Str.ofString "self", covPV gs), (Str.ofString "glyph", .int x), (Str.ofString "low", .int lo), (Str.ofString "high", .int hi)]⟩

theorem WhL_bin {t : Expr} {body : List Stmt} (mk : Nat → Nat → Vars) (k N : Nat)
    (h : ∀ lo hi, lo ≤ k → k ≤ hi → hi ≤ N → (lo < hi → ST W D (mk lo hi) t st true st ∧ ∃ V₂ lo' hi', SS W D (mk lo hi) body st .next V₂ st ∧ VLe (mk lo' hi') V₂ ∧ lo' ≤ k ∧ k ≤ hi' ∧ hi' ≤ N ∧ hi' - lo' < hi - lo) ∧ (lo = hi → ST W D (mk lo hi) t st false st)) :
    ∀ n lo hi, hi - lo ≤ n → lo ≤ k → k ≤ hi → hi ≤ N → WhL W D t body n (mk lo hi) st .next (mk k k) st
  | 0, lo, hi, hn, h1, h2, h3 => by
    have e1 : lo = k := by omega
    have e2 : hi = k := by omega
    subst e1 e2
    exact .done ((h _ _ h1 h2 h3).2 rfl)
  | n + 1, lo, hi, hn, h1, h2, h3 => by
    by_cases e : lo < hi
    · obtain ⟨a, V₂, lo', hi', b, c, d1, d2, d3, d4⟩ := (h _ _ h1 h2 h3).1 e
      exact .step a b c (WhL_bin mk k N h n lo' hi' (by omega) d1 d2 d3)
    · have e1 : lo = k := by omega
      have e2 : hi = k := by omega
      subst e1 e2
      exact .done ((h _ _ h1 h2 h3).2 rfl)

theorem mid_lo {lo hi : Nat} : ((lo : Int) + (hi : Int)).fdiv 2 = (((lo + hi) / 2 : Nat) : Int) := by
  rw [Int.fdiv_eq_ediv_of_nonneg _ (by omega)]; omega

def low (gs : List Int) (x : Int) : Nat := (gs.filter fun g => decide (g < x)).length
theorem low_le (gs : List Int) (x : Int) : low gs x ≤ gs.length := List.length_filter_le _ _
theorem low_iff {x : Int} : ∀ {gs : List Int}, gs.Pairwise (· < ·) → ∀ j (h : j < gs.length), gs[j] < x ↔ j < low gs x
  | [], _, j, h => by simp at h
  | a :: r, hs, j, h => by
    rw [List.pairwise_cons] at hs
    unfold low
    rw [List.filter_cons]
    by_cases e : a < x
    · rw [if_pos (by simpa using e), List.length_cons]
      cases j with
      | zero => simp [e]
      | succ j =>
        have := low_iff (x := x) hs.2 j (by simpa using h)
        simp only [List.getElem_cons_succ]
        unfold low at this
        rw [this]; omega
    · rw [if_neg (by simpa using e)]
      have h0 : (r.filter fun g => decide (g < x)) = [] := by
        rw [List.filter_eq_nil_iff]
        intro b hb; have := hs.1 b hb; simp; omega
      rw [h0]
      cases j with
      | zero => simpa using e
      | succ j =>
        have h' : j < r.length := by simpa using h
        have := hs.1 r[j] (List.getElem_mem _)
        simp only [List.getElem_cons_succ, List.length_nil]
        omega
theorem low_any {x : Int} {gs : List Int} (hs : gs.Pairwise (· < ·)) : gs.any (· == x) = decide (gs[low gs x]? = some x) := by
  rw [Bool.eq_iff_iff, decide_eq_true_eq, List.any_eq_true]
  constructor
  · rintro ⟨y, hy, e⟩
    have e : y = x := by simpa using e
    subst e
    obtain ⟨j, hj, e⟩ := List.getElem_of_mem hy
    have h1 := low_iff (x := y) hs j hj
    rw [e] at h1
    have : j = low gs y := by
      rcases Nat.lt_trichotomy j (low gs y) with h | h | h
      · have := h1.mpr h; omega
      · exact h
      · have h2 := low_iff (x := y) hs (low gs y) (by omega)
        have h3 := List.pairwise_iff_getElem.mp hs (low gs y) j (by omega) hj h
        omega
    rw [← this, List.getElem?_eq_getElem hj, e]
  · intro h
    exact ⟨x, List.mem_of_getElem? h, by simp⟩

theorem c_index (hK : W.K = HdT.K39 W.w.params) (B : Base W) {gs : List Int} {x : Int} (hs : gs.Pairwise (· < ·)) (hz : gs.length < 1000) :
    ∃ r : Int, SCall W (D + 1) (.ref 42) [covPV gs, .int x] st (.int r) st ∧ (decide (0 ≤ r) = gs.any (· == x)) := by
  refine ⟨if gs[low gs x]? = some x then (low gs x : Int) else -1, ?_, by rw [low_any hs]; split <;> simp_all⟩
  refine SCall_fn' B (names := [Str.ofString "self", Str.ofString "glyph"]) (n := 2) ⟨⟨_, _, _, by rw [hK]; rfl⟩, rfl, rfl, rfl, rfl, by rw [hK]; kernel_rfl, rfl, rfl, rfl, by decide, by decide, by decide, by decide, fun s vals hin hl => match vals, hl with | [a0, a1], _ => BindsTo.of_eq rfl⟩ rfl ?_
  apply Exists.intro
  apply SS_cons (SX_Assign SE_int (.inl rfl))
  apply SS_cons
  · apply SX_Assign
    · apply call_len B
      · rfl
      · apply SE_Attr B
        · (first | exact SE_local rfl rfl | exact SE_cell rfl rfl | exact SE_free rfl rfl)
        · rfl
        · exact at_59_glyphs hK
        all_goals first | rfl | decide | with_unfolding_all rfl | (intro _; rfl) | (intro _; with_unfolding_all rfl)
      · exact SCall_len .tup
      · rfl
    · exact .inl rfl
    all_goals first | rfl | decide | with_unfolding_all rfl | (intro _; rfl) | (intro _; with_unfolding_all rfl)
  rw [List.length_map]
  apply SS_cons
  · apply SX_While
    refine WhL_bin (mk := fun lo hi => ixV _ gs x lo hi) (low gs x) gs.length ?_ gs.length 0 gs.length (by omega) (Nat.zero_le _) (low_le gs x) (Nat.le_refl _)
    intro lo hi h1 h2 h3
    constructor
    · intro hlt
      constructor
      · have e : true = decide ((lo : Int) < (hi : Int)) := by simp [hlt]
        rw [e]
        apply ST_Compare
        · (first | exact SE_local rfl rfl | exact SE_cell rfl rfl | exact SE_free rfl rfl)
        · (first | exact SE_local rfl rfl | exact SE_cell rfl rfl | exact SE_free rfl rfl)
        · exact SC_lt
        all_goals first | rfl | decide | with_unfolding_all rfl | (intro _; rfl) | (intro _; with_unfolding_all rfl)
      · have hm1 : lo ≤ (lo + hi) / 2 := by omega
        have hm2 : (lo + hi) / 2 < hi := by omega
        have hm3 : (lo + hi) / 2 < gs.length := by omega
        have hiff := low_iff (x := x) hs ((lo + hi) / 2) hm3
        have hT : ∀ {V : Vars} {e1 e2 : Expr} {p : Pos}, SE W D V (.Subscript e1 e2 p) st (.int gs[(lo + hi) / 2]) st → SE W D V (.Subscript e1 e2 p) st (.int gs[(lo + hi) / 2]) st := fun h => h
        by_cases hc : gs[(lo + hi) / 2] < x
        · apply Exists.intro
          refine ⟨(lo + hi) / 2 + 1, hi, ?_, ?_, by have := hiff.mp hc; omega, h2, h3, by omega⟩
          · apply SS_cons
            · apply SX_Assign
              · apply SE_BinOp
                · apply SE_BinOp
                  · (first | exact SE_local rfl rfl | exact SE_cell rfl rfl | exact SE_free rfl rfl)
                  · (first | exact SE_local rfl rfl | exact SE_cell rfl rfl | exact SE_free rfl rfl)
                  · exact SB_add
                · exact SE_int
                · exact SB_fdiv (by decide) (by decide)
              · exact .inl rfl
              all_goals first | rfl | decide | with_unfolding_all rfl | (intro _; rfl) | (intro _; with_unfolding_all rfl)
            rw [mid_lo]
            apply SS_one
            · apply SX_IfT
              · have e : true = decide (gs[(lo + hi) / 2] < x) := by simp [hc]
                rw [e]
                apply ST_Compare
                · apply SE_subT
                  · apply SE_Attr B
                    · (first | exact SE_local rfl rfl | exact SE_cell rfl rfl | exact SE_free rfl rfl)
                    · rfl
                    · exact at_59_glyphs hK
                    all_goals first | rfl | decide | with_unfolding_all rfl | (intro _; rfl) | (intro _; with_unfolding_all rfl)
                  · (first | exact SE_local rfl rfl | exact SE_cell rfl rfl | exact SE_free rfl rfl)
                  · omega
                  · rw [Int.toNat_natCast, List.getElem?_map, List.getElem?_eq_getElem hm3]; rfl
                · (first | exact SE_local rfl rfl | exact SE_cell rfl rfl | exact SE_free rfl rfl)
                · exact SC_lt
                all_goals first | rfl | decide | with_unfolding_all rfl | (intro _; rfl) | (intro _; with_unfolding_all rfl)
              · apply SS_one
                · apply SX_Assign (pv := .int (((lo + hi) / 2 + 1 : Nat) : Int))
                  · rw [Int.natCast_add]
                    apply SE_BinOp
                    · (first | exact SE_local rfl rfl | exact SE_cell rfl rfl | exact SE_free rfl rfl)
                    · exact SE_int
                    · exact SB_add
                  · exact .inl rfl
                  all_goals first | rfl | decide | with_unfolding_all rfl | (intro _; rfl) | (intro _; with_unfolding_all rfl)
                · rfl
            · rfl
          · exact vle_app (b := [(Str.ofString "middle", _)])
        · apply Exists.intro
          refine ⟨lo, (lo + hi) / 2, ?_, ?_, h1, by omega, by omega, by omega⟩
          · apply SS_cons
            · apply SX_Assign
              · apply SE_BinOp
                · apply SE_BinOp
                  · (first | exact SE_local rfl rfl | exact SE_cell rfl rfl | exact SE_free rfl rfl)
                  · (first | exact SE_local rfl rfl | exact SE_cell rfl rfl | exact SE_free rfl rfl)
                  · exact SB_add
                · exact SE_int
                · exact SB_fdiv (by decide) (by decide)
              · exact .inl rfl
              all_goals first | rfl | decide | with_unfolding_all rfl | (intro _; rfl) | (intro _; with_unfolding_all rfl)
            rw [mid_lo]
            apply SS_one
            · apply SX_IfF
              · have e : false = decide (gs[(lo + hi) / 2] < x) := by simp [hc]
                rw [e]
                apply ST_Compare
                · apply SE_subT
                  · apply SE_Attr B
                    · (first | exact SE_local rfl rfl | exact SE_cell rfl rfl | exact SE_free rfl rfl)
                    · rfl
                    · exact at_59_glyphs hK
                    all_goals first | rfl | decide | with_unfolding_all rfl | (intro _; rfl) | (intro _; with_unfolding_all rfl)
                  · (first | exact SE_local rfl rfl | exact SE_cell rfl rfl | exact SE_free rfl rfl)
                  · omega
                  · rw [Int.toNat_natCast, List.getElem?_map, List.getElem?_eq_getElem hm3]; rfl
                · (first | exact SE_local rfl rfl | exact SE_cell rfl rfl | exact SE_free rfl rfl)
                · exact SC_lt
                all_goals first | rfl | decide | with_unfolding_all rfl | (intro _; rfl) | (intro _; with_unfolding_all rfl)
              · apply SS_one
                · apply SX_Assign
                  · (first | exact SE_local rfl rfl | exact SE_cell rfl rfl | exact SE_free rfl rfl)
                  · exact .inl rfl
                  all_goals first | rfl | decide | with_unfolding_all rfl | (intro _; rfl) | (intro _; with_unfolding_all rfl)
                · rfl
            · rfl
          · exact vle_app (b := [(Str.ofString "middle", _)])
    · intro e
      have e : false = decide ((lo : Int) < (hi : Int)) := by simp [e]
      rw [e]
      apply ST_Compare
      · (first | exact SE_local rfl rfl | exact SE_cell rfl rfl | exact SE_free rfl rfl)
      · (first | exact SE_local rfl rfl | exact SE_cell rfl rfl | exact SE_free rfl rfl)
      · exact SC_lt
      all_goals first | rfl | decide | with_unfolding_all rfl | (intro _; rfl) | (intro _; with_unfolding_all rfl)
  by_cases hl : gs[low gs x]? = some x
  · rw [if_pos hl]
    obtain ⟨hl1, hl2⟩ := List.getElem?_eq_some_iff.mp hl
    apply SS_stop
    · apply SX_IfT
      · apply ST_BoolOp
        apply Tests.andT
        · have e : true = decide ((low gs x : Int) < (gs.length : Int)) := by simp [hl1]
          rw [e]
          apply ST_Compare
          · (first | exact SE_local rfl rfl | exact SE_cell rfl rfl | exact SE_free rfl rfl)
          · apply call_len B
            · rfl
            · apply SE_Attr B
              · (first | exact SE_local rfl rfl | exact SE_cell rfl rfl | exact SE_free rfl rfl)
              · rfl
              · exact at_59_glyphs hK
              all_goals first | rfl | decide | with_unfolding_all rfl | (intro _; rfl) | (intro _; with_unfolding_all rfl)
            · have := SCall_len (W := W) (D := D) (st := st) (l := gs.map .int) .tup
              rw [List.length_map] at this
              exact this
            · rfl
          · exact SC_lt
          all_goals first | rfl | decide | with_unfolding_all rfl | (intro _; rfl) | (intro _; with_unfolding_all rfl)
        apply Tests.andT
        · have e : true = (x == x) := by simp
          rw [e]
          apply ST_Compare
          · apply SE_subT
            · apply SE_Attr B
              · (first | exact SE_local rfl rfl | exact SE_cell rfl rfl | exact SE_free rfl rfl)
              · rfl
              · exact at_59_glyphs hK
              all_goals first | rfl | decide | with_unfolding_all rfl | (intro _; rfl) | (intro _; with_unfolding_all rfl)
            · (first | exact SE_local rfl rfl | exact SE_cell rfl rfl | exact SE_free rfl rfl)
            · omega
            · rw [Int.toNat_natCast, List.getElem?_map, hl]; rfl
          · (first | exact SE_local rfl rfl | exact SE_cell rfl rfl | exact SE_free rfl rfl)
          · exact SC_eq
          all_goals first | rfl | decide | with_unfolding_all rfl | (intro _; rfl) | (intro _; with_unfolding_all rfl)
        · exact .andNil
      · apply SS_one
        · apply SX_Return
          (first | exact SE_local rfl rfl | exact SE_cell rfl rfl | exact SE_free rfl rfl)
        · rfl
    · intro h; cases h
  · rw [if_neg hl]
    apply SS_cons
    · apply SX_IfF
      · apply ST_BoolOp
        by_cases hl1 : low gs x < gs.length
        · apply Tests.andT
          · have e : true = decide ((low gs x : Int) < (gs.length : Int)) := by simp [hl1]
            rw [e]
            apply ST_Compare
            · (first | exact SE_local rfl rfl | exact SE_cell rfl rfl | exact SE_free rfl rfl)
            · apply call_len B
              · rfl
              · apply SE_Attr B
                · (first | exact SE_local rfl rfl | exact SE_cell rfl rfl | exact SE_free rfl rfl)
                · rfl
                · exact at_59_glyphs hK
                all_goals first | rfl | decide | with_unfolding_all rfl | (intro _; rfl) | (intro _; with_unfolding_all rfl)
              · have := SCall_len (W := W) (D := D) (st := st) (l := gs.map .int) .tup
                rw [List.length_map] at this
                exact this
              · rfl
            · exact SC_lt
            all_goals first | rfl | decide | with_unfolding_all rfl | (intro _; rfl) | (intro _; with_unfolding_all rfl)
          apply Tests.andF
          · have e : false = (gs[low gs x] == x) := by
              rw [List.getElem?_eq_getElem hl1] at hl
              simpa using hl
            rw [e]
            apply ST_Compare
            · apply SE_subT
              · apply SE_Attr B
                · (first | exact SE_local rfl rfl | exact SE_cell rfl rfl | exact SE_free rfl rfl)
                · rfl
                · exact at_59_glyphs hK
                all_goals first | rfl | decide | with_unfolding_all rfl | (intro _; rfl) | (intro _; with_unfolding_all rfl)
              · (first | exact SE_local rfl rfl | exact SE_cell rfl rfl | exact SE_free rfl rfl)
              · omega
              · rw [Int.toNat_natCast, List.getElem?_map, List.getElem?_eq_getElem hl1]; rfl
            · (first | exact SE_local rfl rfl | exact SE_cell rfl rfl | exact SE_free rfl rfl)
            · exact SC_eq
            all_goals first | rfl | decide | with_unfolding_all rfl | (intro _; rfl) | (intro _; with_unfolding_all rfl)
        · apply Tests.andF
          · have e : false = decide ((low gs x : Int) < (gs.length : Int)) := by simp [hl1]
            rw [e]
            apply ST_Compare
            · (first | exact SE_local rfl rfl | exact SE_cell rfl rfl | exact SE_free rfl rfl)
            · apply call_len B
              · rfl
              · apply SE_Attr B
                · (first | exact SE_local rfl rfl | exact SE_cell rfl rfl | exact SE_free rfl rfl)
                · rfl
                · exact at_59_glyphs hK
                all_goals first | rfl | decide | with_unfolding_all rfl | (intro _; rfl) | (intro _; with_unfolding_all rfl)
              · have := SCall_len (W := W) (D := D) (st := st) (l := gs.map .int) .tup
                rw [List.length_map] at this
                exact this
              · rfl
            · exact SC_lt
            all_goals first | rfl | decide | with_unfolding_all rfl | (intro _; rfl) | (intro _; with_unfolding_all rfl)
      · exact SS_nil
    apply SS_one
    · apply SX_Return
      exact SE_neg1
    · rfl

theorem c_has (hK : W.K = HdT.K39 W.w.params) (B : Base W) {gs : List Int} {x : Int} (hs : gs.Pairwise (· < ·)) (hz : gs.length < 1000) :
    SCall W (D + 2) (.ref 49) [covPV gs, .int x] st (.bool (gs.any (· == x))) st := by
  obtain ⟨r, hc, hr⟩ := c_index (D := D) (st := st) hK B (x := x) hs hz
  rw [← hr]
  refine SCall_fn' B (names := [Str.ofString "self", Str.ofString "glyph"]) (n := 2) ⟨⟨_, _, _, by rw [hK]; rfl⟩, rfl, rfl, rfl, rfl, by rw [hK]; kernel_rfl, rfl, rfl, rfl, by decide, by decide, by decide, by decide, fun s vals hin hl => match vals, hl with | [a0, a1], _ => BindsTo.of_eq rfl⟩ rfl ?_
  apply Exists.intro
  apply SS_one
  · apply SX_Return
    apply SE_Compare
    · apply SE_Meth B
      · (first | exact SE_local rfl rfl | exact SE_cell rfl rfl | exact SE_free rfl rfl)
      · rfl
      · exact me_59_index hK
      · apply SEs_cons
        · (first | exact SE_local rfl rfl | exact SE_cell rfl rfl | exact SE_free rfl rfl)
        · exact SEs_nil
        · rfl
      · exact hc
      all_goals first | rfl | decide | with_unfolding_all rfl | (intro _; rfl) | (intro _; with_unfolding_all rfl)
    · exact SE_int
    · exact SC_ge
    all_goals first | rfl | decide | with_unfolding_all rfl | (intro _; rfl) | (intro _; with_unfolding_all rfl)
  · rfl
end
end Mine

/-! part Fn4 -/
namespace Mine
section
variable {W : Wd} {D : Nat} {st : St}

theorem c_rules (hK : W.K = HdT.K39 W.w.params) (B : Base W) {f : Int} {rules : List PV} (hz : rules.length < 1000) :
    SCall W (D + 1) (.ref 141) [tabPV f (.dictI [(0, .lst rules)])] st (.mref st.length) (st ++ [.lst rules]) := by
  refine SCall_fn' B (names := [Str.ofString "self"]) (n := 1) ⟨⟨_, _, _, by rw [hK]; rfl⟩, rfl, rfl, rfl, rfl, by rw [hK]; kernel_rfl, rfl, rfl, rfl, by decide, by decide, by decide, by decide, fun s vals hin hl => match vals, hl with | [a0], _ => BindsTo.of_eq rfl⟩ rfl ?_
  apply Exists.intro
  apply SS_cons
  · apply SX_Assign (SE_ListM SEs_nil) (.inl rfl)
    all_goals first | rfl | decide | (rintro ⟨q, h⟩; cases h; done) | (intro _; rfl) | (intro _ _; rfl) | with_unfolding_all rfl | (intro _; with_unfolding_all rfl) | (simp; done)
  apply SS_cons
  · apply SX_For (src := .lst (.lst ([0].map .int))) (l := [0].map .int)
    · apply SI_lst
      · apply call_sorted B
        · rfl
        · apply SE_Attr B
          · (first | exact SE_local rfl rfl | exact SE_cell rfl rfl | exact SE_free rfl rfl)
          · rfl
          · exact at_144_sets hK
          all_goals first | rfl | decide | (rintro ⟨q, h⟩; cases h; done) | (intro _; rfl) | (intro _ _; rfl) | with_unfolding_all rfl | (intro _; with_unfolding_all rfl) | (simp; done)
        · exact SCall_sortedD (d := [(0, .lst rules)]) (ms := [0]) .dict (by simp) (List.Perm.refl _) (by simp)
        · rfl
      · exact .lst
    · refine ForL_fold' _ (fun i => st ++ [.lst (if i = 0 then [] else rules)]) rfl rfl (fun _ _ => .lst .lst) ?_
      intro i p hp
      match i, hp with
      | i + 1, hp => simp at hp
      | 0, hp =>
        simp only [List.map_cons, List.map_nil, List.getElem?_cons_zero, Option.some.injEq] at hp
        subst hp
        apply Exists.intro
        apply Exists.intro
        apply Exists.intro
        apply Exists.intro
        apply And.intro
        · exact SA_name (.inl rfl)
        apply And.intro
        · apply SS_one
          · apply SX_For (src := .lst (.lst rules)) (l := rules)
            · apply SI_lst
              · apply SE_subDI
                · apply SE_Attr B
                  · (first | exact SE_local rfl rfl | exact SE_cell rfl rfl | exact SE_free rfl rfl)
                  · rfl
                  · exact at_144_sets hK
                  all_goals first | rfl | decide | (rintro ⟨q, h⟩; cases h; done) | (intro _; rfl) | (intro _ _; rfl) | with_unfolding_all rfl | (intro _; with_unfolding_all rfl) | (simp; done)
                · (first | exact SE_local rfl rfl | exact SE_cell rfl rfl | exact SE_free rfl rfl)
                · exact .dict
                · rfl
              · exact .lst
            · refine ForL_fold' _ (fun i => st ++ [.lst (rules.take i)]) rfl rfl (fun _ _ => .lst .lst) ?_
              intro i p hp
              apply Exists.intro
              apply Exists.intro
              apply Exists.intro
              apply Exists.intro
              apply And.intro
              · exact SA_name (.inl rfl)
              apply And.intro
              · apply SS_one
                · apply SX_Expr
                  · apply SE_append
                    · (first | exact SE_local rfl rfl | exact SE_cell rfl rfl | exact SE_free rfl rfl)
                    · exact get_last _ _
                    · (first | exact SE_local rfl rfl | exact SE_cell rfl rfl | exact SE_free rfl rfl)
                    · exact get_last _ _
                    · rw [List.length_take]; omega
                    all_goals first | rfl | decide | (rintro ⟨q, h⟩; cases h; done) | (intro _; rfl) | (intro _ _; rfl) | with_unfolding_all rfl | (intro _; with_unfolding_all rfl) | (simp; done)
                  all_goals first | rfl | decide | (rintro ⟨q, h⟩; cases h; done) | (intro _; rfl) | (intro _ _; rfl) | with_unfolding_all rfl | (intro _; with_unfolding_all rfl) | (simp; done)
                · rw [set_last, List.take_add_one, hp]; rfl
              · exact ⟨.inl rfl, vle_set rfl⟩
            all_goals first | rfl | decide | (rintro ⟨q, h⟩; cases h; done) | (intro _; rfl) | (intro _ _; rfl) | with_unfolding_all rfl | (intro _; with_unfolding_all rfl) | (simp; done)
          · simp
        · exact ⟨.inl rfl, vle_set rfl⟩
    all_goals first | rfl | decide | (rintro ⟨q, h⟩; cases h; done) | (intro _; rfl) | (intro _ _; rfl) | with_unfolding_all rfl | (intro _; with_unfolding_all rfl) | (simp; done)
  apply SS_one
  · apply SX_Return
    (first | exact SE_local rfl rfl | exact SE_cell rfl rfl | exact SE_free rfl rfl)
  · simp

theorem c_tests_of (hK : W.K = HdT.K39 W.w.params) (B : Base W) {w : Str} {ps : List PV} (hw : w ≠ Str.ofString "class") (hz : ps.length < 1000) :
    SCall W (D + 1) (.ref 153) [.tup ps, .str w, .none] st (.lst (ps.map fun p => .tup [.str w, p])) st := by
  refine SCall_fn' B (names := [Str.ofString "row", Str.ofString "word", Str.ofString "classdef"]) (n := 3) ⟨⟨_, _, _, by rw [hK]; rfl⟩, rfl, rfl, rfl, rfl, by rw [hK]; kernel_rfl, rfl, rfl, rfl, by decide, by decide, by decide, by decide, fun s vals hin hl => match vals, hl with | [a0, a1, a2], _ => BindsTo.of_eq rfl⟩ rfl ?_
  apply Exists.intro
  apply SS_cons
  · apply SX_IfF
    · have e : false = (w == Str.ofString "class") := by simp [hw]
      rw [e]
      apply ST_Compare
      · (first | exact SE_local rfl rfl | exact SE_cell rfl rfl | exact SE_free rfl rfl)
      · exact SE_str
      · exact SC_eqS
      all_goals first | rfl | decide | (rintro ⟨q, h⟩; cases h; done) | (intro _; rfl) | (intro _ _; rfl) | with_unfolding_all rfl | (intro _; with_unfolding_all rfl) | (simp; done)
    · exact SS_nil
  apply SS_one
  · apply SX_Return
    apply SE_Comp
    · apply SI_tup
      (first | exact SE_local rfl rfl | exact SE_cell rfl rfl | exact SE_free rfl rfl)
    · apply CL1.loop
      · apply CL1_map (fun p => .tup [.str w, p]) .tup
        intro p hp
        apply Exists.intro
        apply And.intro
        · exact SA_name (.inl rfl)
        apply And.intro
        · apply SE_Tuple
          · apply SEs_cons
            · (first | exact SE_local rfl rfl | exact SE_cell rfl rfl | exact SE_free rfl rfl)
            · apply SEs_cons
              · (first | exact SE_local rfl rfl | exact SE_cell rfl rfl | exact SE_free rfl rfl)
              · exact SEs_nil
              · rfl
            · rfl
          all_goals first | rfl | decide | (rintro ⟨q, h⟩; cases h; done) | (intro _; rfl) | (intro _ _; rfl) | with_unfolding_all rfl | (intro _; with_unfolding_all rfl) | (simp; done)
        · exact vle_set rfl
      · simp; omega
      all_goals first | rfl | decide | (rintro ⟨q, h⟩; cases h; done) | (intro _; rfl) | (intro _ _; rfl) | with_unfolding_all rfl | (intro _; with_unfolding_all rfl) | (simp; done)
    · exact compOK rfl
    · simp; omega
    all_goals first | rfl | decide | (rintro ⟨q, h⟩; cases h; done) | (intro _; rfl) | (intro _ _; rfl) | with_unfolding_all rfl | (intro _; with_unfolding_all rfl) | (simp; done)
  · rfl
end
end Mine

/-! part Fn5 -/
namespace Mine
section
variable {W : Wd} {D : Nat} {st : St}

def tst (w : Str) (p : PV) : PV := .tup [.str w, p]
structure RuleA where
  b : List PV
  i : List PV
  a : List PV
  acts : PV
def RuleA.pv (r : RuleA) : PV := rulePV (.tup r.b) (.tup r.i) (.tup r.a) r.acts
def RuleA.tests (w : Str) (r : RuleA) : PV := .tup [.lst (r.b.map (tst w)), .lst (r.i.map (tst w)), .lst (r.a.map (tst w)), r.acts]
structure RuleA.Ok (r : RuleA) : Prop where
  b : r.b.length < 1000
  i : r.i.length < 1000
  a : r.a.length < 1000
def words : List PV := [.str (Str.ofString ""), .str (Str.ofString "glyph"), .str (Str.ofString "class"), .str (Str.ofString "cover")]

theorem c_rule_tests (hK : W.K = HdT.K39 W.w.params) (B : Base W) {f : Int} {w : Str} {sets : PV} {r : RuleA} (hw : w ≠ Str.ofString "class") (h0 : 0 ≤ f) (h2 : f ≠ 2) (hx : words[f.toNat]? = some (.str w)) (hr : r.Ok) :
    SCall W (D + 2) (.ref 160) [tabPV f sets, r.pv] st (r.tests w) st := by
  refine SCall_fn' B (names := [Str.ofString "table", Str.ofString "rule"]) (n := 2) ⟨⟨_, _, _, by rw [hK]; rfl⟩, rfl, rfl, rfl, rfl, by rw [hK]; kernel_rfl, rfl, rfl, rfl, by decide, by decide, by decide, by decide, fun s vals hin hl => match vals, hl with | [a0, a1], _ => BindsTo.of_eq rfl⟩ rfl ?_
  apply Exists.intro
  apply SS_cons
  · apply SX_Assign (pv := .str w)
    · apply SE_subL
      · apply SE_List
        · exact SEs_cons SE_str (SEs_cons SE_str (SEs_cons SE_str (SEs_cons SE_str SEs_nil)))
        all_goals first | rfl | decide | (rintro ⟨q, h⟩; cases h; done) | (intro _; rfl) | (intro _ _; rfl) | with_unfolding_all rfl | (intro _; with_unfolding_all rfl) | (simp; done)
      · apply SE_Attr B
        · (first | exact SE_local rfl rfl | exact SE_cell rfl rfl | exact SE_free rfl rfl)
        · rfl
        · exact at_144_form hK
        all_goals first | rfl | decide | (rintro ⟨q, h⟩; cases h; done) | (intro _; rfl) | (intro _ _; rfl) | with_unfolding_all rfl | (intro _; with_unfolding_all rfl) | (simp; done)
      · exact .lst
      · exact h0
      · exact hx
    · exact .inl rfl
    all_goals first | rfl | decide | (rintro ⟨q, h⟩; cases h; done) | (intro _; rfl) | (intro _ _; rfl) | with_unfolding_all rfl | (intro _; with_unfolding_all rfl) | (simp; done)
  apply SS_cons
  · apply SX_AssignT (pv := .tup [.none, .none, .none])
    · apply SE_IfF
      · have e : false = (f == 2) := by simp [h2]
        rw [e]
        apply ST_Compare
        · apply SE_Attr B
          · (first | exact SE_local rfl rfl | exact SE_cell rfl rfl | exact SE_free rfl rfl)
          · rfl
          · exact at_144_form hK
          all_goals first | rfl | decide | (rintro ⟨q, h⟩; cases h; done) | (intro _; rfl) | (intro _ _; rfl) | with_unfolding_all rfl | (intro _; with_unfolding_all rfl) | (simp; done)
        · exact glob_BY_CLASSES hK B rfl
        · exact SC_eq
        all_goals first | rfl | decide | (rintro ⟨q, h⟩; cases h; done) | (intro _; rfl) | (intro _ _; rfl) | with_unfolding_all rfl | (intro _; with_unfolding_all rfl) | (simp; done)
      · apply SE_Tuple
        · exact SEs_cons SE_none (SEs_cons SE_none (SEs_cons SE_none SEs_nil))
        all_goals first | rfl | decide | (rintro ⟨q, h⟩; cases h; done) | (intro _; rfl) | (intro _ _; rfl) | with_unfolding_all rfl | (intro _; with_unfolding_all rfl) | (simp; done)
    · exact .tup
    · exact .cons rfl (SA_name (.inl rfl)) (.cons rfl (SA_name (.inl rfl)) (.cons rfl (SA_name (.inl rfl)) .nil))
    all_goals first | rfl | decide | (rintro ⟨q, h⟩; cases h; done) | (intro _; rfl) | (intro _ _; rfl) | with_unfolding_all rfl | (intro _; with_unfolding_all rfl) | (simp; done)
  apply SS_one
  · apply SX_Return
    apply SE_Tuple
    · apply SEs_cons
      · apply call_tests_of hK B
        · rfl
        · apply SEs_cons
          · apply SE_Attr B
            · (first | exact SE_local rfl rfl | exact SE_cell rfl rfl | exact SE_free rfl rfl)
            · rfl
            · exact at_101_back hK
            all_goals first | rfl | decide | (rintro ⟨q, h⟩; cases h; done) | (intro _; rfl) | (intro _ _; rfl) | with_unfolding_all rfl | (intro _; with_unfolding_all rfl) | (simp; done)
          · apply SEs_cons
            · (first | exact SE_local rfl rfl | exact SE_cell rfl rfl | exact SE_free rfl rfl)
            · apply SEs_cons
              · (first | exact SE_local rfl rfl | exact SE_cell rfl rfl | exact SE_free rfl rfl)
              · exact SEs_nil
              · rfl
            · rfl
          · rfl
        · exact c_tests_of hK B hw hr.b
        · rfl
      · apply SEs_cons
        · apply call_tests_of hK B
          · rfl
          · apply SEs_cons
            · apply SE_Attr B
              · (first | exact SE_local rfl rfl | exact SE_cell rfl rfl | exact SE_free rfl rfl)
              · rfl
              · exact at_101_inside hK
              all_goals first | rfl | decide | (rintro ⟨q, h⟩; cases h; done) | (intro _; rfl) | (intro _ _; rfl) | with_unfolding_all rfl | (intro _; with_unfolding_all rfl) | (simp; done)
            · apply SEs_cons
              · (first | exact SE_local rfl rfl | exact SE_cell rfl rfl | exact SE_free rfl rfl)
              · apply SEs_cons
                · (first | exact SE_local rfl rfl | exact SE_cell rfl rfl | exact SE_free rfl rfl)
                · exact SEs_nil
                · rfl
              · rfl
            · rfl
          · exact c_tests_of hK B hw hr.i
          · rfl
        · apply SEs_cons
          · apply call_tests_of hK B
            · rfl
            · apply SEs_cons
              · apply SE_Attr B
                · (first | exact SE_local rfl rfl | exact SE_cell rfl rfl | exact SE_free rfl rfl)
                · rfl
                · exact at_101_ahead hK
                all_goals first | rfl | decide | (rintro ⟨q, h⟩; cases h; done) | (intro _; rfl) | (intro _ _; rfl) | with_unfolding_all rfl | (intro _; with_unfolding_all rfl) | (simp; done)
              · apply SEs_cons
                · (first | exact SE_local rfl rfl | exact SE_cell rfl rfl | exact SE_free rfl rfl)
                · apply SEs_cons
                  · (first | exact SE_local rfl rfl | exact SE_cell rfl rfl | exact SE_free rfl rfl)
                  · exact SEs_nil
                  · rfl
                · rfl
              · rfl
            · exact c_tests_of hK B hw hr.a
            · rfl
          · apply SEs_cons
            · apply SE_Attr B
              · (first | exact SE_local rfl rfl | exact SE_cell rfl rfl | exact SE_free rfl rfl)
              · rfl
              · exact at_101_actions hK
              all_goals first | rfl | decide | (rintro ⟨q, h⟩; cases h; done) | (intro _; rfl) | (intro _ _; rfl) | with_unfolding_all rfl | (intro _; with_unfolding_all rfl) | (simp; done)
            · exact SEs_nil
            · rfl
          · rfl
        · rfl
      · rfl
    all_goals first | rfl | decide | (rintro ⟨q, h⟩; cases h; done) | (intro _; rfl) | (intro _ _; rfl) | with_unfolding_all rfl | (intro _; with_unfolding_all rfl) | (simp; done)
  · rfl

theorem c_rules_at_g (hK : W.K = HdT.K39 W.w.params) (B : Base W) {d : Nat} {dd : List (Int × PV)} {g : Int} {rs : List RuleA} (hd : st[d]? = some (.dict dd)) (hl : AsL st ((dd.lookup g).getD (.lst [])) (rs.map RuleA.pv)) (hr : ∀ r ∈ rs, r.Ok) (hz : rs.length < 1000) :
    SCall W (D + 3) (.ref 165) [tabPV 1 (.mref d), .int g] st (.lst (rs.map (RuleA.tests (Str.ofString "glyph")))) st := by
  refine SCall_fn' B (names := [Str.ofString "table", Str.ofString "glyph"]) (n := 2) ⟨⟨_, _, _, by rw [hK]; rfl⟩, rfl, rfl, rfl, rfl, by rw [hK]; kernel_rfl, rfl, rfl, rfl, by decide, by decide, by decide, by decide, fun s vals hin hl => match vals, hl with | [a0, a1], _ => BindsTo.of_eq rfl⟩ rfl ?_
  apply Exists.intro
  apply SS_cons
  · apply SX_IfT
    · have e : true = ((1 : Int) == 1) := by rfl
      rw [e]
      apply ST_Compare
      · apply SE_Attr B
        · (first | exact SE_local rfl rfl | exact SE_cell rfl rfl | exact SE_free rfl rfl)
        · rfl
        · exact at_144_form hK
        all_goals first | rfl | decide | (rintro ⟨q, h⟩; cases h; done) | (intro _; rfl) | (intro _ _; rfl) | with_unfolding_all rfl | (intro _; with_unfolding_all rfl) | (simp; done)
      · exact glob_BY_GLYPHS hK B rfl
      · exact SC_eq
      all_goals first | rfl | decide | (rintro ⟨q, h⟩; cases h; done) | (intro _; rfl) | (intro _ _; rfl) | with_unfolding_all rfl | (intro _; with_unfolding_all rfl) | (simp; done)
    · apply SS_one
      · apply SX_Assign
        · apply SE_getDI
          · apply SE_Attr B
            · (first | exact SE_local rfl rfl | exact SE_cell rfl rfl | exact SE_free rfl rfl)
            · rfl
            · exact at_144_sets hK
            all_goals first | rfl | decide | (rintro ⟨q, h⟩; cases h; done) | (intro _; rfl) | (intro _ _; rfl) | with_unfolding_all rfl | (intro _; with_unfolding_all rfl) | (simp; done)
          · (first | exact SE_local rfl rfl | exact SE_cell rfl rfl | exact SE_free rfl rfl)
          · apply SE_List SEs_nil
            all_goals first | rfl | decide | (rintro ⟨q, h⟩; cases h; done) | (intro _; rfl) | (intro _ _; rfl) | with_unfolding_all rfl | (intro _; with_unfolding_all rfl) | (simp; done)
          · exact .mref hd
          all_goals first | rfl | decide | (rintro ⟨q, h⟩; cases h; done) | (intro _; rfl) | (intro _ _; rfl) | with_unfolding_all rfl | (intro _; with_unfolding_all rfl) | (simp; done)
        · exact .inl rfl
        all_goals first | rfl | decide | (rintro ⟨q, h⟩; cases h; done) | (intro _; rfl) | (intro _ _; rfl) | with_unfolding_all rfl | (intro _; with_unfolding_all rfl) | (simp; done)
      · rfl
  apply SS_one
  · apply SX_Return
    apply SE_Comp (outs := rs.map (RuleA.tests (Str.ofString "glyph")))
    · apply SI_lst
      · (first | exact SE_local rfl rfl | exact SE_cell rfl rfl | exact SE_free rfl rfl)
      · exact hl
    · apply CL1.loop
      · have := List.map_map (f := RuleA.pv) (g := fun p => match p with | .obj 101 [(_, .tup b), (_, .tup i), (_, .tup a), (_, acts)] => RuleA.tests (Str.ofString "glyph") ⟨b, i, a, acts⟩ | _ => .none) (l := rs)
        rw [show (rs.map (RuleA.tests (Str.ofString "glyph"))) = _ from this.symm]
        apply CL1_map _ (.lst hl)
        intro p hp
        obtain ⟨r, hm, rfl⟩ := List.mem_map.mp hp
        apply Exists.intro
        apply And.intro
        · exact SA_name (.inl rfl)
        apply And.intro
        · apply call_rule_tests hK B
          · rfl
          · apply SEs_cons
            · (first | exact SE_local rfl rfl | exact SE_cell rfl rfl | exact SE_free rfl rfl)
            · apply SEs_cons
              · (first | exact SE_local rfl rfl | exact SE_cell rfl rfl | exact SE_free rfl rfl)
              · exact SEs_nil
              · rfl
            · rfl
          · exact c_rule_tests hK B (by decide) (by decide) (by decide) rfl (hr r hm)
          · rfl
        · exact vle_set rfl
      · simp; omega
      all_goals first | rfl | decide | (rintro ⟨q, h⟩; cases h; done) | (intro _; rfl) | (intro _ _; rfl) | with_unfolding_all rfl | (intro _; with_unfolding_all rfl) | (simp; done)
    · exact compOK rfl
    · simp; omega
    all_goals first | rfl | decide | (rintro ⟨q, h⟩; cases h; done) | (intro _; rfl) | (intro _ _; rfl) | with_unfolding_all rfl | (intro _; with_unfolding_all rfl) | (simp; done)
  · rfl

theorem c_rules_at_c (hK : W.K = HdT.K39 W.w.params) (B : Base W) {g : Int} {r : RuleA} {gs : List Int} {rest : List PV} (hi : r.i = covPV gs :: rest) (hr : r.Ok) (hs : gs.Pairwise (· < ·)) (hz : gs.length < 1000) :
    SCall W (D + 3) (.ref 165) [tabPV 3 (.dictI [(0, .lst [r.pv])]), .int g] st (.lst (if gs.any (· == g) then [r.tests (Str.ofString "cover")] else [])) (st ++ [.lst [r.pv]]) := by
  refine SCall_fn' B (names := [Str.ofString "table", Str.ofString "glyph"]) (n := 2) ⟨⟨_, _, _, by rw [hK]; rfl⟩, rfl, rfl, rfl, rfl, by rw [hK]; kernel_rfl, rfl, rfl, rfl, by decide, by decide, by decide, by decide, fun s vals hin hl => match vals, hl with | [a0, a1], _ => BindsTo.of_eq rfl⟩ rfl ?_
  apply Exists.intro
  apply SS_cons
  · apply SX_IfF
    · have e : false = ((3 : Int) == 1) := by rfl
      rw [e]
      apply ST_Compare
      · apply SE_Attr B
        · (first | exact SE_local rfl rfl | exact SE_cell rfl rfl | exact SE_free rfl rfl)
        · rfl
        · exact at_144_form hK
        all_goals first | rfl | decide | (rintro ⟨q, h⟩; cases h; done) | (intro _; rfl) | (intro _ _; rfl) | with_unfolding_all rfl | (intro _; with_unfolding_all rfl) | (simp; done)
      · exact glob_BY_GLYPHS hK B rfl
      · exact SC_eq
      all_goals first | rfl | decide | (rintro ⟨q, h⟩; cases h; done) | (intro _; rfl) | (intro _ _; rfl) | with_unfolding_all rfl | (intro _; with_unfolding_all rfl) | (simp; done)
    · apply SS_one
      · apply SX_IfF
        · have e : false = ((3 : Int) == 2) := by rfl
          rw [e]
          apply ST_Compare
          · apply SE_Attr B
            · (first | exact SE_local rfl rfl | exact SE_cell rfl rfl | exact SE_free rfl rfl)
            · rfl
            · exact at_144_form hK
            all_goals first | rfl | decide | (rintro ⟨q, h⟩; cases h; done) | (intro _; rfl) | (intro _ _; rfl) | with_unfolding_all rfl | (intro _; with_unfolding_all rfl) | (simp; done)
          · exact glob_BY_CLASSES hK B rfl
          · exact SC_eq
          all_goals first | rfl | decide | (rintro ⟨q, h⟩; cases h; done) | (intro _; rfl) | (intro _ _; rfl) | with_unfolding_all rfl | (intro _; with_unfolding_all rfl) | (simp; done)
        · apply SS_one
          · apply SX_AssignComp (outs := if gs.any (· == g) then [r.pv] else [])
            · apply SI_lst
              · apply SE_Meth0 B
                · (first | exact SE_local rfl rfl | exact SE_cell rfl rfl | exact SE_free rfl rfl)
                · rfl
                · exact me_144_rules hK
                · exact c_rules hK B (by simp)
                all_goals first | rfl | decide | (rintro ⟨q, h⟩; cases h; done) | (intro _; rfl) | (intro _ _; rfl) | with_unfolding_all rfl | (intro _; with_unfolding_all rfl) | (simp; done)
              · exact .mref (get_last _ _)
            · apply CL1.loop
              · have e : (if gs.any (· == g) then [r.pv] else []) = ([r.pv].filter (fun _ => gs.any (· == g))).map (fun p => p) := by
                  rw [List.filter_cons]; split <;> rfl
                rw [e]
                apply CL1_filter _ _ (.lst (.mref (get_last _ _)))
                intro p hp
                simp only [List.mem_singleton] at hp
                subst hp
                apply Exists.intro
                apply And.intro
                · exact SA_name (.inl rfl)
                apply And.intro
                · apply ST_val
                  · apply SE_Meth B
                    · apply SE_subT
                      · apply SE_Attr B
                        · (first | exact SE_local rfl rfl | exact SE_cell rfl rfl | exact SE_free rfl rfl)
                        · rfl
                        · exact at_101_inside hK
                        all_goals first | rfl | decide | (rintro ⟨q, h⟩; cases h; done) | (intro _; rfl) | (intro _ _; rfl) | with_unfolding_all rfl | (intro _; with_unfolding_all rfl) | (simp; done)
                      · exact SE_int
                      · decide
                      · rw [hi]; rfl
                    · rfl
                    · exact me_59_has hK
                    · apply SEs_cons
                      · (first | exact SE_local rfl rfl | exact SE_cell rfl rfl | exact SE_free rfl rfl)
                      · exact SEs_nil
                      · rfl
                    · exact c_has hK B hs hz
                    all_goals first | rfl | decide | (rintro ⟨q, h⟩; cases h; done) | (intro _; rfl) | (intro _ _; rfl) | with_unfolding_all rfl | (intro _; with_unfolding_all rfl) | (simp; done)
                  all_goals first | rfl | decide | (rintro ⟨q, h⟩; cases h; done) | (intro _; rfl) | (intro _ _; rfl) | with_unfolding_all rfl | (intro _; with_unfolding_all rfl) | (simp; done)
                apply And.intro
                · intro _
                  (first | exact SE_local rfl rfl | exact SE_cell rfl rfl | exact SE_free rfl rfl)
                · exact vle_set rfl
              · split <;> simp
              all_goals first | rfl | decide | (rintro ⟨q, h⟩; cases h; done) | (intro _; rfl) | (intro _ _; rfl) | with_unfolding_all rfl | (intro _; with_unfolding_all rfl) | (simp; done)
            · exact compOK rfl
            · split <;> simp
            · exact .inl rfl
            all_goals first | rfl | decide | (rintro ⟨q, h⟩; cases h; done) | (intro _; rfl) | (intro _ _; rfl) | with_unfolding_all rfl | (intro _; with_unfolding_all rfl) | (simp; done)
          · rfl
      · rfl
  apply SS_one
  · apply SX_Return
    apply SE_Comp (outs := if gs.any (· == g) then [r.tests (Str.ofString "cover")] else [])
    · apply SI_lst
      · (first | exact SE_local rfl rfl | exact SE_cell rfl rfl | exact SE_free rfl rfl)
      · exact .lst
    · apply CL1.loop
      · have e : (if gs.any (· == g) then [r.tests (Str.ofString "cover")] else []) = (if gs.any (· == g) then [r.pv] else []).map (fun _ => r.tests (Str.ofString "cover")) := by
          split <;> rfl
        rw [e]
        apply CL1_map _ (.lst .lst)
        intro p hp
        have hp : p = r.pv := by revert hp; split <;> simp
        subst hp
        apply Exists.intro
        apply And.intro
        · exact SA_name (.inl rfl)
        apply And.intro
        · apply call_rule_tests hK B
          · rfl
          · apply SEs_cons
            · (first | exact SE_local rfl rfl | exact SE_cell rfl rfl | exact SE_free rfl rfl)
            · apply SEs_cons
              · (first | exact SE_local rfl rfl | exact SE_cell rfl rfl | exact SE_free rfl rfl)
              · exact SEs_nil
              · rfl
            · rfl
          · exact c_rule_tests hK B (by decide) (by decide) (by decide) rfl hr
          · rfl
        · exact vle_set rfl
      · split <;> simp
      all_goals first | rfl | decide | (rintro ⟨q, h⟩; cases h; done) | (intro _; rfl) | (intro _ _; rfl) | with_unfolding_all rfl | (intro _; with_unfolding_all rfl) | (simp; done)
    · exact compOK rfl
    · split <;> simp
    all_goals first | rfl | decide | (rintro ⟨q, h⟩; cases h; done) | (intro _; rfl) | (intro _ _; rfl) | with_unfolding_all rfl | (intro _; with_unfolding_all rfl) | (simp; done)
  · rfl
end
end Mine

/-! part Fn6 -/
namespace Mine

inductive Cd where
  | a | ab | b | c
def sA : Str := Str.ofString "a"
def sB : Str := Str.ofString "b"
def sC : Str := Str.ofString "c"
def sD : Str := Str.ofString "d"
def Cd.nms : Cd → List Str
  | .a => [sA]
  | .ab => [sA, sB]
  | .b => [sB]
  | .c => [sC]
def Cd.gl : Cd → List Int
  | .a => [1]
  | .ab => [1, 2]
  | .b => [2]
  | .c => [3]
def Cd.single : Cd → Bool
  | .ab => false
  | _ => true
def Cd.one : Cd → Int
  | .a => 1
  | .ab => 1
  | .b => 2
  | .c => 3
def Cd.pv (c : Cd) : PV := .tup (c.nms.map .str)
def namesL : List (Str × PV) := [(sA, .int 1), (sB, .int 2), (sC, .int 3), (sD, .int 4)]
def nameVal (k : Str) : Int := match namesL.lookup k with
  | some (.int i) => i
  | _ => 0
def Named (k : Str) : Prop := namesL.lookup k = some (.int (nameVal k))
theorem Cd.named (c : Cd) : ∀ k ∈ c.nms, Named k := by
  cases c <;> (intro k hk; simp only [Cd.nms, List.mem_cons, List.not_mem_nil, or_false] at hk; (first | (rcases hk with rfl | rfl <;> rfl) | (subst hk; rfl)))
theorem Cd.vals (c : Cd) : c.nms.map nameVal = c.gl := by cases c <;> rfl
theorem Cd.sorted (c : Cd) : c.gl.Pairwise (· < ·) := by cases c <;> simp [Cd.gl]
def nLap (lap : Nat) : Str := Str.ofString "N" ++ Str.ofString (toString (lap : Int))
def numsL : List (Str × PV) := (List.range 5).map fun lap => (nLap lap, .int (10 + (lap : Int)))
structure RowA where
  b : List Cd
  i : List Cd
  a : List Cd
  lap : Nat
def RowA.parts (r : RowA) : List (List Cd) := [r.b, r.i, r.a]
def partPV (cs : List Cd) : PV := .tup (cs.map Cd.pv)
def RowA.pv (r : RowA) : PV := rowPV (.str (Str.ofString "chain")) (.tup [.str (Str.ofString "sub"), partPV r.b, partPV r.i, partPV r.a, .tup [.tup [.int 0, .str (nLap r.lap)]]])
def RowA.acts (r : RowA) : PV := .tup [.tup [.int 0, .int (10 + (r.lap : Int))]]
def RowA.plain (r : RowA) : Bool := (r.b ++ r.i ++ r.a).all Cd.single
structure RowA.Ok (r : RowA) : Prop where
  b : r.b.length < 500
  i : r.i.length < 500
  a : r.a.length < 500
  ne : r.i ≠ []
  lap : r.lap < 5
theorem nums_look {lap : Nat} (h : lap < 5) : numsL.lookup (nLap lap) = some (.int (10 + (lap : Int))) := by
  match lap, h with
  | 0, _ => rfl
  | 1, _ => rfl
  | 2, _ => rfl
  | 3, _ => rfl
  | 4, _ => rfl

section
variable {W : Wd} {D : Nat} {st : St}

theorem c_glyph_of_name (hK : W.K = HdT.K39 W.w.params) (B : Base W) {k : Str} (h : Named k) : SCall W (D + 1) (.ref 214) [.dictS namesL, .str k] st (.int (nameVal k)) st := by
  refine SCall_fn' B (names := [Str.ofString "names", Str.ofString "name"]) (n := 2) ⟨⟨_, _, _, by rw [hK]; rfl⟩, rfl, rfl, rfl, rfl, by rw [hK]; kernel_rfl, rfl, rfl, rfl, by decide, by decide, by decide, by decide, fun s vals hin hl => match vals, hl with | [a0, a1], _ => BindsTo.of_eq rfl⟩ rfl ?_
  apply Exists.intro
  apply SS_cons
  · apply SX_IfF
    · have e : false = !(namesL.lookup k).isSome := by rw [h]; rfl
      rw [e]
      apply ST_Compare
      · (first | exact SE_local rfl rfl | exact SE_cell rfl rfl | exact SE_free rfl rfl)
      · (first | exact SE_local rfl rfl | exact SE_cell rfl rfl | exact SE_free rfl rfl)
      · exact SC_notInDS
      all_goals first | rfl | decide | (rintro ⟨q, h⟩; cases h; done) | (intro _; rfl) | (intro _ _; rfl) | with_unfolding_all rfl | (intro _; with_unfolding_all rfl) | (simp; done)
    · exact SS_nil
  apply SS_one
  · apply SX_Return
    apply SE_subDS
    · (first | exact SE_local rfl rfl | exact SE_cell rfl rfl | exact SE_free rfl rfl)
    · (first | exact SE_local rfl rfl | exact SE_cell rfl rfl | exact SE_free rfl rfl)
    · exact h
  · rfl

theorem c_glyphs_of_names_t (hK : W.K = HdT.K39 W.w.params) (B : Base W) {ks : List Str} (h : ∀ k ∈ ks, Named k) (hz : ks.length < 1000) : SCall W (D + 2) (.ref 219) [.dictS namesL, .tup (ks.map .str)] st (.tup (ks.map fun k => .int (nameVal k))) st := by
  refine SCall_fn' B (names := [Str.ofString "names", Str.ofString "row"]) (n := 2) ⟨⟨_, _, _, by rw [hK]; rfl⟩, rfl, rfl, rfl, rfl, by rw [hK]; kernel_rfl, rfl, rfl, rfl, by decide, by decide, by decide, by decide, fun s vals hin hl => match vals, hl with | [a0, a1], _ => BindsTo.of_eq rfl⟩ rfl ?_
  apply Exists.intro
  apply SS_one
  · apply SX_Return
    apply call_tuple B
    · rfl
    · apply SE_Comp (outs := ks.map fun k => .int (nameVal k))
      · apply SI_tup
        (first | exact SE_local rfl rfl | exact SE_cell rfl rfl | exact SE_free rfl rfl)
      · apply CL1.loop
        · have := List.map_map (f := PV.str) (g := fun p => match p with | .str k => PV.int (nameVal k) | _ => .none) (l := ks)
          rw [show (ks.map fun k => PV.int (nameVal k)) = _ from this.symm]
          apply CL1_map _ .tup
          intro p hp
          obtain ⟨k, hm, rfl⟩ := List.mem_map.mp hp
          apply Exists.intro
          apply And.intro
          · exact SA_name (.inl rfl)
          apply And.intro
          · apply call_glyph_of_name hK B
            · rfl
            · apply SEs_cons
              · (first | exact SE_local rfl rfl | exact SE_cell rfl rfl | exact SE_free rfl rfl)
              · apply SEs_cons
                · (first | exact SE_local rfl rfl | exact SE_cell rfl rfl | exact SE_free rfl rfl)
                · exact SEs_nil
                · rfl
              · rfl
            · exact c_glyph_of_name hK B (h k hm)
            · rfl
          · exact vle_set rfl
        · simp; omega
        all_goals first | rfl | decide | (rintro ⟨q, h⟩; cases h; done) | (intro _; rfl) | (intro _ _; rfl) | with_unfolding_all rfl | (intro _; with_unfolding_all rfl) | (simp; done)
      · exact compOK rfl
      · simp; omega
      all_goals first | rfl | decide | (rintro ⟨q, h⟩; cases h; done) | (intro _; rfl) | (intro _ _; rfl) | with_unfolding_all rfl | (intro _; with_unfolding_all rfl) | (simp; done)
    · exact SCall_tupleL .lst
    · rfl
  · rfl
theorem c_glyphs_of_names_l (hK : W.K = HdT.K39 W.w.params) (B : Base W) {ks : List Str} (h : ∀ k ∈ ks, Named k) (hz : ks.length < 1000) : SCall W (D + 2) (.ref 219) [.dictS namesL, .lst (ks.map .str)] st (.tup (ks.map fun k => .int (nameVal k))) st := by
  refine SCall_fn' B (names := [Str.ofString "names", Str.ofString "row"]) (n := 2) ⟨⟨_, _, _, by rw [hK]; rfl⟩, rfl, rfl, rfl, rfl, by rw [hK]; kernel_rfl, rfl, rfl, rfl, by decide, by decide, by decide, by decide, fun s vals hin hl => match vals, hl with | [a0, a1], _ => BindsTo.of_eq rfl⟩ rfl ?_
  apply Exists.intro
  apply SS_one
  · apply SX_Return
    apply call_tuple B
    · rfl
    · apply SE_Comp (outs := ks.map fun k => .int (nameVal k))
      · apply SI_lst
        · (first | exact SE_local rfl rfl | exact SE_cell rfl rfl | exact SE_free rfl rfl)
        · exact .lst
      · apply CL1.loop
        · have := List.map_map (f := PV.str) (g := fun p => match p with | .str k => PV.int (nameVal k) | _ => .none) (l := ks)
          rw [show (ks.map fun k => PV.int (nameVal k)) = _ from this.symm]
          apply CL1_map _ (.lst .lst)
          intro p hp
          obtain ⟨k, hm, rfl⟩ := List.mem_map.mp hp
          apply Exists.intro
          apply And.intro
          · exact SA_name (.inl rfl)
          apply And.intro
          · apply call_glyph_of_name hK B
            · rfl
            · apply SEs_cons
              · (first | exact SE_local rfl rfl | exact SE_cell rfl rfl | exact SE_free rfl rfl)
              · apply SEs_cons
                · (first | exact SE_local rfl rfl | exact SE_cell rfl rfl | exact SE_free rfl rfl)
                · exact SEs_nil
                · rfl
              · rfl
            · exact c_glyph_of_name hK B (h k hm)
            · rfl
          · exact vle_set rfl
        · simp; omega
        all_goals first | rfl | decide | (rintro ⟨q, h⟩; cases h; done) | (intro _; rfl) | (intro _ _; rfl) | with_unfolding_all rfl | (intro _; with_unfolding_all rfl) | (simp; done)
      · exact compOK rfl
      · simp; omega
      all_goals first | rfl | decide | (rintro ⟨q, h⟩; cases h; done) | (intro _; rfl) | (intro _ _; rfl) | with_unfolding_all rfl | (intro _; with_unfolding_all rfl) | (simp; done)
    · exact SCall_tupleL .lst
    · rfl
  · rfl

def manyOf (cs : List Cd) : List PV := (cs.map Cd.pv).filter (fun q => match q with | .tup m => ((m.length : Int) != 1) | _ => false)
theorem many_nil (cs : List Cd) : (manyOf cs).isEmpty = cs.all Cd.single := by
  unfold manyOf
  induction cs with
  | nil => rfl
  | cons c cs ih => cases c <;> simp_all [Cd.pv, Cd.nms, Cd.single]
theorem isEmpty_app {α : Type} (a b : List α) : (a ++ b).isEmpty = (a.isEmpty && b.isEmpty) := by cases a <;> rfl
theorem c_is_of_glyphs (hK : W.K = HdT.K39 W.w.params) (B : Base W) {r : RowA} (hr : r.Ok) : SCall W (D + 1) (.ref 224) [r.pv] st (.bool r.plain) st := by
  refine SCall_fn' B (names := [Str.ofString "row"]) (n := 1) ⟨⟨_, _, _, by rw [hK]; rfl⟩, rfl, rfl, rfl, rfl, by rw [hK]; kernel_rfl, rfl, rfl, rfl, by decide, by decide, by decide, by decide, fun s vals hin hl => match vals, hl with | [a0], _ => BindsTo.of_eq rfl⟩ rfl ?_
  apply Exists.intro
  have e : r.plain = (r.parts.flatMap manyOf).isEmpty := by
    simp only [RowA.plain, RowA.parts, List.flatMap_cons, List.flatMap_nil, List.append_nil, isEmpty_app, many_nil, List.all_append, Bool.and_assoc]
  rw [e]
  have hz : (r.parts.flatMap manyOf).length ≤ 100000 := by
    have h1 : ∀ cs, (manyOf cs).length ≤ cs.length := fun cs => by
      have := List.length_filter_le (fun q : PV => match q with | .tup m => ((m.length : Int) != 1) | _ => false) (cs.map Cd.pv)
      rw [List.length_map] at this; exact this
    have := h1 r.b; have := h1 r.i; have := h1 r.a
    have := hr.b; have := hr.i; have := hr.a
    simp [RowA.parts]; omega
  apply SS_one
  · apply SX_Return
    apply SE_Compare
    · apply SE_Comp (outs := r.parts.flatMap manyOf)
      · apply SI_tup
        apply SE_slice14
        apply SE_Attr B
        · (first | exact SE_local rfl rfl | exact SE_cell rfl rfl | exact SE_free rfl rfl)
        · rfl
        · exact at_300_parts hK
        all_goals first | rfl | decide | (rintro ⟨q, h⟩; cases h; done) | (intro _; rfl) | (intro _ _; rfl) | with_unfolding_all rfl | (intro _; with_unfolding_all rfl) | (simp; done)
      · apply CL2.loop
        · have e2 : r.parts.flatMap manyOf = (r.parts.map partPV).flatMap (fun p => match p with | .tup l => (l.filter (fun q => match q with | .tup m => ((m.length : Int) != 1) | _ => false)).map (fun p => p) | _ => []) := by
            simp [RowA.parts, partPV, manyOf]
          rw [e2]
          apply CL2_flat _ .tup
          intro p hp
          obtain ⟨cs, rfl⟩ : ∃ cs, p = partPV cs := by
            simp only [List.mem_cons, List.not_mem_nil, or_false] at hp
            rcases hp with rfl | rfl | rfl <;> exact ⟨_, rfl⟩
          apply Exists.intro
          apply Exists.intro
          apply Exists.intro
          apply Exists.intro
          apply And.intro
          · exact SA_name (.inl rfl)
          apply And.intro
          · apply SI_tup (l := cs.map Cd.pv)
            (first | exact SE_local rfl rfl | exact SE_cell rfl rfl | exact SE_free rfl rfl)
          apply And.intro
          · rintro ⟨q, h⟩; cases h
          apply And.intro
          · apply CL1_filter _ _ .tup
            intro p hp
            obtain ⟨c, hc, rfl⟩ := List.mem_map.mp hp
            apply Exists.intro
            apply And.intro
            · exact SA_name (.inl rfl)
            apply And.intro
            · apply ST_Compare
              · apply call_len B
                · rfl
                · (first | exact SE_local rfl rfl | exact SE_cell rfl rfl | exact SE_free rfl rfl)
                · exact SCall_len .tup
                · rfl
              · exact SE_int
              · exact SC_ne
              all_goals first | rfl | decide | (rintro ⟨q, h⟩; cases h; done) | (intro _; rfl) | (intro _ _; rfl) | with_unfolding_all rfl | (intro _; with_unfolding_all rfl) | (simp; done)
            apply And.intro
            · intro _
              (first | exact SE_local rfl rfl | exact SE_cell rfl rfl | exact SE_free rfl rfl)
            · exact vle_set rfl
          · exact vle_set rfl
        · exact hz
        all_goals first | rfl | decide | (rintro ⟨q, h⟩; cases h; done) | (intro _; rfl) | (intro _ _; rfl) | with_unfolding_all rfl | (intro _; with_unfolding_all rfl) | (simp; done)
      · exact compOK rfl
      · exact hz
      all_goals first | rfl | decide | (rintro ⟨q, h⟩; cases h; done) | (intro _; rfl) | (intro _ _; rfl) | with_unfolding_all rfl | (intro _; with_unfolding_all rfl) | (simp; done)
    · apply SE_List SEs_nil
      all_goals first | rfl | decide | (rintro ⟨q, h⟩; cases h; done) | (intro _; rfl) | (intro _ _; rfl) | with_unfolding_all rfl | (intro _; with_unfolding_all rfl) | (simp; done)
    · exact SC_eqNil .lst
    all_goals first | rfl | decide | (rintro ⟨q, h⟩; cases h; done) | (intro _; rfl) | (intro _ _; rfl) | with_unfolding_all rfl | (intro _; with_unfolding_all rfl) | (simp; done)
  · rfl

theorem c_actions_of (hK : W.K = HdT.K39 W.w.params) (B : Base W) {r : RowA} (hr : r.Ok) : SCall W (D + 1) (.ref 231) [r.pv, .dictS numsL] st r.acts (st ++ [.lst [.tup [.int 0, .int (10 + (r.lap : Int))]]]) := by
  refine SCall_fn' B (names := [Str.ofString "row", Str.ofString "numbers"]) (n := 2) ⟨⟨_, _, _, by rw [hK]; rfl⟩, rfl, rfl, rfl, rfl, by rw [hK]; kernel_rfl, rfl, rfl, rfl, by decide, by decide, by decide, by decide, fun s vals hin hl => match vals, hl with | [a0, a1], _ => BindsTo.of_eq rfl⟩ rfl ?_
  apply Exists.intro
  apply SS_cons
  · apply SX_Assign (SE_ListM SEs_nil) (.inl rfl)
    all_goals first | rfl | decide | (rintro ⟨q, h⟩; cases h; done) | (intro _; rfl) | (intro _ _; rfl) | with_unfolding_all rfl | (intro _; with_unfolding_all rfl) | (simp; done)
  apply SS_cons
  · apply SX_For (src := .tup [.tup [.int 0, .str (nLap r.lap)]]) (l := [.tup [.int 0, .str (nLap r.lap)]])
    · apply SI_tup
      apply SE_subT
      · apply SE_Attr B
        · (first | exact SE_local rfl rfl | exact SE_cell rfl rfl | exact SE_free rfl rfl)
        · rfl
        · exact at_300_parts hK
        all_goals first | rfl | decide | (rintro ⟨q, h⟩; cases h; done) | (intro _; rfl) | (intro _ _; rfl) | with_unfolding_all rfl | (intro _; with_unfolding_all rfl) | (simp; done)
      · exact SE_int
      · decide
      · rfl
    · apply ForL.step rfl .tup
      · exact SA_tuple .tup (.cons rfl (SA_name (.inl rfl)) (.cons rfl (SA_name (.inl rfl)) .nil))
      · apply SS_cons
        · apply SX_IfF
          · have e : false = !(numsL.lookup (nLap r.lap)).isSome := by rw [nums_look hr.lap]; rfl
            rw [e]
            apply ST_Compare
            · (first | exact SE_local rfl rfl | exact SE_cell rfl rfl | exact SE_free rfl rfl)
            · (first | exact SE_local rfl rfl | exact SE_cell rfl rfl | exact SE_free rfl rfl)
            · exact SC_notInDS
            all_goals first | rfl | decide | (rintro ⟨q, h⟩; cases h; done) | (intro _; rfl) | (intro _ _; rfl) | with_unfolding_all rfl | (intro _; with_unfolding_all rfl) | (simp; done)
          · exact SS_nil
        apply SS_one
        · apply SX_Expr
          · apply SE_append
            · (first | exact SE_local rfl rfl | exact SE_cell rfl rfl | exact SE_free rfl rfl)
            · exact get_last _ _
            · apply SE_Tuple
              · apply SEs_cons
                · (first | exact SE_local rfl rfl | exact SE_cell rfl rfl | exact SE_free rfl rfl)
                · apply SEs_cons
                  · apply SE_subDS
                    · (first | exact SE_local rfl rfl | exact SE_cell rfl rfl | exact SE_free rfl rfl)
                    · (first | exact SE_local rfl rfl | exact SE_cell rfl rfl | exact SE_free rfl rfl)
                    · exact nums_look hr.lap
                  · exact SEs_nil
                  · rfl
                · rfl
              all_goals first | rfl | decide | (rintro ⟨q, h⟩; cases h; done) | (intro _; rfl) | (intro _ _; rfl) | with_unfolding_all rfl | (intro _; with_unfolding_all rfl) | (simp; done)
            · exact get_last _ _
            · decide
            all_goals first | rfl | decide | (rintro ⟨q, h⟩; cases h; done) | (intro _; rfl) | (intro _ _; rfl) | with_unfolding_all rfl | (intro _; with_unfolding_all rfl) | (simp; done)
          all_goals first | rfl | decide | (rintro ⟨q, h⟩; cases h; done) | (intro _; rfl) | (intro _ _; rfl) | with_unfolding_all rfl | (intro _; with_unfolding_all rfl) | (simp; done)
        · rw [set_last]
      · exact .inl rfl
      · exact VLe.refl _
      · exact .done (Nat.le_refl _) .tup
    all_goals first | rfl | decide | (rintro ⟨q, h⟩; cases h; done) | (intro _; rfl) | (intro _ _; rfl) | with_unfolding_all rfl | (intro _; with_unfolding_all rfl) | (simp; done)
  apply SS_one
  · apply SX_Return
    apply call_tuple B
    · rfl
    · (first | exact SE_local rfl rfl | exact SE_cell rfl rfl | exact SE_free rfl rfl)
    · exact SCall_tupleL (.mref (get_last _ _))
    · rfl
  · rfl
end
end Mine

/-! part Fn7 -/
namespace Mine
def onePV (c : Cd) : PV := .int c.one
def covOf (c : Cd) : PV := covPV c.gl
def ruleG (r : RowA) : RuleA := ⟨(r.b.map onePV).reverse, r.i.map onePV, r.a.map onePV, r.acts⟩
def ruleC (r : RowA) : RuleA := ⟨(r.b.map covOf).reverse, r.i.map covOf, r.a.map covOf, r.acts⟩
def actSt (r : RowA) : MO := .lst [.tup [.int 0, .int (10 + (r.lap : Int))]]
def Cd.head : Cd → Str
  | .a => sA
  | .ab => sA
  | .b => sB
  | .c => sC
theorem Cd.head_get (c : Cd) : (c.nms.map PV.str)[(0 : Int).toNat]? = some (.str c.head) := by cases c <;> rfl
theorem Cd.head_named (c : Cd) : Named c.head := by cases c <;> rfl
theorem Cd.head_val (c : Cd) : nameVal c.head = c.one := by cases c <;> rfl
def dOf (cs : List Cd) : St := cs.map fun c => .dict (c.gl.map fun g => (g, .bool true))
theorem part_len {r : RowA} (hr : r.Ok) : ∀ cs ∈ r.parts, cs.length < 500 := by
  intro cs h
  simp only [RowA.parts, List.mem_cons, List.not_mem_nil, or_false] at h
  rcases h with rfl | rfl | rfl
  · exact hr.b
  · exact hr.i
  · exact hr.a

section
variable {W : Wd} {D : Nat} {st : St}

theorem c_glyph_rule (hK : W.K = HdT.K39 W.w.params) (B : Base W) {r : RowA} (hr : r.Ok) : SCall W (D + 3) (.ref 236) [r.pv, .dictS namesL, .dictS numsL] st (ruleG r).pv (st ++ [actSt r]) := by
  refine SCall_fn' B (names := [Str.ofString "row", Str.ofString "names", Str.ofString "numbers"]) (n := 3) ⟨⟨_, _, _, by rw [hK]; rfl⟩, rfl, rfl, rfl, rfl, by rw [hK]; kernel_rfl, rfl, rfl, rfl, by decide, by decide, by decide, by decide, fun s vals hin hl => match vals, hl with | [a0, a1, a2], _ => BindsTo.of_eq rfl⟩ rfl ?_
  apply Exists.intro
  apply SS_cons
  · apply SX_AssignT (pv := .lst (r.parts.map fun cs => .tup (cs.map onePV)))
    · apply SE_Comp
      · apply SI_tup
        apply SE_slice14
        apply SE_Attr B
        · (first | exact SE_local rfl rfl | exact SE_cell rfl rfl | exact SE_free rfl rfl)
        · rfl
        · exact at_300_parts hK
        all_goals first | rfl | decide | (rintro ⟨q, h⟩; cases h; done) | (intro _; rfl) | (intro _ _; rfl) | with_unfolding_all rfl | (intro _; with_unfolding_all rfl) | (simp; done)
      · apply CL1.loop
        · have e : (r.parts.map fun cs => PV.tup (cs.map onePV)) = (r.parts.map partPV).map (fun p => match p with | .tup l => .tup (l.map fun q => match q with | .tup (.str k :: _) => .int (nameVal k) | _ => .none) | _ => .none) := by
            rw [List.map_map]
            apply List.map_congr_left
            intro cs _
            show PV.tup _ = PV.tup _
            congr 1
            show _ = List.map _ (List.map _ _)
            rw [List.map_map]
            apply List.map_congr_left
            intro c _
            cases c <;> rfl
          rw [e]
          apply CL1_map _ .tup
          intro p hp
          obtain ⟨cs, rfl, hcs⟩ : ∃ cs, p = partPV cs ∧ cs.length < 500 := by
            obtain ⟨cs, h1, h2⟩ := List.mem_map.mp (show p ∈ r.parts.map partPV from hp)
            exact ⟨cs, h2.symm, part_len hr cs h1⟩
          apply Exists.intro
          apply And.intro
          · exact SA_name (.inl rfl)
          apply And.intro
          · apply call_glyphs_of_names hK B
            · rfl
            · apply SEs_cons
              · (first | exact SE_local rfl rfl | exact SE_cell rfl rfl | exact SE_free rfl rfl)
              · apply SEs_cons
                · apply SE_Comp (outs := (cs.map Cd.head).map .str)
                  · apply SI_tup (l := cs.map Cd.pv)
                    (first | exact SE_local rfl rfl | exact SE_cell rfl rfl | exact SE_free rfl rfl)
                  · apply CL1.loop
                    · have e : (cs.map Cd.head).map PV.str = (cs.map Cd.pv).map (fun p => match p with | .tup (q :: _) => q | _ => .none) := by
                        rw [List.map_map, List.map_map]
                        apply List.map_congr_left
                        intro c _
                        cases c <;> rfl
                      rw [e]
                      apply CL1_map _ .tup
                      intro p hp
                      obtain ⟨c, _, rfl⟩ := List.mem_map.mp hp
                      apply Exists.intro
                      apply And.intro
                      · exact SA_name (.inl rfl)
                      apply And.intro
                      · apply SE_subT (l := c.nms.map .str)
                        · (first | exact SE_local rfl rfl | exact SE_cell rfl rfl | exact SE_free rfl rfl)
                        · exact SE_int
                        · decide
                        · rw [Cd.head_get]; cases c <;> rfl
                      · exact vle_set rfl
                    · simp; omega
                    all_goals first | rfl | decide | (rintro ⟨q, h⟩; cases h; done) | (intro _; rfl) | (intro _ _; rfl) | with_unfolding_all rfl | (intro _; with_unfolding_all rfl) | (simp; done)
                  · exact compOK rfl
                  · simp; omega
                  all_goals first | rfl | decide | (rintro ⟨q, h⟩; cases h; done) | (intro _; rfl) | (intro _ _; rfl) | with_unfolding_all rfl | (intro _; with_unfolding_all rfl) | (simp; done)
                · exact SEs_nil
                · rfl
              · rfl
            · have := c_glyphs_of_names_l (D := D) (st := st) hK B (ks := cs.map Cd.head) (by intro k hk; obtain ⟨c, _, rfl⟩ := List.mem_map.mp hk; exact c.head_named) (by simp; omega)
              have e : ((cs.map Cd.head).map fun k => PV.int (nameVal k)) = (cs.map Cd.pv).map (fun q => match q with | .tup (.str k :: _) => .int (nameVal k) | _ => .none) := by
                rw [List.map_map, List.map_map]
                apply List.map_congr_left
                intro c _
                cases c <;> rfl
              rw [e] at this
              exact this
            · rfl
          · exact vle_set rfl
        · simp [RowA.parts]
        all_goals first | rfl | decide | (rintro ⟨q, h⟩; cases h; done) | (intro _; rfl) | (intro _ _; rfl) | with_unfolding_all rfl | (intro _; with_unfolding_all rfl) | (simp; done)
      · exact compOK rfl
      · simp [RowA.parts]
      all_goals first | rfl | decide | (rintro ⟨q, h⟩; cases h; done) | (intro _; rfl) | (intro _ _; rfl) | with_unfolding_all rfl | (intro _; with_unfolding_all rfl) | (simp; done)
    · exact .lst .lst
    · exact .cons rfl (SA_name (.inl rfl)) (.cons rfl (SA_name (.inl rfl)) (.cons rfl (SA_name (.inl rfl)) .nil))
    all_goals first | rfl | decide | (rintro ⟨q, h⟩; cases h; done) | (intro _; rfl) | (intro _ _; rfl) | with_unfolding_all rfl | (intro _; with_unfolding_all rfl) | (simp; done)
  apply SS_one
  · apply SX_Return
    apply call_Rule hK B
    · rfl
    · apply SEs_cons
      · apply SE_sliceRev
        (first | exact SE_local rfl rfl | exact SE_cell rfl rfl | exact SE_free rfl rfl)
      · apply SEs_cons
        · (first | exact SE_local rfl rfl | exact SE_cell rfl rfl | exact SE_free rfl rfl)
        · apply SEs_cons
          · (first | exact SE_local rfl rfl | exact SE_cell rfl rfl | exact SE_free rfl rfl)
          · apply SEs_cons
            · apply call_actions_of hK B
              · rfl
              · apply SEs_cons
                · (first | exact SE_local rfl rfl | exact SE_cell rfl rfl | exact SE_free rfl rfl)
                · apply SEs_cons
                  · (first | exact SE_local rfl rfl | exact SE_cell rfl rfl | exact SE_free rfl rfl)
                  · exact SEs_nil
                  · rfl
                · rfl
              · exact c_actions_of hK B hr
              · rfl
            · exact SEs_nil
            · rfl
          · rfl
        · rfl
      · rfl
    · exact new_Rule hK B
    · rfl
  · rfl

theorem CL1_fold' {V : Vars} {l : List PV} {src : Src} {t elt : Expr} {st0 stn : St} {outs : List PV} (S : Nat → St) (g : Nat → PV) (h0 : S 0 = st0) (hn : S l.length = stn) (ho : (List.range l.length).map g = outs) (hit : ∀ i, i ≤ l.length → Items (S i) src l)
    (h : ∀ i p, l[i]? = some p → ∃ V₁, SA W D V t p (S i) V₁ (S i) ∧ SE W D V₁ elt (S i) (g i) (S (i + 1)) ∧ VLe V V₁) :
    CL1 W D t [] elt src l 0 V st0 outs V stn := by
  subst h0 hn ho
  exact CL1_fold S g hit h
theorem range_map {α : Type} (f : α → PV) (d : PV) (l : List α) : (List.range l.length).map (fun k => (l[k]?.map f).getD d) = l.map f := by
  apply List.ext_getElem?
  intro i
  simp only [List.getElem?_map]
  by_cases h : i < l.length
  · rw [List.getElem?_range h, List.getElem?_eq_getElem h]
    simp [List.getElem?_eq_getElem h]
  · rw [List.getElem?_eq_none (by simpa using h), List.getElem?_eq_none (by simpa using h)]
    rfl
theorem gl_of (c : Cd) : (c.nms.map fun k => PV.int (nameVal k)) = c.gl.map .int := by cases c <;> rfl
def covSt (r : RowA) (j : Nat) : St := (r.parts.take j).flatMap dOf
theorem c_cover_rule (hK : W.K = HdT.K39 W.w.params) (B : Base W) {r : RowA} (hr : r.Ok) : SCall W (D + 4) (.ref 241) [r.pv, .dictS namesL, .dictS numsL] st (ruleC r).pv (st ++ covSt r 3 ++ [actSt r]) := by
  refine SCall_fn' B (names := [Str.ofString "row", Str.ofString "names", Str.ofString "numbers"]) (n := 3) ⟨⟨_, _, _, by rw [hK]; rfl⟩, rfl, rfl, rfl, rfl, by rw [hK]; kernel_rfl, rfl, rfl, rfl, by decide, by decide, by decide, by decide, fun s vals hin hl => match vals, hl with | [a0, a1, a2], _ => BindsTo.of_eq rfl⟩ rfl ?_
  apply Exists.intro
  apply SS_cons
  · apply SX_AssignComp (outs := (List.range (r.parts.map partPV).length).map fun j => .tup ((r.parts[j]?.getD []).map covOf)) (st' := st ++ covSt r (r.parts.map partPV).length)
    · apply SI_tup (l := r.parts.map partPV)
      apply SE_slice14
      apply SE_Attr B
      · (first | exact SE_local rfl rfl | exact SE_cell rfl rfl | exact SE_free rfl rfl)
      · rfl
      · exact at_300_parts hK
      all_goals first | rfl | decide | (rintro ⟨q, h⟩; cases h; done) | (intro _; rfl) | (intro _ _; rfl) | with_unfolding_all rfl | (intro _; with_unfolding_all rfl) | (simp; done)
    · apply CL1.loop
      · refine CL1_fold' (fun j => st ++ covSt r j) (fun j => .tup ((r.parts[j]?.getD []).map covOf)) (by simp [covSt]) rfl rfl (fun _ _ => .tup) ?_
        intro j p hp
        obtain ⟨cs, hj, rfl⟩ : ∃ cs, r.parts[j]? = some cs ∧ partPV cs = p := by
          rw [List.getElem?_map] at hp
          obtain ⟨cs, h1, h2⟩ := Option.map_eq_some_iff.mp hp
          exact ⟨cs, h1, h2⟩
        have hcs : cs.length < 500 := part_len hr cs (List.mem_of_getElem? hj)
        rw [hj]
        have hst : st ++ covSt r (j + 1) = st ++ covSt r j ++ dOf cs := by
          simp [covSt, List.take_add_one, hj]
        rw [hst]
        apply Exists.intro
        apply And.intro
        · exact SA_name (.inl rfl)
        apply And.intro
        · apply call_tuple B
          · rfl
          · apply SE_Comp (outs := cs.map covOf)
            · apply SI_tup (l := cs.map Cd.pv)
              (first | exact SE_local rfl rfl | exact SE_cell rfl rfl | exact SE_free rfl rfl)
            · apply CL1.loop
              · refine CL1_fold' (fun k => st ++ covSt r j ++ dOf (cs.take k)) (fun k => (cs[k]?.map covOf).getD .none) (by simp [dOf]) (by rw [List.length_map, List.take_length]) (by rw [List.length_map]; exact range_map covOf .none cs) (fun _ _ => .tup) ?_
                intro k p hp
                rw [List.getElem?_map] at hp
                obtain ⟨c, hc, rfl⟩ := Option.map_eq_some_iff.mp hp
                rw [hc]
                apply Exists.intro
                apply And.intro
                · exact SA_name (.inl rfl)
                apply And.intro
                · apply call_coverage_of hK B
                  · rfl
                  · apply SEs_cons
                    · apply call_glyphs_of_names hK B
                      · rfl
                      · apply SEs_cons
                        · (first | exact SE_local rfl rfl | exact SE_cell rfl rfl | exact SE_free rfl rfl)
                        · apply SEs_cons
                          · (first | exact SE_local rfl rfl | exact SE_cell rfl rfl | exact SE_free rfl rfl)
                          · exact SEs_nil
                          · rfl
                        · rfl
                      · exact c_glyphs_of_names_t hK B c.named (by cases c <;> decide)
                      · rfl
                    · exact SEs_nil
                    · rfl
                  · have := c_coverage_of (D := D) (st := st ++ covSt r j ++ dOf (cs.take k)) hK B c.sorted (by cases c <;> decide)
                    rw [gl_of]
                    have e : st ++ covSt r j ++ dOf (cs.take (k + 1)) = st ++ covSt r j ++ dOf (cs.take k) ++ [.dict (c.gl.map fun g => (g, .bool true))] := by
                      simp [dOf, List.take_add_one, hc]
                    rw [e]
                    exact this
                  · rfl
                · exact vle_set rfl
              · simp; omega
              all_goals first | rfl | decide | (rintro ⟨q, h⟩; cases h; done) | (intro _; rfl) | (intro _ _; rfl) | with_unfolding_all rfl | (intro _; with_unfolding_all rfl) | (simp; done)
            · exact compOK rfl
            · simp; omega
            all_goals first | rfl | decide | (rintro ⟨q, h⟩; cases h; done) | (intro _; rfl) | (intro _ _; rfl) | with_unfolding_all rfl | (intro _; with_unfolding_all rfl) | (simp; done)
          · exact SCall_tupleL .lst
          · rfl
        · exact vle_set rfl
      · simp [RowA.parts]
      all_goals first | rfl | decide | (rintro ⟨q, h⟩; cases h; done) | (intro _; rfl) | (intro _ _; rfl) | with_unfolding_all rfl | (intro _; with_unfolding_all rfl) | (simp; done)
    · exact compOK rfl
    · simp [RowA.parts]
    · exact .inl rfl
    all_goals first | rfl | decide | (rintro ⟨q, h⟩; cases h; done) | (intro _; rfl) | (intro _ _; rfl) | with_unfolding_all rfl | (intro _; with_unfolding_all rfl) | (simp; done)
  apply SS_one
  · apply SX_Return
    apply call_Rule hK B
    · rfl
    · apply SEs_cons
      · apply SE_sliceRev
        apply SE_subL
        · (first | exact SE_local rfl rfl | exact SE_cell rfl rfl | exact SE_free rfl rfl)
        · exact SE_int
        · exact .lst
        · decide
        · rfl
      · apply SEs_cons
        · apply SE_subL
          · (first | exact SE_local rfl rfl | exact SE_cell rfl rfl | exact SE_free rfl rfl)
          · exact SE_int
          · exact .lst
          · decide
          · rfl
        · apply SEs_cons
          · apply SE_subL
            · (first | exact SE_local rfl rfl | exact SE_cell rfl rfl | exact SE_free rfl rfl)
            · exact SE_int
            · exact .lst
            · decide
            · rfl
          · apply SEs_cons
            · apply call_actions_of hK B
              · rfl
              · apply SEs_cons
                · (first | exact SE_local rfl rfl | exact SE_cell rfl rfl | exact SE_free rfl rfl)
                · apply SEs_cons
                  · (first | exact SE_local rfl rfl | exact SE_cell rfl rfl | exact SE_free rfl rfl)
                  · exact SEs_nil
                  · rfl
                · rfl
              · exact c_actions_of hK B hr
              · rfl
            · exact SEs_nil
            · rfl
          · rfl
        · rfl
      · rfl
    · exact new_Rule hK B
    · rfl
  · simp [RowA.parts, actSt]
end
end Mine

/-! part Fn8 -/
namespace Mine
section
variable {W : Wd} {D : Nat} {V V₁ V₂ V' : Vars} {st st₁ st₂ st' : St} {pv : PV} {l : List PV} {src : Src}

theorem SCall_fn_ex {f : Addr} {fd : FuncData} {body : List Stmt} {names : List Str} {n : Nat} {args : List PV} (Q : PV → St → Prop) (B : Base W) (F : FnAt W f fd body names n []) (hn : args.length = n)
    (hb : ∃ pv V' st', SS W D ⟨true, fd.scope, names.zip args⟩ body st (.ret pv) V' st' ∧ Q pv st') : ∃ pv st', SCall W (D + 1) (.ref f) args st pv st' ∧ Q pv st' :=
  let ⟨pv, V', st', h, q⟩ := hb; ⟨pv, st', SCall_fn B F hn h, q⟩
theorem SS_det {Q : PV → St → Prop} {x : Stmt} {xs : List Stmt} (h : SX W D V x st .next V₁ st₁) (hs : ∃ pv V₂ st₂, SS W D V₁ xs st₁ (.ret pv) V₂ st₂ ∧ Q pv st₂) : ∃ pv V₂ st₂, SS W D V (x :: xs) st (.ret pv) V₂ st₂ ∧ Q pv st₂ :=
  let ⟨pv, V₂, st₂, a, b⟩ := hs; ⟨pv, V₂, st₂, SS_cons h a, b⟩
theorem SS_ret {Q : PV → St → Prop} {x : Stmt} {xs : List Stmt} (h : SX W D V x st (.ret pv) V₁ st₁) (hs : Q pv st₁) : ∃ pv V₂ st₂, SS W D V (x :: xs) st (.ret pv) V₂ st₂ ∧ Q pv st₂ :=
  ⟨pv, V₁, st₁, SS_stop h (by intro h; cases h), hs⟩
theorem SS_for {Q : PV → St → Prop} {t iter : Expr} {body : List Stmt} {pos : Pos} {xs : List Stmt} (P : Nat → St → Prop) (hi : SI W D V iter st src st₁) (hit : ∀ i st, P i st → Items st src l) (h0 : P 0 st₁)
    (h : ∀ i p st, l[i]? = some p → P i st → ∃ V₁ st₁ V₂ st₂ fl, SA W D V t p st V₁ st₁ ∧ SS W D V₁ body st₁ fl V₂ st₂ ∧ (fl = .next ∨ fl = .cont) ∧ VLe V V₂ ∧ P (i + 1) st₂)
    (hx : ∀ st', P l.length st' → ∃ pv V₂ st₂, SS W D V xs st' (.ret pv) V₂ st₂ ∧ Q pv st₂)
    (ht : letGoOK t = true := by rfl) (hte : (∃ q, src = .enum q) → tupTarget t = true := by first | (rintro ⟨q, h⟩; cases h; done) | (intro _; rfl)) (hs : ∀ env x, foldedSetIterable iter env x = pure x := by intro _ _; rfl) :
    ∃ pv V₂ st₂, SS W D V (.For t iter body [] pos :: xs) st (.ret pv) V₂ st₂ ∧ Q pv st₂ := by
  obtain ⟨V', st', a, rfl, b⟩ := ForL_inv (W := W) (D := D) (t := t) (body := body) (V := V) (st := st₁) (fun i V' st => V' = V ∧ P i st) (fun i V' st h => hit i st h.2)
    (fun i p V' st hp hP => by
      obtain ⟨rfl, hP⟩ := hP
      obtain ⟨V₁, st₁, V₂, st₂, fl, a, b, c, d, e⟩ := h i p st hp hP
      exact ⟨V₁, st₁, V₂, V', st₂, fl, a, b, c, d, rfl, e⟩) ⟨rfl, h0⟩
  exact SS_det (SX_For hi a ht hte hs) (hx st' b)

def rowKey (r : RowA) : Int := match r.i with
  | [] => 0
  | c :: _ => c.one
def filt (rs : List RowA) (g : Int) : List RowA := rs.filter fun r => rowKey r == g
def gpv (r : RowA) : PV := (ruleG r).pv
structure GInv (n : Nat) (T : St) (dd : List (Int × PV)) (rs : List RowA) : Prop where
  at_ : T[n]? = some (.dict dd)
  len : dd.length ≤ rs.length
  has : ∀ g, (dd.lookup g = none ∧ filt rs g = []) ∨ (∃ li, dd.lookup g = some (.mref li) ∧ n < li ∧ li < T.length ∧ T[li]? = some (.lst ((filt rs g).map gpv)))
  inj : ∀ g g' li, dd.lookup g = some (.mref li) → dd.lookup g' = some (.mref li) → g = g'

theorem filt_app (rs : List RowA) (r : RowA) (g : Int) : filt (rs ++ [r]) g = filt rs g ++ (if rowKey r = g then [r] else []) := by
  unfold filt
  rw [List.filter_append]
  congr 1
  by_cases h : rowKey r = g <;> simp [h]
theorem lookup_none_any {dd : List (Int × PV)} {k : Int} (h : dd.lookup k = none) : ∀ q ∈ dd, q.1 ≠ k := by
  intro q hq e
  induction dd with
  | nil => cases hq
  | cons a r ih =>
    rw [List.lookup_cons] at h
    split at h
    · cases h
    · rename_i hb
      rcases List.mem_cons.mp hq with rfl | hq
      · simp [e] at hb
      · exact ih h hq
theorem lookup_app_one {dd : List (Int × PV)} {k g : Int} {p : PV} (h : dd.lookup k = none) : (dd ++ [(k, p)]).lookup g = if g = k then some p else dd.lookup g := by
  rw [List.lookup_append]
  by_cases e : g = k
  · subst e; rw [h]; simp
  · rw [if_neg e, List.lookup_cons, beq_false_of_ne e]; simp

theorem GInv.new {n : Nat} {T : St} {dd : List (Int × PV)} {rs : List RowA} {r : RowA} {m : MO} (h : GInv n T dd rs) (hk : dd.lookup (rowKey r) = none) :
    GInv n (((T ++ [m] ++ [MO.lst []]).set n (.dict (pstored dd (rowKey r) (.mref (T ++ [m]).length)))).set (T ++ [m]).length (.lst ([] ++ [gpv r]))) (dd ++ [(rowKey r, .mref (T ++ [m]).length)]) (rs ++ [r]) := by
  have hn : n < T.length := (List.getElem?_eq_some_iff.mp h.at_).1
  rw [pstored_new (lookup_none_any hk)]
  constructor
  · rw [List.getElem?_set_ne (by simp <;> omega), List.getElem?_set_self (by simp <;> omega)]
  · have := h.len; simp; omega
  · intro g
    rw [lookup_app_one hk, filt_app]
    by_cases e : g = rowKey r
    · subst e
      right
      refine ⟨_, if_pos rfl, by simp <;> omega, by simp, ?_⟩
      rw [List.getElem?_set_self (by simp)]
      rcases h.has (rowKey r) with ⟨_, h2⟩ | ⟨li, h2, _⟩
      · rw [h2]; simp
      · rw [hk] at h2; cases h2
    · rw [if_neg e, if_neg (Ne.symm e), List.append_nil]
      rcases h.has g with ⟨h1, h2⟩ | ⟨li, h1, h2, h3, h4⟩
      · exact .inl ⟨h1, h2⟩
      · refine .inr ⟨li, h1, h2, by simp <;> omega, ?_⟩
        rw [List.getElem?_set_ne (by simp <;> omega), List.getElem?_set_ne (by omega), List.getElem?_append_left (by simp <;> omega), List.getElem?_append_left (by omega), h4]
  · intro g g' li h1 h2
    rw [lookup_app_one hk] at h1 h2
    have hlt : ∀ x, dd.lookup x = some (.mref li) → li < T.length := fun x hx => by
      rcases h.has x with ⟨h1, _⟩ | ⟨li', h1, _, h3, _⟩
      · rw [h1] at hx; cases hx
      · rw [h1] at hx; cases hx; exact h3
    by_cases e : g = rowKey r <;> by_cases e' : g' = rowKey r
    · rw [e, e']
    · rw [if_pos e] at h1; rw [if_neg e'] at h2
      have := hlt _ h2
      simp at h1; omega
    · rw [if_neg e] at h1; rw [if_pos e'] at h2
      have := hlt _ h1
      simp at h2; omega
    · rw [if_neg e] at h1; rw [if_neg e'] at h2
      exact h.inj g g' li h1 h2
theorem GInv.old {n : Nat} {T : St} {dd : List (Int × PV)} {rs : List RowA} {r : RowA} {m : MO} {li : Nat} (h : GInv n T dd rs) (hk : dd.lookup (rowKey r) = some (.mref li)) :
    (T ++ [m])[li]? = some (.lst ((filt rs (rowKey r)).map gpv)) ∧ GInv n ((T ++ [m]).set li (.lst ((filt rs (rowKey r)).map gpv ++ [gpv r]))) dd (rs ++ [r]) ∧ n < li := by
  have hn : n < T.length := (List.getElem?_eq_some_iff.mp h.at_).1
  obtain ⟨g1, g2, g3⟩ : n < li ∧ li < T.length ∧ T[li]? = some (.lst ((filt rs (rowKey r)).map gpv)) := by
    rcases h.has (rowKey r) with ⟨h1, _⟩ | ⟨li', h1, h2, h3, h4⟩
    · rw [h1] at hk; cases hk
    · rw [h1] at hk; cases hk; exact ⟨h2, h3, h4⟩
  refine ⟨by rw [List.getElem?_append_left g2, g3], ?_, g1⟩
  constructor
  · rw [List.getElem?_set_ne (by omega), List.getElem?_append_left hn, h.at_]
  · have := h.len; simp; omega
  · intro g
    rw [filt_app]
    by_cases e : g = rowKey r
    · subst e
      refine .inr ⟨li, hk, g1, by simp <;> omega, ?_⟩
      rw [List.getElem?_set_self (by simp <;> omega), if_pos rfl]; simp
    · rw [if_neg (Ne.symm e), List.append_nil]
      rcases h.has g with ⟨h1, h2⟩ | ⟨lj, h1, h2, h3, h4⟩
      · exact .inl ⟨h1, h2⟩
      · refine .inr ⟨lj, h1, h2, by simp <;> omega, ?_⟩
        have : li ≠ lj := fun q => by subst q; exact e (h.inj _ _ _ h1 hk)
        rw [List.getElem?_set_ne this, List.getElem?_append_left h3, h4]
  · exact h.inj

def Pre (st T : St) : Prop := ∃ ex, T = st ++ ex
theorem Pre.refl (st : St) : Pre st st := ⟨[], by simp⟩
theorem Pre.app {st T ex : St} (h : Pre st T) : Pre st (T ++ ex) := let ⟨e, he⟩ := h; ⟨e ++ ex, by rw [he, List.append_assoc]⟩
theorem Pre.set {st T : St} {i : Nat} {m : MO} (h : Pre st T) (hi : st.length ≤ i) : Pre st (T.set i m) := let ⟨e, he⟩ := h; ⟨e.set (i - st.length) m, by rw [he]; exact List.set_append_right _ _ hi⟩
theorem Pre.trans {a b c : St} (h : Pre a b) (h' : Pre b c) : Pre a c := by
  obtain ⟨e, rfl⟩ := h; obtain ⟨e', rfl⟩ := h'; exact ⟨e ++ e', by rw [List.append_assoc]⟩
theorem Pre.get {st T : St} (h : Pre st T) {i : Nat} {m : MO} (e : st[i]? = some m) : T[i]? = some m := by
  obtain ⟨ex, rfl⟩ := h
  rw [List.getElem?_append_left (List.getElem?_eq_some_iff.mp e).1, e]
theorem Pre.len {st T : St} (h : Pre st T) : st.length ≤ T.length := by
  obtain ⟨ex, rfl⟩ := h; simp
theorem grow_set {st ex : St} {i : Nat} {m : MO} (h : st.length ≤ i) : (st ++ ex).set i m = st ++ ex.set (i - st.length) m := List.set_append_right _ _ h
theorem in0 {r : RowA} (hr : r.Ok) : (r.i.map onePV)[(0 : Int).toNat]? = some (.int (rowKey r)) := by
  have := hr.ne
  unfold rowKey
  cases h : r.i with
  | nil => exact absurd h this
  | cons c cs => rfl

theorem c_glyphs_chain (hK : W.K = HdT.K39 W.w.params) (B : Base W) {k : Nat} {rs : List RowA} (hk : st[k]? = some (.lst (rs.map RowA.pv))) (hr : ∀ r ∈ rs, r.Ok) (hz : rs.length < 500) :
    ∃ pv st', SCall W (D + 4) (.ref 248) [.mref k, .dictS namesL, .dictS numsL] st pv st' ∧ (Pre st st' ∧ pv = tabPV 1 (.mref st.length) ∧ ∃ dd, GInv st.length st' dd rs) := by
  have hklt : k < st.length := (List.getElem?_eq_some_iff.mp hk).1
  refine SCall_fn_ex _ B (names := [Str.ofString "rows", Str.ofString "names", Str.ofString "numbers"]) (n := 3) ⟨⟨_, _, _, by rw [hK]; rfl⟩, rfl, rfl, rfl, rfl, by rw [hK]; kernel_rfl, rfl, rfl, rfl, by decide, by decide, by decide, by decide, fun s vals hin hl => match vals, hl with | [a0, a1, a2], _ => BindsTo.of_eq rfl⟩ rfl ?_
  apply SS_det
  · apply SX_Assign (SE_DictM B) (.inl rfl)
    all_goals first | rfl | decide | (rintro ⟨q, h⟩; cases h; done) | (intro _; rfl) | (intro _ _; rfl) | with_unfolding_all rfl | (intro _; with_unfolding_all rfl) | (simp; done)
  refine SS_for (st₁ := st ++ [.dict []]) (l := rs.map RowA.pv) (src := .lst (.mref k)) (fun i T => Pre st T ∧ ∃ dd, GInv st.length T dd (rs.take i)) ?_ ?_ ?_ ?_ ?_
  · apply SI_lst
    · (first | exact SE_local rfl rfl | exact SE_cell rfl rfl | exact SE_free rfl rfl)
    · exact .mref (by rw [List.getElem?_append_left hklt]; exact hk)
  · rintro i T ⟨⟨ex, rfl⟩, dd, _⟩
    exact .lst (.mref (by rw [List.getElem?_append_left hklt]; exact hk))
  · refine ⟨(Pre.refl st).app, [], ?_, by simp, fun g => .inl ⟨rfl, by simp [filt]⟩, by intro g g' li h; cases h⟩
    exact get_last _ _
  · rintro i p T hp ⟨⟨ex, rfl⟩, dd, hI⟩
    rw [List.getElem?_map] at hp
    obtain ⟨r, hri, rfl⟩ := Option.map_eq_some_iff.mp hp
    have hrok := hr r (List.mem_of_getElem? hri)
    have htk : rs.take (i + 1) = rs.take i ++ [r] := by rw [List.take_add_one, hri]; rfl
    have hdl : dd.length ≤ 500 := by have := hI.len; rw [List.length_take] at this; omega
    have hn : st.length < (st ++ ex).length := (List.getElem?_eq_some_iff.mp hI.at_).1
    cases hkk : dd.lookup (rowKey r) with
    | none =>
      have hN := hI.new (r := r) (m := actSt r) hkk
      have hat : (st ++ ex ++ [actSt r])[st.length]? = some (.dict dd) := by rw [List.getElem?_append_left hn]; exact hI.at_
      apply Exists.intro
      apply Exists.intro
      apply Exists.intro
      apply Exists.intro
      apply Exists.intro
      apply And.intro
      · exact SA_name (.inl rfl)
      apply And.intro
      · apply SS_cons
        · apply SX_Assign (pv := gpv r)
          · apply call_glyph_rule hK B
            · rfl
            · apply SEs_cons
              · (first | exact SE_local rfl rfl | exact SE_cell rfl rfl | exact SE_free rfl rfl)
              · apply SEs_cons
                · (first | exact SE_local rfl rfl | exact SE_cell rfl rfl | exact SE_free rfl rfl)
                · apply SEs_cons
                  · (first | exact SE_local rfl rfl | exact SE_cell rfl rfl | exact SE_free rfl rfl)
                  · exact SEs_nil
                  · rfl
                · rfl
              · rfl
            · exact c_glyph_rule hK B hrok
            · rfl
          · exact .inl rfl
          all_goals first | rfl | decide | (rintro ⟨q, h⟩; cases h; done) | (intro _; rfl) | (intro _ _; rfl) | with_unfolding_all rfl | (intro _; with_unfolding_all rfl) | (simp; done)
        apply SS_cons
        · apply SX_IfT
          · have e : true = !(dd.lookup (rowKey r)).isSome := by rw [hkk]; rfl
            rw [e]
            apply ST_Compare
            · apply SE_subT (l := r.i.map onePV)
              · apply SE_Attr B
                · (first | exact SE_local rfl rfl | exact SE_cell rfl rfl | exact SE_free rfl rfl)
                · rfl
                · exact at_101_inside hK
                all_goals first | rfl | decide | (rintro ⟨q, h⟩; cases h; done) | (intro _; rfl) | (intro _ _; rfl) | with_unfolding_all rfl | (intro _; with_unfolding_all rfl) | (simp; done)
              · exact SE_int
              · decide
              · exact in0 hrok
            · (first | exact SE_local rfl rfl | exact SE_cell rfl rfl | exact SE_free rfl rfl)
            · exact SC_notInDI (.mref hat)
            all_goals first | rfl | decide | (rintro ⟨q, h⟩; cases h; done) | (intro _; rfl) | (intro _ _; rfl) | with_unfolding_all rfl | (intro _; with_unfolding_all rfl) | (simp; done)
          · apply SS_one
            · apply SX_setD (d := dd)
              · apply SE_ListM SEs_nil
                all_goals first | rfl | decide | (rintro ⟨q, h⟩; cases h; done) | (intro _; rfl) | (intro _ _; rfl) | with_unfolding_all rfl | (intro _; with_unfolding_all rfl) | (simp; done)
              · (first | exact SE_local rfl rfl | exact SE_cell rfl rfl | exact SE_free rfl rfl)
              · apply SE_subT (l := r.i.map onePV)
                · apply SE_Attr B
                  · (first | exact SE_local rfl rfl | exact SE_cell rfl rfl | exact SE_free rfl rfl)
                  · rfl
                  · exact at_101_inside hK
                  all_goals first | rfl | decide | (rintro ⟨q, h⟩; cases h; done) | (intro _; rfl) | (intro _ _; rfl) | with_unfolding_all rfl | (intro _; with_unfolding_all rfl) | (simp; done)
                · exact SE_int
                · decide
                · exact in0 hrok
              · rw [List.getElem?_append_left (by simp <;> omega)]; exact hat
              · omega
              all_goals first | rfl | decide | (rintro ⟨q, h⟩; cases h; done) | (intro _; rfl) | (intro _ _; rfl) | with_unfolding_all rfl | (intro _; with_unfolding_all rfl) | (simp; done)
            · rfl
        apply SS_one
        · apply SX_Expr
          · apply SE_append (i := (st ++ ex ++ [actSt r]).length) (l := [])
            · apply SE_subDI
              · (first | exact SE_local rfl rfl | exact SE_cell rfl rfl | exact SE_free rfl rfl)
              · apply SE_subT (l := r.i.map onePV)
                · apply SE_Attr B
                  · (first | exact SE_local rfl rfl | exact SE_cell rfl rfl | exact SE_free rfl rfl)
                  · rfl
                  · exact at_101_inside hK
                  all_goals first | rfl | decide | (rintro ⟨q, h⟩; cases h; done) | (intro _; rfl) | (intro _ _; rfl) | with_unfolding_all rfl | (intro _; with_unfolding_all rfl) | (simp; done)
                · exact SE_int
                · decide
                · exact in0 hrok
              · apply AsDI.mref
                rw [List.getElem?_set_self (by simp <;> omega)]
              · rw [pstored_new (lookup_none_any hkk), lookup_app_one hkk, if_pos rfl]
            · rw [List.getElem?_set_ne (by simp <;> omega), get_last]
            · (first | exact SE_local rfl rfl | exact SE_cell rfl rfl | exact SE_free rfl rfl)
            · rw [List.getElem?_set_ne (by simp <;> omega), get_last]
            · decide
            all_goals first | rfl | decide | (rintro ⟨q, h⟩; cases h; done) | (intro _; rfl) | (intro _ _; rfl) | with_unfolding_all rfl | (intro _; with_unfolding_all rfl) | (simp; done)
          all_goals first | rfl | decide | (rintro ⟨q, h⟩; cases h; done) | (intro _; rfl) | (intro _ _; rfl) | with_unfolding_all rfl | (intro _; with_unfolding_all rfl) | (simp; done)
        · rfl
      apply And.intro
      · exact .inl rfl
      apply And.intro
      · exact (vle_set rfl).trans (vle_set rfl)
      · rw [htk]
        exact ⟨((((((Pre.refl st).app).app).app).set (Nat.le_refl _)).set (by simp <;> omega)), _, hN⟩
    | some q =>
      obtain ⟨li, rfl⟩ : ∃ li, q = .mref li := by
        rcases hI.has (rowKey r) with ⟨h1, _⟩ | ⟨li', h1, _⟩
        · rw [h1] at hkk; cases hkk
        · rw [h1] at hkk; cases hkk; exact ⟨_, rfl⟩
      obtain ⟨hL, hO, hli⟩ := hI.old (r := r) (m := actSt r) hkk
      have hat : (st ++ ex ++ [actSt r])[st.length]? = some (.dict dd) := by rw [List.getElem?_append_left hn]; exact hI.at_
      apply Exists.intro
      apply Exists.intro
      apply Exists.intro
      apply Exists.intro
      apply Exists.intro
      apply And.intro
      · exact SA_name (.inl rfl)
      apply And.intro
      · apply SS_cons
        · apply SX_Assign (pv := gpv r)
          · apply call_glyph_rule hK B
            · rfl
            · apply SEs_cons
              · (first | exact SE_local rfl rfl | exact SE_cell rfl rfl | exact SE_free rfl rfl)
              · apply SEs_cons
                · (first | exact SE_local rfl rfl | exact SE_cell rfl rfl | exact SE_free rfl rfl)
                · apply SEs_cons
                  · (first | exact SE_local rfl rfl | exact SE_cell rfl rfl | exact SE_free rfl rfl)
                  · exact SEs_nil
                  · rfl
                · rfl
              · rfl
            · exact c_glyph_rule hK B hrok
            · rfl
          · exact .inl rfl
          all_goals first | rfl | decide | (rintro ⟨q, h⟩; cases h; done) | (intro _; rfl) | (intro _ _; rfl) | with_unfolding_all rfl | (intro _; with_unfolding_all rfl) | (simp; done)
        apply SS_cons
        · apply SX_IfF
          · have e : false = !(dd.lookup (rowKey r)).isSome := by rw [hkk]; rfl
            rw [e]
            apply ST_Compare
            · apply SE_subT (l := r.i.map onePV)
              · apply SE_Attr B
                · (first | exact SE_local rfl rfl | exact SE_cell rfl rfl | exact SE_free rfl rfl)
                · rfl
                · exact at_101_inside hK
                all_goals first | rfl | decide | (rintro ⟨q, h⟩; cases h; done) | (intro _; rfl) | (intro _ _; rfl) | with_unfolding_all rfl | (intro _; with_unfolding_all rfl) | (simp; done)
              · exact SE_int
              · decide
              · exact in0 hrok
            · (first | exact SE_local rfl rfl | exact SE_cell rfl rfl | exact SE_free rfl rfl)
            · exact SC_notInDI (.mref hat)
            all_goals first | rfl | decide | (rintro ⟨q, h⟩; cases h; done) | (intro _; rfl) | (intro _ _; rfl) | with_unfolding_all rfl | (intro _; with_unfolding_all rfl) | (simp; done)
          · exact SS_nil
        apply SS_one
        · apply SX_Expr
          · apply SE_append (i := li) (l := (filt (rs.take i) (rowKey r)).map gpv)
            · apply SE_subDI
              · (first | exact SE_local rfl rfl | exact SE_cell rfl rfl | exact SE_free rfl rfl)
              · apply SE_subT (l := r.i.map onePV)
                · apply SE_Attr B
                  · (first | exact SE_local rfl rfl | exact SE_cell rfl rfl | exact SE_free rfl rfl)
                  · rfl
                  · exact at_101_inside hK
                  all_goals first | rfl | decide | (rintro ⟨q, h⟩; cases h; done) | (intro _; rfl) | (intro _ _; rfl) | with_unfolding_all rfl | (intro _; with_unfolding_all rfl) | (simp; done)
                · exact SE_int
                · decide
                · exact in0 hrok
              · exact .mref hat
              · exact hkk
            · exact hL
            · (first | exact SE_local rfl rfl | exact SE_cell rfl rfl | exact SE_free rfl rfl)
            · exact hL
            · have := List.length_filter_le (fun r' => rowKey r' == rowKey r) (rs.take i)
              rw [List.length_take] at this
              rw [List.length_map]; unfold filt; omega
            all_goals first | rfl | decide | (rintro ⟨q, h⟩; cases h; done) | (intro _; rfl) | (intro _ _; rfl) | with_unfolding_all rfl | (intro _; with_unfolding_all rfl) | (simp; done)
          all_goals first | rfl | decide | (rintro ⟨q, h⟩; cases h; done) | (intro _; rfl) | (intro _ _; rfl) | with_unfolding_all rfl | (intro _; with_unfolding_all rfl) | (simp; done)
        · rfl
      apply And.intro
      · exact .inl rfl
      apply And.intro
      · exact (vle_set rfl).trans (vle_set rfl)
      · rw [htk]
        exact ⟨((((Pre.refl st).app).app).set (by omega)), _, hO⟩
  · rintro T ⟨hp, dd, hI⟩
    rw [List.length_map, List.take_length] at hI
    apply SS_ret
    · apply SX_Return
      apply call_Contexts hK B
      · rfl
      · apply SEs_cons
        · exact glob_BY_GLYPHS hK B rfl
        · apply SEs_cons
          · exact SE_bool
          · apply SEs_cons
            · (first | exact SE_local rfl rfl | exact SE_cell rfl rfl | exact SE_free rfl rfl)
            · exact SEs_nil
            · rfl
          · rfl
        · rfl
      · exact new_Contexts hK B
      · rfl
    · exact ⟨hp, rfl, dd, hI⟩
end
end Mine

/-! part Fn9 -/
namespace Mine
inductive Tab where
  | G (rs : List RowA)
  | C (r : RowA)
def flush (pl : List RowA) : List Tab := if pl.isEmpty then [] else [.G pl]
def stepT (s : List Tab × List RowA) (r : RowA) : List Tab × List RowA := if r.plain then (s.1, s.2 ++ [r]) else (s.1 ++ flush s.2 ++ [.C r], [])
def tabsOf (rs : List RowA) : List Tab := let s := rs.foldl stepT ([], []); s.1 ++ flush s.2
def tabC (r : RowA) : PV := tabPV 3 (.dictI [(0, .lst [(ruleC r).pv])])
def TabOK (lo hi : Nat) (T : St) (pv : PV) : Tab → Prop
  | .G rs => ∃ d dd, pv = tabPV 1 (.mref d) ∧ lo < d ∧ d < hi ∧ T[d]? = some (.dict dd) ∧
      ∀ g, (dd.lookup g = none ∧ filt rs g = []) ∨ (∃ li, dd.lookup g = some (.mref li) ∧ lo < li ∧ li < hi ∧ T[li]? = some (.lst ((filt rs g).map gpv)))
  | .C r => pv = tabC r
theorem TabOK.mono {lo hi hi' : Nat} {T T' : St} {pv : PV} {t : Tab} (h : TabOK lo hi T pv t) (hh : hi ≤ hi') (hT : ∀ i m, lo < i → i < hi → T[i]? = some m → T'[i]? = some m) : TabOK lo hi' T' pv t := by
  cases t with
  | C r => exact h
  | G rs =>
    obtain ⟨d, dd, e, h1, h2, h3, h4⟩ := h
    refine ⟨d, dd, e, h1, by omega, hT d _ h1 h2 h3, fun g => ?_⟩
    rcases h4 g with h | ⟨li, a, b, c, q⟩
    · exact .inl h
    · exact .inr ⟨li, a, b, by omega, hT li _ b c q⟩
theorem GInv.tab {n lo : Nat} {T : St} {dd : List (Int × PV)} {rs : List RowA} (h : GInv n T dd rs) (hn : lo < n) : TabOK lo T.length T (tabPV 1 (.mref n)) (.G rs) :=
  ⟨n, dd, rfl, hn, (List.getElem?_eq_some_iff.mp h.at_).1, h.at_, fun g => (h.has g).imp id fun ⟨li, a, b, c, d⟩ => ⟨li, a, by omega, c, d⟩⟩
structure CInv (f p : Nat) (T : St) (rs : List RowA) (qs : List (PV × Tab)) (pl : List RowA) : Prop where
  run : rs.foldl stepT ([], []) = (qs.map (·.2), pl)
  fp : f < p
  pT : p < T.length
  found : T[f]? = some (.lst (qs.map (·.1)))
  plain : T[p]? = some (.lst (pl.map RowA.pv))
  tabs : ∀ q ∈ qs, TabOK f p T q.1 q.2
  qlen : qs.length ≤ 2 * rs.length
  sub : ∀ r ∈ pl, r ∈ rs
  plen : pl.length ≤ rs.length

section
variable {W : Wd} {D : Nat} {V V₁ V₂ V' : Vars} {st st₁ st₂ st' : St} {pv : PV} {l : List PV} {src : Src}
theorem SS_forV {Q : PV → St → Prop} {t iter : Expr} {body : List Stmt} {pos : Pos} {xs : List Stmt} (mk : Nat → Vars) (x0 : Nat) (P : Nat → Nat → St → Prop) (hi : SI W D (mk x0) iter st src st₁) (hit : ∀ i x st, P i x st → Items st src l) (h0 : P 0 x0 st₁)
    (h : ∀ i p x st, l[i]? = some p → P i x st → ∃ V₁ st₁ V₂ x' st₂ fl, SA W D (mk x) t p st V₁ st₁ ∧ SS W D V₁ body st₁ fl V₂ st₂ ∧ (fl = .next ∨ fl = .cont) ∧ VLe (mk x') V₂ ∧ P (i + 1) x' st₂)
    (hx : ∀ x st', P l.length x st' → ∃ pv V₂ st₂, SS W D (mk x) xs st' (.ret pv) V₂ st₂ ∧ Q pv st₂)
    (ht : letGoOK t = true := by rfl) (hte : (∃ q, src = .enum q) → tupTarget t = true := by first | (rintro ⟨q, h⟩; cases h; done) | (intro _; rfl)) (hs : ∀ env x, foldedSetIterable iter env x = pure x := by intro _ _; rfl) :
    ∃ pv V₂ st₂, SS W D (mk x0) (.For t iter body [] pos :: xs) st (.ret pv) V₂ st₂ ∧ Q pv st₂ := by
  obtain ⟨V', st', a, x, rfl, b⟩ := ForL_inv (W := W) (D := D) (t := t) (body := body) (V := mk x0) (st := st₁) (fun i V' st => ∃ x, V' = mk x ∧ P i x st) (fun i V st ⟨x, _, h⟩ => hit i x st h)
    (fun i p V' st hp hP => by
      obtain ⟨x, rfl, hP⟩ := hP
      obtain ⟨V₁, st₁, V₂, x', st₂, fl, a, b, c, d, e⟩ := h i p x st hp hP
      exact ⟨V₁, st₁, V₂, mk x', st₂, fl, a, b, c, d, x', rfl, e⟩) ⟨x0, rfl, h0⟩
  exact SS_det (SX_For hi a ht hte hs) (hx x st' b)

theorem CInv.keep {f p : Nat} {T : St} {rs : List RowA} {qs : List (PV × Tab)} {pl : List RowA} {r : RowA} (h : CInv f p T rs qs pl) (hr : r.plain = true) :
    CInv f p (T.set p (.lst (pl.map RowA.pv ++ [r.pv]))) (rs ++ [r]) qs (pl ++ [r]) where
  run := by rw [List.foldl_append, h.run]; simp [stepT, hr]
  fp := h.fp
  pT := by simpa using h.pT
  found := by rw [List.getElem?_set_ne (by have := h.fp; omega)]; exact h.found
  plain := by rw [List.getElem?_set_self h.pT]; simp
  tabs := fun q hq => (h.tabs q hq).mono (Nat.le_refl _) fun i m h1 h2 e => by rw [List.getElem?_set_ne (by omega)]; exact e
  qlen := by have := h.qlen; simp; omega
  sub := fun x hx => by
    rcases List.mem_append.mp hx with hx | hx
    · exact List.mem_append_left _ (h.sub x hx)
    · exact List.mem_append_right _ hx
  plen := by have := h.plen; simp; omega
theorem CInv.cover {f p : Nat} {T T' : St} {rs : List RowA} {qs : List (PV × Tab)} {r : RowA} (h : CInv f p T rs qs []) (hr : r.plain = false) (hp : Pre T T') :
    CInv f p (T'.set f (.lst (qs.map (·.1) ++ [tabC r]))) (rs ++ [r]) (qs ++ [(tabC r, .C r)]) [] where
  run := by rw [List.foldl_append, h.run]; simp [stepT, hr, flush]
  fp := h.fp
  pT := by have := h.pT; have := hp.len; simp; omega
  found := by rw [List.getElem?_set_self (by have := h.pT; have := h.fp; have := hp.len; omega)]; simp
  plain := by rw [List.getElem?_set_ne (by have := h.fp; omega)]; exact hp.get h.plain
  tabs := fun q hq => by
    rcases List.mem_append.mp hq with hq | hq
    · exact (h.tabs q hq).mono (Nat.le_refl _) fun i m h1 h2 e => by rw [List.getElem?_set_ne (by omega)]; exact hp.get e
    · simp only [List.mem_singleton] at hq; subst hq; rfl
  qlen := by have := h.qlen; simp; omega
  sub := fun x hx => by cases hx
  plen := by simp
/-- a group of plain rows becomes a table, the place of the plain rows new -/
theorem CInv.group {f p : Nat} {T T₁ : St} {rs : List RowA} {qs : List (PV × Tab)} {pl : List RowA} {dd : List (Int × PV)} {r : RowA} {T₄ : St} (h : CInv f p T rs qs pl) (hr : r.plain = false) (hne : pl ≠ []) (hp : Pre T T₁) (hG : GInv T.length T₁ dd pl)
    (h4 : Pre (T₁.set f (.lst (qs.map (·.1) ++ [tabPV 1 (.mref T.length)])) ++ [MO.lst []]) T₄) :
    CInv f T₁.length (T₄.set f (.lst (qs.map (·.1) ++ [tabPV 1 (.mref T.length)] ++ [tabC r]))) (rs ++ [r]) (qs ++ [(tabPV 1 (.mref T.length), .G pl)] ++ [(tabC r, .C r)]) [] where
  run := by rw [List.foldl_append, h.run]; simp [stepT, hr, flush, hne]
  fp := by have := h.pT; have := h.fp; have := hp.len; omega
  pT := by have := h4.len; simp at this; simp; omega
  found := by rw [List.getElem?_set_self (by have := h4.len; simp at this; have := h.pT; have := h.fp; have := hp.len; omega)]; simp
  plain := by
    rw [List.getElem?_set_ne (by have := h.pT; have := h.fp; have := hp.len; omega)]
    refine h4.get ?_
    have := get_last (T₁.set f (.lst (qs.map (·.1) ++ [tabPV 1 (.mref T.length)]))) (MO.lst [])
    rw [List.length_set] at this
    exact this
  tabs := fun q hq => by
    have hh : ∀ i m, f < i → i < T₁.length → T₁[i]? = some m → (T₄.set f (.lst (qs.map (·.1) ++ [tabPV 1 (.mref T.length)] ++ [tabC r])))[i]? = some m := fun i m h1 h2 e => by
      rw [List.getElem?_set_ne (by omega)]
      refine h4.get ?_
      rw [List.getElem?_append_left (by simpa using h2), List.getElem?_set_ne (by omega)]; exact e
    rcases List.mem_append.mp hq with hq | hq
    · rcases List.mem_append.mp hq with hq | hq
      · exact (h.tabs q hq).mono (by have := h.pT; have := hp.len; omega) fun i m h1 h2 e => hh i m h1 (by have := h.pT; have := hp.len; omega) (hp.get e)
      · simp only [List.mem_singleton] at hq; subst hq
        exact (hG.tab (by have := h.pT; have := h.fp; omega)).mono (Nat.le_refl _) hh
    · simp only [List.mem_singleton] at hq; subst hq; rfl
  qlen := by have := h.qlen; simp; omega
  sub := fun x hx => by cases hx
  plen := by simp

structure TInv (f : Nat) (T : St) (rs : List RowA) (qs : List (PV × Tab)) : Prop where
  run : tabsOf rs = qs.map (·.2)
  found : T[f]? = some (.lst (qs.map (·.1)))
  tabs : ∀ q ∈ qs, TabOK f T.length T q.1 q.2
theorem CInv.fin {f p : Nat} {T : St} {rs : List RowA} {qs : List (PV × Tab)} (h : CInv f p T rs qs []) : TInv f T rs qs where
  run := by unfold tabsOf; rw [h.run]; simp [flush]
  found := h.found
  tabs := fun q hq => (h.tabs q hq).mono (by have := h.pT; omega) fun i m h1 h2 e => e
theorem CInv.finG {f p : Nat} {T T₁ : St} {rs : List RowA} {qs : List (PV × Tab)} {pl : List RowA} {dd : List (Int × PV)} (h : CInv f p T rs qs pl) (hne : pl ≠ []) (hp : Pre T T₁) (hG : GInv T.length T₁ dd pl) :
    TInv f (T₁.set f (.lst (qs.map (·.1) ++ [tabPV 1 (.mref T.length)]))) rs (qs ++ [(tabPV 1 (.mref T.length), .G pl)]) where
  run := by unfold tabsOf; rw [h.run]; simp [flush, hne]
  found := by rw [List.getElem?_set_self (by have := h.pT; have := h.fp; have := hp.len; omega)]; simp
  tabs := fun q hq => by
    have hh : ∀ i m, f < i → i < T₁.length → T₁[i]? = some m → (T₁.set f (.lst (qs.map (·.1) ++ [tabPV 1 (.mref T.length)])))[i]? = some m := fun i m h1 h2 e => by
      rw [List.getElem?_set_ne (by omega)]; exact e
    rcases List.mem_append.mp hq with hq | hq
    · exact (h.tabs q hq).mono (by have := h.pT; have := hp.len; simp; omega) fun i m h1 h2 e => hh i m h1 (by have := h.pT; have := hp.len; omega) (hp.get e)
    · simp only [List.mem_singleton] at hq; subst hq
      exact (hG.tab (by have := h.pT; have := h.fp; omega)).mono (by simp) hh
end
end Mine

/-! part Fn10 -/
namespace Mine
section
variable {W : Wd} {D : Nat} {V V₁ V₂ V' : Vars} {st st₁ st₂ st' : St} {pv : PV} {l : List PV} {src : Src}

theorem SE_ListM' {es : List Expr} {pos : Pos} {ps : List PV} {m : Nat} (h : SEs W D V es st ps st₁) (hm : st₁.length = m) (hz : ps.length ≤ 100000 := by decide) : SE W D V (.List es pos) st (.mref m) (st₁ ++ [.lst ps]) := hm ▸ SE_ListM h hz
def chV (sc : Scope) (k f p : Nat) : Vars := ⟨true, sc, [(Str.ofString "rows", .mref k), (Str.ofString "names", .dictS namesL), (Str.ofString "numbers", .dictS numsL), (Str.ofString "found", .mref f), (Str.ofString "plain", .mref p)]⟩

theorem c_chain_tables (hK : W.K = HdT.K39 W.w.params) (B : Base W) {k : Nat} {rs : List RowA} (hk : st[k]? = some (.lst (rs.map RowA.pv))) (hr : ∀ r ∈ rs, r.Ok) (hz : rs.length < 400) :
    ∃ pv st', SCall W (D + 5) (.ref 255) [.mref k, .dictS namesL, .dictS numsL] st pv st' ∧ (Pre st st' ∧ pv = .mref st.length ∧ ∃ qs, TInv st.length st' rs qs) := by
  have hklt : k < st.length := (List.getElem?_eq_some_iff.mp hk).1
  refine SCall_fn_ex _ B (names := [Str.ofString "rows", Str.ofString "names", Str.ofString "numbers"]) (n := 3) ⟨⟨_, _, _, by rw [hK]; rfl⟩, rfl, rfl, rfl, rfl, by rw [hK]; kernel_rfl, rfl, rfl, rfl, by decide, by decide, by decide, by decide, fun s vals hin hl => match vals, hl with | [a0, a1, a2], _ => BindsTo.of_eq rfl⟩ rfl ?_
  apply SS_det
  · apply SX_Assign (SE_ListM SEs_nil) (.inl rfl)
    all_goals first | rfl | decide | (rintro ⟨q, h⟩; cases h; done) | (intro _; rfl) | (intro _ _; rfl) | with_unfolding_all rfl | (intro _; with_unfolding_all rfl) | (simp; done)
  apply SS_det
  · apply SX_Assign (SE_ListM SEs_nil) (.inl rfl)
    all_goals first | rfl | decide | (rintro ⟨q, h⟩; cases h; done) | (intro _; rfl) | (intro _ _; rfl) | with_unfolding_all rfl | (intro _; with_unfolding_all rfl) | (simp; done)
  refine SS_forV (st₁ := st ++ [MO.lst []] ++ [MO.lst []]) (l := rs.map RowA.pv) (src := .lst (.mref k)) (fun p => chV _ k st.length p) (st ++ [MO.lst []]).length (fun i p T => Pre st T ∧ ∃ qs pl, CInv st.length p T (rs.take i) qs pl) ?_ ?_ ?_ ?_ ?_
  · apply SI_lst
    · (first | exact SE_local rfl rfl | exact SE_cell rfl rfl | exact SE_free rfl rfl)
    · exact .mref ((((Pre.refl st).app).app).get hk)
  · rintro i p T ⟨hp, _⟩
    exact .lst (.mref (hp.get hk))
  · refine ⟨((Pre.refl st).app).app, [], [], ?_⟩
    exact { run := rfl, fp := by simp, pT := by simp, found := by rw [List.getElem?_append_left (by simp)]; exact get_last _ _, plain := get_last _ _, tabs := fun q hq => by (cases hq), qlen := by simp, sub := fun r hr => by (cases hr), plen := by simp }
  · rintro i q p T hq ⟨hp, qs, pl, hI⟩
    rw [List.getElem?_map] at hq
    obtain ⟨r, hri, rfl⟩ := Option.map_eq_some_iff.mp hq
    have hrok := hr r (List.mem_of_getElem? hri)
    have htk : rs.take (i + 1) = rs.take i ++ [r] := by rw [List.take_add_one, hri]; rfl
    have hil : (rs.take i).length ≤ 400 := by rw [List.length_take]; omega
    have hqz := hI.qlen
    have hplz := hI.plen
    have hfp := hI.fp
    have hpT := hI.pT
    have hstT := hp.len
    rw [htk]
    cases hpl : r.plain with
    | true =>
      apply Exists.intro
      apply Exists.intro
      apply Exists.intro
      refine ⟨p, ?_⟩
      apply Exists.intro
      apply Exists.intro
      apply And.intro
      · exact SA_name (.inl rfl)
      apply And.intro
      · apply SS_stop
        · apply SX_IfT
          · apply ST_val
            · apply call_is_of_glyphs hK B
              · rfl
              · apply SEs_cons
                · (first | exact SE_local rfl rfl | exact SE_cell rfl rfl | exact SE_free rfl rfl)
                · exact SEs_nil
                · rfl
              · rw [← hpl]
                exact c_is_of_glyphs hK B hrok
              · rfl
            all_goals first | rfl | decide | (rintro ⟨q, h⟩; cases h; done) | (intro _; rfl) | (intro _ _; rfl) | with_unfolding_all rfl | (intro _; with_unfolding_all rfl) | (simp; done)
          · apply SS_cons
            · apply SX_Expr
              · apply SE_append
                · (first | exact SE_local rfl rfl | exact SE_cell rfl rfl | exact SE_free rfl rfl)
                · exact hI.plain
                · (first | exact SE_local rfl rfl | exact SE_cell rfl rfl | exact SE_free rfl rfl)
                · exact hI.plain
                · rw [List.length_map]; omega
                all_goals first | rfl | decide | (rintro ⟨q, h⟩; cases h; done) | (intro _; rfl) | (intro _ _; rfl) | with_unfolding_all rfl | (intro _; with_unfolding_all rfl) | (simp; done)
              all_goals first | rfl | decide | (rintro ⟨q, h⟩; cases h; done) | (intro _; rfl) | (intro _ _; rfl) | with_unfolding_all rfl | (intro _; with_unfolding_all rfl) | (simp; done)
            apply SS_stop
            · exact SX_Continue
            · intro h; cases h
        · intro h; cases h
      apply And.intro
      · exact .inr rfl
      apply And.intro
      · exact vle_app (b := [(Str.ofString "row", _)])
      · exact ⟨hp.set (by omega), _, _, hI.keep hpl⟩
    | false =>
      by_cases hne : pl = []
      · subst hne
        apply Exists.intro
        apply Exists.intro
        apply Exists.intro
        refine ⟨p, ?_⟩
        apply Exists.intro
        apply Exists.intro
        apply And.intro
        · exact SA_name (.inl rfl)
        apply And.intro
        · apply SS_cons
          · apply SX_IfF
            · apply ST_val
              · apply call_is_of_glyphs hK B
                · rfl
                · apply SEs_cons
                  · (first | exact SE_local rfl rfl | exact SE_cell rfl rfl | exact SE_free rfl rfl)
                  · exact SEs_nil
                  · rfl
                · rw [← hpl]
                  exact c_is_of_glyphs hK B hrok
                · rfl
              all_goals first | rfl | decide | (rintro ⟨q, h⟩; cases h; done) | (intro _; rfl) | (intro _ _; rfl) | with_unfolding_all rfl | (intro _; with_unfolding_all rfl) | (simp; done)
            · exact SS_nil
          apply SS_cons
          · apply SX_IfF
            · have e : false = !(([] : List RowA).map RowA.pv).isEmpty := rfl
              rw [e]
              apply ST_Compare
              · (first | exact SE_local rfl rfl | exact SE_cell rfl rfl | exact SE_free rfl rfl)
              · apply SE_List SEs_nil
                all_goals first | rfl | decide | (rintro ⟨q, h⟩; cases h; done) | (intro _; rfl) | (intro _ _; rfl) | with_unfolding_all rfl | (intro _; with_unfolding_all rfl) | (simp; done)
              · exact SC_neNil (.mref hI.plain)
              all_goals first | rfl | decide | (rintro ⟨q, h⟩; cases h; done) | (intro _; rfl) | (intro _ _; rfl) | with_unfolding_all rfl | (intro _; with_unfolding_all rfl) | (simp; done)
            · exact SS_nil
          apply SS_one
          · apply SX_Expr
            · apply SE_append (p := tabC r)
              · (first | exact SE_local rfl rfl | exact SE_cell rfl rfl | exact SE_free rfl rfl)
              · exact hI.found
              · apply call_Contexts hK B
                · rfl
                · apply SEs_cons
                  · exact glob_BY_COVERAGES hK B rfl
                  · apply SEs_cons
                    · exact SE_bool
                    · apply SEs_cons
                      · apply SE_Dict1 B SE_int
                        apply SE_List
                        · apply SEs_cons
                          · apply call_cover_rule hK B
                            · rfl
                            · apply SEs_cons
                              · (first | exact SE_local rfl rfl | exact SE_cell rfl rfl | exact SE_free rfl rfl)
                              · apply SEs_cons
                                · (first | exact SE_local rfl rfl | exact SE_cell rfl rfl | exact SE_free rfl rfl)
                                · apply SEs_cons
                                  · (first | exact SE_local rfl rfl | exact SE_cell rfl rfl | exact SE_free rfl rfl)
                                  · exact SEs_nil
                                  · rfl
                                · rfl
                              · rfl
                            · exact c_cover_rule hK B hrok
                            · rfl
                          · exact SEs_nil
                          · rfl
                        all_goals first | rfl | decide | (rintro ⟨q, h⟩; cases h; done) | (intro _; rfl) | (intro _ _; rfl) | with_unfolding_all rfl | (intro _; with_unfolding_all rfl) | (simp; done)
                      · exact SEs_nil
                      · rfl
                    · rfl
                  · rfl
                · exact new_Contexts hK B
                · rfl
              · exact (((Pre.refl T).app).app).get hI.found
              · rw [List.length_map]; omega
              all_goals first | rfl | decide | (rintro ⟨q, h⟩; cases h; done) | (intro _; rfl) | (intro _ _; rfl) | with_unfolding_all rfl | (intro _; with_unfolding_all rfl) | (simp; done)
            all_goals first | rfl | decide | (rintro ⟨q, h⟩; cases h; done) | (intro _; rfl) | (intro _ _; rfl) | with_unfolding_all rfl | (intro _; with_unfolding_all rfl) | (simp; done)
          · rfl
        apply And.intro
        · exact .inl rfl
        apply And.intro
        · exact vle_app (b := [(Str.ofString "row", _)])
        · exact ⟨((hp.app).app).set (Nat.le_refl _), _, _, hI.cover hpl (((Pre.refl T).app).app)⟩
      · obtain ⟨pv1, T₁, hcall, hpre, rfl, dd, hG⟩ := c_glyphs_chain (D := D) hK B hI.plain (fun x hx => hr x (List.mem_of_mem_take (hI.sub x hx))) (by omega)
        have hl1 := hpre.len
        have hf1 : (T₁.set st.length (.lst (qs.map (·.1) ++ [tabPV 1 (.mref T.length)])) ++ [MO.lst []])[st.length]? = some (.lst (qs.map (·.1) ++ [tabPV 1 (.mref T.length)])) := by
          rw [List.getElem?_append_left (by simp; omega), List.getElem?_set_self (by omega)]
        apply Exists.intro
        apply Exists.intro
        apply Exists.intro
        refine ⟨T₁.length, ?_⟩
        apply Exists.intro
        apply Exists.intro
        apply And.intro
        · exact SA_name (.inl rfl)
        apply And.intro
        · apply SS_cons
          · apply SX_IfF
            · apply ST_val
              · apply call_is_of_glyphs hK B
                · rfl
                · apply SEs_cons
                  · (first | exact SE_local rfl rfl | exact SE_cell rfl rfl | exact SE_free rfl rfl)
                  · exact SEs_nil
                  · rfl
                · rw [← hpl]
                  exact c_is_of_glyphs hK B hrok
                · rfl
              all_goals first | rfl | decide | (rintro ⟨q, h⟩; cases h; done) | (intro _; rfl) | (intro _ _; rfl) | with_unfolding_all rfl | (intro _; with_unfolding_all rfl) | (simp; done)
            · exact SS_nil
          apply SS_cons
          · apply SX_IfT
            · have e : true = !(pl.map RowA.pv).isEmpty := by simp [hne]
              rw [e]
              apply ST_Compare
              · (first | exact SE_local rfl rfl | exact SE_cell rfl rfl | exact SE_free rfl rfl)
              · apply SE_List SEs_nil
                all_goals first | rfl | decide | (rintro ⟨q, h⟩; cases h; done) | (intro _; rfl) | (intro _ _; rfl) | with_unfolding_all rfl | (intro _; with_unfolding_all rfl) | (simp; done)
              · exact SC_neNil (.mref hI.plain)
              all_goals first | rfl | decide | (rintro ⟨q, h⟩; cases h; done) | (intro _; rfl) | (intro _ _; rfl) | with_unfolding_all rfl | (intro _; with_unfolding_all rfl) | (simp; done)
            · apply SS_cons
              · apply SX_Expr
                · apply SE_append
                  · (first | exact SE_local rfl rfl | exact SE_cell rfl rfl | exact SE_free rfl rfl)
                  · exact hI.found
                  · apply call_glyphs_chain hK B
                    · rfl
                    · apply SEs_cons
                      · (first | exact SE_local rfl rfl | exact SE_cell rfl rfl | exact SE_free rfl rfl)
                      · apply SEs_cons
                        · (first | exact SE_local rfl rfl | exact SE_cell rfl rfl | exact SE_free rfl rfl)
                        · apply SEs_cons
                          · (first | exact SE_local rfl rfl | exact SE_cell rfl rfl | exact SE_free rfl rfl)
                          · exact SEs_nil
                          · rfl
                        · rfl
                      · rfl
                    · exact hcall
                    · rfl
                  · exact hpre.get hI.found
                  · rw [List.length_map]; omega
                  all_goals first | rfl | decide | (rintro ⟨q, h⟩; cases h; done) | (intro _; rfl) | (intro _ _; rfl) | with_unfolding_all rfl | (intro _; with_unfolding_all rfl) | (simp; done)
                all_goals first | rfl | decide | (rintro ⟨q, h⟩; cases h; done) | (intro _; rfl) | (intro _ _; rfl) | with_unfolding_all rfl | (intro _; with_unfolding_all rfl) | (simp; done)
              apply SS_one
              · apply SX_Assign (pv := .mref T₁.length)
                · apply SE_ListM' SEs_nil (by rw [List.length_set])
                  all_goals first | rfl | decide | (rintro ⟨q, h⟩; cases h; done) | (intro _; rfl) | (intro _ _; rfl) | with_unfolding_all rfl | (intro _; with_unfolding_all rfl) | (simp; done)
                · exact .inl rfl
                all_goals first | rfl | decide | (rintro ⟨q, h⟩; cases h; done) | (intro _; rfl) | (intro _ _; rfl) | with_unfolding_all rfl | (intro _; with_unfolding_all rfl) | (simp; done)
              · rfl
          apply SS_one
          · apply SX_Expr
            · apply SE_append (p := tabC r)
              · (first | exact SE_local rfl rfl | exact SE_cell rfl rfl | exact SE_free rfl rfl)
              · exact hf1
              · apply call_Contexts hK B
                · rfl
                · apply SEs_cons
                  · exact glob_BY_COVERAGES hK B rfl
                  · apply SEs_cons
                    · exact SE_bool
                    · apply SEs_cons
                      · apply SE_Dict1 B SE_int
                        apply SE_List
                        · apply SEs_cons
                          · apply call_cover_rule hK B
                            · rfl
                            · apply SEs_cons
                              · (first | exact SE_local rfl rfl | exact SE_cell rfl rfl | exact SE_free rfl rfl)
                              · apply SEs_cons
                                · (first | exact SE_local rfl rfl | exact SE_cell rfl rfl | exact SE_free rfl rfl)
                                · apply SEs_cons
                                  · (first | exact SE_local rfl rfl | exact SE_cell rfl rfl | exact SE_free rfl rfl)
                                  · exact SEs_nil
                                  · rfl
                                · rfl
                              · rfl
                            · exact c_cover_rule hK B hrok
                            · rfl
                          · exact SEs_nil
                          · rfl
                        all_goals first | rfl | decide | (rintro ⟨q, h⟩; cases h; done) | (intro _; rfl) | (intro _ _; rfl) | with_unfolding_all rfl | (intro _; with_unfolding_all rfl) | (simp; done)
                      · exact SEs_nil
                      · rfl
                    · rfl
                  · rfl
                · exact new_Contexts hK B
                · rfl
              · exact (((Pre.refl _).app).app).get hf1
              · simp; omega
              all_goals first | rfl | decide | (rintro ⟨q, h⟩; cases h; done) | (intro _; rfl) | (intro _ _; rfl) | with_unfolding_all rfl | (intro _; with_unfolding_all rfl) | (simp; done)
            all_goals first | rfl | decide | (rintro ⟨q, h⟩; cases h; done) | (intro _; rfl) | (intro _ _; rfl) | with_unfolding_all rfl | (intro _; with_unfolding_all rfl) | (simp; done)
          · rfl
        apply And.intro
        · exact .inl rfl
        apply And.intro
        · exact vle_app (b := [(Str.ofString "row", _)])
        · exact ⟨((((((hp.trans hpre).set (Nat.le_refl _)).app).app).app).set (Nat.le_refl _)), _, _, hI.group hpl hne hpre hG (((Pre.refl _).app).app)⟩
  · rintro p T ⟨hp, qs, pl, hI⟩
    rw [List.length_map, List.take_length] at hI
    have hqz := hI.qlen
    have hplz := hI.plen
    by_cases hne : pl = []
    · subst hne
      apply SS_det
      · apply SX_IfF
        · have e : false = !(([] : List RowA).map RowA.pv).isEmpty := rfl
          rw [e]
          apply ST_Compare
          · (first | exact SE_local rfl rfl | exact SE_cell rfl rfl | exact SE_free rfl rfl)
          · apply SE_List SEs_nil
            all_goals first | rfl | decide | (rintro ⟨q, h⟩; cases h; done) | (intro _; rfl) | (intro _ _; rfl) | with_unfolding_all rfl | (intro _; with_unfolding_all rfl) | (simp; done)
          · exact SC_neNil (.mref hI.plain)
          all_goals first | rfl | decide | (rintro ⟨q, h⟩; cases h; done) | (intro _; rfl) | (intro _ _; rfl) | with_unfolding_all rfl | (intro _; with_unfolding_all rfl) | (simp; done)
        · exact SS_nil
      apply SS_ret
      · apply SX_Return
        (first | exact SE_local rfl rfl | exact SE_cell rfl rfl | exact SE_free rfl rfl)
      · exact ⟨hp, rfl, qs, hI.fin⟩
    · obtain ⟨pv1, T₁, hcall, hpre, rfl, dd, hG⟩ := c_glyphs_chain (D := D) hK B hI.plain (fun x hx => hr x (hI.sub x hx)) (by omega)
      apply SS_det
      · apply SX_IfT
        · have e : true = !(pl.map RowA.pv).isEmpty := by simp [hne]
          rw [e]
          apply ST_Compare
          · (first | exact SE_local rfl rfl | exact SE_cell rfl rfl | exact SE_free rfl rfl)
          · apply SE_List SEs_nil
            all_goals first | rfl | decide | (rintro ⟨q, h⟩; cases h; done) | (intro _; rfl) | (intro _ _; rfl) | with_unfolding_all rfl | (intro _; with_unfolding_all rfl) | (simp; done)
          · exact SC_neNil (.mref hI.plain)
          all_goals first | rfl | decide | (rintro ⟨q, h⟩; cases h; done) | (intro _; rfl) | (intro _ _; rfl) | with_unfolding_all rfl | (intro _; with_unfolding_all rfl) | (simp; done)
        · apply SS_one
          · apply SX_Expr
            · apply SE_append
              · (first | exact SE_local rfl rfl | exact SE_cell rfl rfl | exact SE_free rfl rfl)
              · exact hI.found
              · apply call_glyphs_chain hK B
                · rfl
                · apply SEs_cons
                  · (first | exact SE_local rfl rfl | exact SE_cell rfl rfl | exact SE_free rfl rfl)
                  · apply SEs_cons
                    · (first | exact SE_local rfl rfl | exact SE_cell rfl rfl | exact SE_free rfl rfl)
                    · apply SEs_cons
                      · (first | exact SE_local rfl rfl | exact SE_cell rfl rfl | exact SE_free rfl rfl)
                      · exact SEs_nil
                      · rfl
                    · rfl
                  · rfl
                · exact hcall
                · rfl
              · exact hpre.get hI.found
              · rw [List.length_map]; omega
              all_goals first | rfl | decide | (rintro ⟨q, h⟩; cases h; done) | (intro _; rfl) | (intro _ _; rfl) | with_unfolding_all rfl | (intro _; with_unfolding_all rfl) | (simp; done)
            all_goals first | rfl | decide | (rintro ⟨q, h⟩; cases h; done) | (intro _; rfl) | (intro _ _; rfl) | with_unfolding_all rfl | (intro _; with_unfolding_all rfl) | (simp; done)
          · rfl
      apply SS_ret
      · apply SX_Return
        (first | exact SE_local rfl rfl | exact SE_cell rfl rfl | exact SE_free rfl rfl)
      · exact ⟨(hp.trans hpre).set (Nat.le_refl _), rfl, _, hI.finG hne hpre hG⟩
end
end Mine

/-! part Fn11 -/
namespace Mine
section
variable {W : Wd} {D : Nat} {V V₁ V₂ V' : Vars} {st st₁ st₂ st' : St} {pv : PV} {l : List PV} {src : Src}

theorem SCall_listL {p : PV} (hl : AsL st p l) : SCall W D (.type "list") [p] st (.lst l) st := by
  intro A C s vals hA hH hr
  cases hr with | cons r rs =>
  cases rs
  obtain ⟨x, items, rfl, ⟨o, ho, hc, n, hd⟩, rl, z⟩ := hl.isList hH r
  refine call_list_seq x (.inl rfl) ho hc hd (fun h' c' hk hD => ?_) (by simp; exact sl_of z)
  obtain ⟨f1, f2⟩ := hH.fresh (get_size s.heap)
  exact added (tk := s.toks) hH hk (get_size _) hD (.lst (Cfg.add_self _ _ _) rfl rfl rfl (rl.mono (CLe.add f1)) z)

def sGlyph : Str := Str.ofString "glyph"
def sCover : Str := Str.ofString "cover"
def tp (cov : Bool) (c : Cd) : PV := if cov then tst sCover (covOf c) else tst sGlyph (onePV c)
def fit (cov : Bool) (c : Cd) (g : Int) : Bool := if cov then c.gl.any (· == g) else c.one == g

theorem c_fits (hK : W.K = HdT.K39 W.w.params) (B : Base W) {cov : Bool} {c : Cd} {g : Int} : SCall W (D + 3) (.ref 262) [tp cov c, .int g] st (.bool (fit cov c g)) st := by
  cases cov with
  | false =>
    refine SCall_fn' B (names := [Str.ofString "test", Str.ofString "glyph"]) (n := 2) ⟨⟨_, _, _, by rw [hK]; rfl⟩, rfl, rfl, rfl, rfl, by rw [hK]; kernel_rfl, rfl, rfl, rfl, by decide, by decide, by decide, by decide, fun s vals hin hl => match vals, hl with | [a0, a1], _ => BindsTo.of_eq rfl⟩ rfl ?_; apply Exists.intro
    apply SS_stop
    · apply SX_IfT
      · have e : true = (sGlyph == Str.ofString "glyph") := by decide
        rw [e]
        apply ST_Compare
        · apply SE_subT (l := [.str sGlyph, onePV c])
          · (first | exact SE_local rfl rfl | exact SE_cell rfl rfl | exact SE_free rfl rfl)
          · exact SE_int
          · decide
          · rfl
        · exact SE_str
        · exact SC_eqS
        all_goals first | rfl | decide | (rintro ⟨q, h⟩; cases h; done) | (intro _; rfl) | (intro _ _; rfl) | with_unfolding_all rfl | (intro _; with_unfolding_all rfl) | (simp; done)
      · apply SS_one
        · apply SX_Return
          apply SE_Compare
          · apply SE_subT (l := [.str sGlyph, onePV c])
            · (first | exact SE_local rfl rfl | exact SE_cell rfl rfl | exact SE_free rfl rfl)
            · exact SE_int
            · decide
            · rfl
          · (first | exact SE_local rfl rfl | exact SE_cell rfl rfl | exact SE_free rfl rfl)
          · exact SC_eq
          all_goals first | rfl | decide | (rintro ⟨q, h⟩; cases h; done) | (intro _; rfl) | (intro _ _; rfl) | with_unfolding_all rfl | (intro _; with_unfolding_all rfl) | (simp; done)
        · rfl
    · intro h; cases h
  | true =>
    refine SCall_fn' B (names := [Str.ofString "test", Str.ofString "glyph"]) (n := 2) ⟨⟨_, _, _, by rw [hK]; rfl⟩, rfl, rfl, rfl, rfl, by rw [hK]; kernel_rfl, rfl, rfl, rfl, by decide, by decide, by decide, by decide, fun s vals hin hl => match vals, hl with | [a0, a1], _ => BindsTo.of_eq rfl⟩ rfl ?_; apply Exists.intro
    apply SS_cons
    · apply SX_IfF
      · have e : false = (sCover == Str.ofString "glyph") := by decide
        rw [e]
        apply ST_Compare
        · apply SE_subT (l := [.str sCover, covOf c])
          · (first | exact SE_local rfl rfl | exact SE_cell rfl rfl | exact SE_free rfl rfl)
          · exact SE_int
          · decide
          · rfl
        · exact SE_str
        · exact SC_eqS
        all_goals first | rfl | decide | (rintro ⟨q, h⟩; cases h; done) | (intro _; rfl) | (intro _ _; rfl) | with_unfolding_all rfl | (intro _; with_unfolding_all rfl) | (simp; done)
      · exact SS_nil
    apply SS_cons
    · apply SX_IfF
      · have e : false = (sCover == Str.ofString "class") := by decide
        rw [e]
        apply ST_Compare
        · apply SE_subT (l := [.str sCover, covOf c])
          · (first | exact SE_local rfl rfl | exact SE_cell rfl rfl | exact SE_free rfl rfl)
          · exact SE_int
          · decide
          · rfl
        · exact SE_str
        · exact SC_eqS
        all_goals first | rfl | decide | (rintro ⟨q, h⟩; cases h; done) | (intro _; rfl) | (intro _ _; rfl) | with_unfolding_all rfl | (intro _; with_unfolding_all rfl) | (simp; done)
      · exact SS_nil
    apply SS_one
    · apply SX_Return
      apply SE_Meth B
      · apply SE_subT (l := [.str sCover, covOf c])
        · (first | exact SE_local rfl rfl | exact SE_cell rfl rfl | exact SE_free rfl rfl)
        · exact SE_int
        · decide
        · rfl
      · rfl
      · exact me_59_has hK
      · apply SEs_cons
        · (first | exact SE_local rfl rfl | exact SE_cell rfl rfl | exact SE_free rfl rfl)
        · exact SEs_nil
        · rfl
      · exact c_has hK B c.sorted (by cases c <;> decide)
      all_goals first | rfl | decide | (rintro ⟨q, h⟩; cases h; done) | (intro _; rfl) | (intro _ _; rfl) | with_unfolding_all rfl | (intro _; with_unfolding_all rfl) | (simp; done)
    · rfl

def penMO (cells : List Int) (n seed : Int) : MO := .arr [.lst (cells.map .int), .int n, .int seed]
theorem c_draw (hK : W.K = HdT.K39 W.w.params) (B : Base W) {j : Nat} {cells : List Int} {n : Nat} {seed m : Int} (hj : st[j]? = some (penMO cells n seed)) (hn : n < 100000) (hm : 0 < m) :
    ∃ d : Int, SCall W (D + 1) (.ref 311) [.mref j, .int m] st (.int d) (st.set j (penMO cells (n + 1 : Nat) seed)) ∧ 0 ≤ d ∧ d < m := by
  have hjl : j < st.length := (List.getElem?_eq_some_iff.mp hj).1
  have hj2 : (st.set j (penMO cells (n + 1 : Nat) seed))[j]? = some (penMO cells (n + 1 : Nat) seed) := List.getElem?_set_self hjl
  by_cases hlt : n < cells.length
  · refine ⟨(cells[n]).fmod m, ?_, Int.fmod_nonneg_of_pos _ hm, Int.fmod_lt_of_pos _ hm⟩
    refine SCall_fn' B (names := [Str.ofString "pen", Str.ofString "many"]) (n := 2) ⟨⟨_, _, _, by rw [hK]; rfl⟩, rfl, rfl, rfl, rfl, by rw [hK]; kernel_rfl, rfl, rfl, rfl, by decide, by decide, by decide, by decide, fun s vals hin hl => match vals, hl with | [a0, a1], _ => BindsTo.of_eq rfl⟩ rfl ?_; apply Exists.intro
    apply SS_cons
    · apply SX_Assign (pv := .int (n : Int))
      · apply SE_subL
        · (first | exact SE_local rfl rfl | exact SE_cell rfl rfl | exact SE_free rfl rfl)
        · exact SE_int
        · exact .arr hj
        · decide
        · rfl
      · exact .inl rfl
      all_goals first | rfl | decide | (rintro ⟨q, h⟩; cases h; done) | (intro _; rfl) | (intro _ _; rfl) | with_unfolding_all rfl | (intro _; with_unfolding_all rfl) | (simp; done)
    apply SS_cons
    · apply SX_setL (pv := .int ((n + 1 : Nat) : Int)) (l := [.lst (cells.map .int), .int n, .int seed])
      · rw [Int.natCast_add]
        apply SE_BinOp
        · (first | exact SE_local rfl rfl | exact SE_cell rfl rfl | exact SE_free rfl rfl)
        · exact SE_int
        · exact SB_add
      · (first | exact SE_local rfl rfl | exact SE_cell rfl rfl | exact SE_free rfl rfl)
      · exact SE_int
      · exact hj
      · decide
      · simp
      all_goals first | rfl | decide | (rintro ⟨q, h⟩; cases h; done) | (intro _; rfl) | (intro _ _; rfl) | with_unfolding_all rfl | (intro _; with_unfolding_all rfl) | (simp; done)
    apply SS_stop
    · apply SX_IfT
      · have e : true = decide ((n : Int) < (cells.length : Int)) := by simp [hlt]
        rw [e]
        apply ST_Compare
        · (first | exact SE_local rfl rfl | exact SE_cell rfl rfl | exact SE_free rfl rfl)
        · apply call_len B
          · rfl
          · apply SE_subL (pv := .lst (cells.map .int))
            · (first | exact SE_local rfl rfl | exact SE_cell rfl rfl | exact SE_free rfl rfl)
            · exact SE_int
            · exact .arr hj2
            · decide
            · rfl
          · have := SCall_len (W := W) (D := D) (st := st.set j (penMO cells (n + 1 : Nat) seed)) (l := cells.map .int) (.lst .lst)
            rw [List.length_map] at this
            exact this
          · rfl
        · exact SC_lt
        all_goals first | rfl | decide | (rintro ⟨q, h⟩; cases h; done) | (intro _; rfl) | (intro _ _; rfl) | with_unfolding_all rfl | (intro _; with_unfolding_all rfl) | (simp; done)
      · apply SS_one
        · apply SX_Return
          apply SE_BinOp
          · apply SE_subL (l := cells.map .int)
            · apply SE_subL (pv := .lst (cells.map .int))
              · (first | exact SE_local rfl rfl | exact SE_cell rfl rfl | exact SE_free rfl rfl)
              · exact SE_int
              · exact .arr hj2
              · decide
              · rfl
            · (first | exact SE_local rfl rfl | exact SE_cell rfl rfl | exact SE_free rfl rfl)
            · exact .lst
            · omega
            · rw [Int.toNat_natCast, List.getElem?_map, List.getElem?_eq_getElem hlt]; rfl
          · (first | exact SE_local rfl rfl | exact SE_cell rfl rfl | exact SE_free rfl rfl)
          · exact SB_mod (by omega)
        · rfl
    · intro h; cases h
  · refine ⟨(seed + 7 * (n : Int) + ((n : Int) * (n : Int)).fdiv 3).fmod m, ?_, Int.fmod_nonneg_of_pos _ hm, Int.fmod_lt_of_pos _ hm⟩
    refine SCall_fn' B (names := [Str.ofString "pen", Str.ofString "many"]) (n := 2) ⟨⟨_, _, _, by rw [hK]; rfl⟩, rfl, rfl, rfl, rfl, by rw [hK]; kernel_rfl, rfl, rfl, rfl, by decide, by decide, by decide, by decide, fun s vals hin hl => match vals, hl with | [a0, a1], _ => BindsTo.of_eq rfl⟩ rfl ?_; apply Exists.intro
    apply SS_cons
    · apply SX_Assign (pv := .int (n : Int))
      · apply SE_subL
        · (first | exact SE_local rfl rfl | exact SE_cell rfl rfl | exact SE_free rfl rfl)
        · exact SE_int
        · exact .arr hj
        · decide
        · rfl
      · exact .inl rfl
      all_goals first | rfl | decide | (rintro ⟨q, h⟩; cases h; done) | (intro _; rfl) | (intro _ _; rfl) | with_unfolding_all rfl | (intro _; with_unfolding_all rfl) | (simp; done)
    apply SS_cons
    · apply SX_setL (pv := .int ((n + 1 : Nat) : Int)) (l := [.lst (cells.map .int), .int n, .int seed])
      · rw [Int.natCast_add]
        apply SE_BinOp
        · (first | exact SE_local rfl rfl | exact SE_cell rfl rfl | exact SE_free rfl rfl)
        · exact SE_int
        · exact SB_add
      · (first | exact SE_local rfl rfl | exact SE_cell rfl rfl | exact SE_free rfl rfl)
      · exact SE_int
      · exact hj
      · decide
      · simp
      all_goals first | rfl | decide | (rintro ⟨q, h⟩; cases h; done) | (intro _; rfl) | (intro _ _; rfl) | with_unfolding_all rfl | (intro _; with_unfolding_all rfl) | (simp; done)
    apply SS_cons
    · apply SX_IfF
      · have e : false = decide ((n : Int) < (cells.length : Int)) := by simp [hlt]
        rw [e]
        apply ST_Compare
        · (first | exact SE_local rfl rfl | exact SE_cell rfl rfl | exact SE_free rfl rfl)
        · apply call_len B
          · rfl
          · apply SE_subL (pv := .lst (cells.map .int))
            · (first | exact SE_local rfl rfl | exact SE_cell rfl rfl | exact SE_free rfl rfl)
            · exact SE_int
            · exact .arr hj2
            · decide
            · rfl
          · have := SCall_len (W := W) (D := D) (st := st.set j (penMO cells (n + 1 : Nat) seed)) (l := cells.map .int) (.lst .lst)
            rw [List.length_map] at this
            exact this
          · rfl
        · exact SC_lt
        all_goals first | rfl | decide | (rintro ⟨q, h⟩; cases h; done) | (intro _; rfl) | (intro _ _; rfl) | with_unfolding_all rfl | (intro _; with_unfolding_all rfl) | (simp; done)
      · exact SS_nil
    apply SS_one
    · apply SX_Return
      apply SE_BinOp
      · apply SE_BinOp
        · apply SE_BinOp
          · apply SE_subL (pv := .int seed)
            · (first | exact SE_local rfl rfl | exact SE_cell rfl rfl | exact SE_free rfl rfl)
            · exact SE_int
            · exact .arr hj2
            · decide
            · rfl
          · apply SE_BinOp
            · exact SE_int
            · (first | exact SE_local rfl rfl | exact SE_cell rfl rfl | exact SE_free rfl rfl)
            · exact SB_mul (by decide)
          · exact SB_add
        · apply SE_BinOp
          · apply SE_BinOp
            · (first | exact SE_local rfl rfl | exact SE_cell rfl rfl | exact SE_free rfl rfl)
            · (first | exact SE_local rfl rfl | exact SE_cell rfl rfl | exact SE_free rfl rfl)
            · exact SB_mul (by omega)
          · exact SE_int
          · exact SB_fdiv (by decide) (by decide)
        · exact SB_add
      · (first | exact SE_local rfl rfl | exact SE_cell rfl rfl | exact SE_free rfl rfl)
      · exact SB_mod (by omega)
    · rfl
end
end Mine

/-! part Fn12 -/
namespace Mine
section
variable {W : Wd} {D : Nat} {V V₁ V₂ V' : Vars} {st st₁ st₂ st' : St} {pv : PV} {l : List PV} {src : Src}

def namesObj (P : Params) : Obj := { cls := .type "dict", data := .dict #[⟨PyData.keyHash P sA, .str sA 606, .int 1 607⟩, ⟨PyData.keyHash P sB, .str sB 608, .int 2 609⟩, ⟨PyData.keyHash P sC, .str sC 610, .int 3 611⟩, ⟨PyData.keyHash P sD, .str sD 612, .int 4 613⟩] 4 }
theorem namesObj_is {prog : Program} {w : World} : (namesObj w.params).IsDictOf (PySem.strKind prog w) [(sA, .int 1 607), (sB, .int 2 609), (sC, .int 3 611), (sD, .int 4 613)] := by
  refine ⟨_, 4, ⟨rfl, rfl, rfl⟩, rfl, fun e he => ?_, .cons (strKind_is prog w _ _) rfl (.cons (strKind_is prog w _ _) rfl (.cons (strKind_is prog w _ _) rfl (.cons (strKind_is prog w _ _) rfl .nil))), by decide⟩
  simp only [List.mem_toArray, List.mem_cons, List.not_mem_nil, or_false] at he
  rcases he with rfl | rfl | rfl | rfl
  · exact ⟨sA, strKind_is prog w _ _, rfl⟩
  · exact ⟨sB, strKind_is prog w _ _, rfl⟩
  · exact ⟨sC, strKind_is prog w _ _, rfl⟩
  · exact ⟨sD, strKind_is prog w _ _, rfl⟩
theorem glob_law_names (hK : W.K = HdT.K39 W.w.params) (B : Base W) {np : Pos} (hk : V.scope.names.lookup (Str.ofString "_law_names") = some .globalImplicit) : SE W D V (.Name (Str.ofString "_law_names") np) st (.dictS namesL) st :=
  SE_name (f := .ref 312) (NameIs.global B hk (by rw [hK]; kernel_rfl)) (fun C h => .dictS (o := namesObj W.w.params) (h 312 _ (B.kx 312 _ (by rw [hK]; rfl))) (by decide) namesObj_is (.cons (.int _ _) (.cons (.int _ _) (.cons (.int _ _) (.cons (.int _ _) .nil)))))

theorem SS_ret_ex {Q : PV → St → Prop} {e : Expr} {pos : Pos} {xs : List Stmt} (h : ∃ pv st₁, SE W D V e st pv st₁ ∧ Q pv st₁) : ∃ pv V₂ st₂, SS W D V (.Return (some e) pos :: xs) st (.ret pv) V₂ st₂ ∧ Q pv st₂ :=
  let ⟨pv, st₁, a, b⟩ := h; SS_ret (SX_Return a) b
theorem call_tuple_ex {Q : PV → St → Prop} {e : Expr} {np pos : Pos} (B : Base W) (hk : V.scope.names.lookup (Str.ofString "tuple") = some .globalImplicit) (h : ∃ l st₁, SE W D V e st (.lst l) st₁ ∧ Q (.tup l) st₁) (hp : starry e = false) :
    ∃ pv st₂, SE W D V (.Call (.Name (Str.ofString "tuple") np) [e] [] pos) st pv st₂ ∧ Q pv st₂ :=
  let ⟨l, st₁, a, b⟩ := h; ⟨_, _, call_tuple B hk a (SCall_tupleL .lst) hp, b⟩
theorem loop_inv {t elt iter : Expr} {scope : Scope} {pos : Pos} {Q : List PV → St → Prop} (P : Nat → List PV → St → Prop) (hit : ∀ i outs st, P i outs st → Items st src l) (h0 : P 0 [] st)
    (h : ∀ i p outs st, l[i]? = some p → P i outs st → ∃ V₁ y st₁, SA W D V t p st V₁ st ∧ SE W D V₁ elt st y st₁ ∧ VLe V V₁ ∧ P (i + 1) (outs ++ [y]) st₁)
    (hz : ∀ outs st', P l.length outs st' → outs.length ≤ 100000 ∧ Q outs st') (ht : letGoOK t = true := by rfl) (hte : EOK src t := by first | (rintro ⟨q, h⟩; cases h; done) | (intro _; rfl)) :
    ∃ outs V' st', LoopOK W D elt [⟨t, iter, [], 0⟩] scope pos src V st outs V' st' ∧ outs.length ≤ 100000 ∧ Q outs st' := by
  obtain ⟨outs, st', a, b⟩ := CL1_inv P hit h h0
  obtain ⟨c, d⟩ := hz outs st' b
  exact ⟨outs, V, st', a.loop c ht hte, c, d⟩
theorem SE_Comp_ex {Q : List PV → St → Prop} {elt t iter : Expr} {ifs : List Expr} {rest : List Comprehension} {scope : Scope} {pos : Pos}
    (hi : SI W D V iter st src st₁) (hL : ∃ outs V' st', LoopOK W D elt (⟨t, iter, ifs, 0⟩ :: rest) scope pos src (innerV scope V) st₁ outs V' st' ∧ outs.length ≤ 100000 ∧ Q outs st') (ok : CompOK scope V.scope)
    (hs : ∀ env x, foldedSetIterable iter env x = pure x := by intro _ _; rfl) : ∃ l st', SE W D V (.ListComp elt (⟨t, iter, ifs, 0⟩ :: rest) scope pos) st (.lst l) st' ∧ Q l st' :=
  let ⟨outs, V', st', a, b, c⟩ := hL; ⟨outs, st', SE_Comp hi a ok b hs, c⟩

def Cd.txt : Cd → Str
  | .a => Str.ofString "a"
  | .ab => Str.ofString "ab"
  | .b => Str.ofString "b"
  | .c => Str.ofString "c"
theorem Cd.chars (c : Cd) : Mine.chars c.txt = c.nms.map .str := by cases c <;> rfl
def cdAt : Nat → Cd
  | 0 => .a
  | 1 => .ab
  | 2 => .b
  | _ => .c
theorem cdAt_get {d : Int} (h0 : 0 ≤ d) (h4 : d < 4) : [PV.str (Str.ofString "a"), .str (Str.ofString "ab"), .str (Str.ofString "b"), .str (Str.ofString "c")][d.toNat]? = some (.str (cdAt d.toNat).txt) := by
  have : d.toNat < 4 := by omega
  match d.toNat, this with
  | 0, _ => rfl
  | 1, _ => rfl
  | 2, _ => rfl
  | 3, _ => rfl

theorem c_law_sets (hK : W.K = HdT.K39 W.w.params) (B : Base W) {j : Nat} {cells : List Int} {n : Nat} {seed : Int} {k : Nat} (hj : st[j]? = some (penMO cells n seed)) (hn : n < 90000) (hk : k ≤ 1) :
    ∃ pv st', SCall W (D + 2) (.ref 317) [.mref j, .int (k : Int)] st pv st' ∧ (∃ (cs : List Cd) (n' : Nat), pv = .tup (cs.map fun c => .str c.txt) ∧ st' = st.set j (penMO cells n' seed) ∧ k ≤ cs.length ∧ cs.length ≤ k + 1 ∧ n' ≤ n + 3) := by
  have hjl : j < st.length := (List.getElem?_eq_some_iff.mp hj).1
  obtain ⟨d, hd, d0, d2⟩ := c_draw (D := D) hK B hj (by omega) (m := 2) (by decide)
  refine SCall_fn_ex _ B (names := [Str.ofString "pen", Str.ofString "least_count"]) (n := 2) ⟨⟨_, _, _, by rw [hK]; rfl⟩, rfl, rfl, rfl, rfl, by rw [hK]; kernel_rfl, rfl, rfl, rfl, by decide, by decide, by decide, by decide, fun s vals hin hl => match vals, hl with | [a0, a1], _ => BindsTo.of_eq rfl⟩ rfl ?_
  apply SS_ret_ex
  apply call_tuple_ex B
  · rfl
  · apply SE_Comp_ex (src := .range 0 ((k : Int) + d).toNat)
    · apply SI_range B
      · exact is_range B rfl
      · apply SE_BinOp
        · (first | exact SE_local rfl rfl | exact SE_cell rfl rfl | exact SE_free rfl rfl)
        · apply call_law_draw hK B
          · rfl
          · apply SEs_cons
            · (first | exact SE_local rfl rfl | exact SE_cell rfl rfl | exact SE_free rfl rfl)
            · exact SEs_cons SE_int SEs_nil
            · rfl
          · exact hd
          · rfl
        · exact SB_add
      · omega
      · omega
      all_goals first | rfl | decide | (rintro ⟨q, h⟩; cases h; done) | (intro _; rfl) | (intro _ _; rfl) | with_unfolding_all rfl | (intro _; with_unfolding_all rfl) | (simp; done)
    · refine loop_inv (l := (List.range ((k : Int) + d).toNat).map fun i : Nat => PV.int (0 + (i : Int))) (fun i outs T => T = st.set j (penMO cells (n + 1 + i : Nat) seed) ∧ ∃ cs : List Cd, outs = (cs.map fun c => .str c.txt) ∧ cs.length = i) (fun _ _ _ _ => .range) ?_ ?_ ?_
      · exact ⟨rfl, [], rfl, rfl⟩
      · rintro i p outs T hp ⟨rfl, cs, rfl, hcs⟩
        have hi : i < ((k : Int) + d).toNat := by simpa using (List.getElem?_eq_some_iff.mp hp).1
        have hj2 : (st.set j (penMO cells (n + 1 + i : Nat) seed))[j]? = some (penMO cells (n + 1 + i : Nat) seed) := List.getElem?_set_self hjl
        obtain ⟨e, he, e0, e4⟩ := c_draw (D := D) hK B hj2 (by omega) (m := 4) (by decide)
        apply Exists.intro
        apply Exists.intro
        apply Exists.intro
        apply And.intro
        · exact SA_name (.inl rfl)
        apply And.intro
        · apply SE_subT
          · apply SE_Tuple
            · exact SEs_cons SE_str (SEs_cons SE_str (SEs_cons SE_str (SEs_cons SE_str SEs_nil)))
            all_goals first | rfl | decide | (rintro ⟨q, h⟩; cases h; done) | (intro _; rfl) | (intro _ _; rfl) | with_unfolding_all rfl | (intro _; with_unfolding_all rfl) | (simp; done)
          · apply call_law_draw hK B
            · rfl
            · apply SEs_cons
              · (first | exact SE_local rfl rfl | exact SE_cell rfl rfl | exact SE_free rfl rfl)
              · exact SEs_cons SE_int SEs_nil
              · rfl
            · exact he
            · rfl
          · exact e0
          · exact cdAt_get e0 e4
        apply And.intro
        · exact vle_set rfl
        · refine ⟨?_, cs ++ [cdAt e.toNat], by simp, by simp [hcs]⟩
          rw [List.set_set]; rfl
      · rintro outs T ⟨rfl, cs, rfl, hcs⟩
        simp at hcs
        refine ⟨by simp; omega, ⟨cs, _, rfl, rfl, by omega, by omega, ?_⟩⟩
        simp; omega
    · exact compOK rfl
    all_goals first | rfl | decide | (rintro ⟨q, h⟩; cases h; done) | (intro _; rfl) | (intro _ _; rfl) | with_unfolding_all rfl | (intro _; with_unfolding_all rfl) | (simp; done)
  · rfl
end
end Mine

/-! part Fn13 -/
namespace Mine
section
variable {W : Wd} {D : Nat} {V V₁ V₂ V' : Vars} {st st₁ st₂ st' : St} {pv : PV} {l : List PV} {src : Src}

theorem SI_range' (B : Base W) {np pos : Pos} {e : Expr} {n : Int} {m : Nat} (hn : NameIs W V "range" (.type "range")) (h : SE W D V e st (.int n) st₁) (hm : n.toNat = m) (h1 : -100000 ≤ n) (h2 : n ≤ 100000) (hp : starry e = false := by rfl) :
    SI W D V (.Call (.Name "range" np) [e] [] pos) st (.range 0 m) st₁ := hm ▸ SI_range B hn h h1 h2 hp
def glPV (c : Cd) : PV := .lst (c.gl.map .int)
def RowA.all (r : RowA) : List Cd := r.b ++ r.i ++ r.a
/-- the spots that do not hold -/
def badSpots (r : RowA) (gl : List Int) (at_ : Nat) : List Nat := (List.range r.all.length).filter fun s => !((r.all[s]?.getD .a).gl.any (· == gl[at_ - r.b.length + s]?.getD 0))
def fitsB (r : RowA) (gl : List Int) (at_ : Nat) : Bool := if at_ < r.b.length ∨ gl.length < at_ - r.b.length + r.all.length then false else (badSpots r gl at_).isEmpty

theorem maps_names (c : Cd) : c.gl.map PV.int = (c.nms.map PV.str).map (fun p => match p with | .str k => .int (nameVal k) | _ => .none) := by cases c <;> rfl

theorem c_law_fits (hK : W.K = HdT.K39 W.w.params) (B : Base W) {r : RowA} {gl : List Int} {at_ : Nat} (hr : r.Ok) (hat : at_ < gl.length) (hg : gl.length < 1000) :
    SCall W (D + 1) (.ref 322) [r.pv, .lst (gl.map .int), .int (at_ : Int)] st (.bool (fitsB r gl at_)) st := by
  have hb := hr.b
  have hi := hr.i
  have ha := hr.a
  refine SCall_fn' B (names := [Str.ofString "row", Str.ofString "glyphs", Str.ofString "at"]) (n := 3) ⟨⟨_, _, _, by rw [hK]; rfl⟩, rfl, rfl, rfl, rfl, by rw [hK]; kernel_rfl, rfl, rfl, rfl, by decide, by decide, by decide, by decide, fun s vals hin hl => match vals, hl with | [a0, a1, a2], _ => BindsTo.of_eq rfl⟩ rfl ?_; apply Exists.intro
  apply SS_cons
  · apply SX_AssignT (pv := .lst (r.parts.map fun cs => .lst (cs.map glPV)))
    · apply SE_Comp
      · apply SI_tup
        apply SE_slice14
        apply SE_Attr B
        · (first | exact SE_local rfl rfl | exact SE_cell rfl rfl | exact SE_free rfl rfl)
        · rfl
        · exact at_300_parts hK
        all_goals first | rfl | decide | (rintro ⟨q, h⟩; cases h; done) | (intro _; rfl) | (intro _ _; rfl) | with_unfolding_all rfl | (intro _; with_unfolding_all rfl) | (simp; done)
      · apply CL1.loop
        · have e : (r.parts.map fun cs => PV.lst (cs.map glPV)) = (r.parts.map partPV).map (fun p => match p with | .tup l => .lst (l.map fun q => match q with | .tup ks => .lst (ks.map fun p => match p with | .str k => .int (nameVal k) | _ => .none) | _ => .none) | _ => .none) := by
            rw [List.map_map]
            apply List.map_congr_left
            intro cs _
            show PV.lst _ = PV.lst _
            congr 1
            show _ = List.map _ (List.map _ _)
            rw [List.map_map]
            apply List.map_congr_left
            intro c _
            cases c <;> rfl
          rw [e]
          apply CL1_map _ .tup
          intro p hp
          obtain ⟨cs, rfl, hcs⟩ : ∃ cs, p = partPV cs ∧ cs.length < 500 := by
            obtain ⟨cs, h1, h2⟩ := List.mem_map.mp (show p ∈ r.parts.map partPV from hp)
            exact ⟨cs, h2.symm, part_len hr cs h1⟩
          apply Exists.intro
          apply And.intro
          · exact SA_name (.inl rfl)
          apply And.intro
          · apply SE_Comp
            · apply SI_tup (l := cs.map Cd.pv)
              (first | exact SE_local rfl rfl | exact SE_cell rfl rfl | exact SE_free rfl rfl)
            · apply CL1.loop
              · apply CL1_map _ .tup
                intro p hp
                obtain ⟨c, _, rfl⟩ := List.mem_map.mp hp
                apply Exists.intro
                apply And.intro
                · exact SA_name (.inl rfl)
                apply And.intro
                · apply SE_Comp
                  · apply SI_tup (l := c.nms.map .str)
                    (first | exact SE_local rfl rfl | exact SE_cell rfl rfl | exact SE_free rfl rfl)
                  · apply CL1.loop
                    · apply CL1_map _ .tup
                      intro p hp
                      obtain ⟨k, hk, rfl⟩ := List.mem_map.mp hp
                      apply Exists.intro
                      apply And.intro
                      · exact SA_name (.inl rfl)
                      apply And.intro
                      · apply SE_subDS
                        · exact glob_law_names hK B rfl
                        · (first | exact SE_local rfl rfl | exact SE_cell rfl rfl | exact SE_free rfl rfl)
                        · exact c.named k hk
                      · exact vle_set rfl
                    · cases c <;> simp [Cd.nms]
                    all_goals first | rfl | decide | (rintro ⟨q, h⟩; cases h; done) | (intro _; rfl) | (intro _ _; rfl) | with_unfolding_all rfl | (intro _; with_unfolding_all rfl) | (simp; done)
                  · exact compOK rfl
                  · cases c <;> simp [Cd.nms]
                  all_goals first | rfl | decide | (rintro ⟨q, h⟩; cases h; done) | (intro _; rfl) | (intro _ _; rfl) | with_unfolding_all rfl | (intro _; with_unfolding_all rfl) | (simp; done)
                · exact vle_set rfl
              · simp; omega
              all_goals first | rfl | decide | (rintro ⟨q, h⟩; cases h; done) | (intro _; rfl) | (intro _ _; rfl) | with_unfolding_all rfl | (intro _; with_unfolding_all rfl) | (simp; done)
            · exact compOK rfl
            · simp; omega
            all_goals first | rfl | decide | (rintro ⟨q, h⟩; cases h; done) | (intro _; rfl) | (intro _ _; rfl) | with_unfolding_all rfl | (intro _; with_unfolding_all rfl) | (simp; done)
          · exact vle_set rfl
        · simp [RowA.parts]
        all_goals first | rfl | decide | (rintro ⟨q, h⟩; cases h; done) | (intro _; rfl) | (intro _ _; rfl) | with_unfolding_all rfl | (intro _; with_unfolding_all rfl) | (simp; done)
      · exact compOK rfl
      · simp [RowA.parts]
      all_goals first | rfl | decide | (rintro ⟨q, h⟩; cases h; done) | (intro _; rfl) | (intro _ _; rfl) | with_unfolding_all rfl | (intro _; with_unfolding_all rfl) | (simp; done)
    · exact .lst .lst
    · exact .cons rfl (SA_name (.inl rfl)) (.cons rfl (SA_name (.inl rfl)) (.cons rfl (SA_name (.inl rfl)) .nil))
    all_goals first | rfl | decide | (rintro ⟨q, h⟩; cases h; done) | (intro _; rfl) | (intro _ _; rfl) | with_unfolding_all rfl | (intro _; with_unfolding_all rfl) | (simp; done)
  apply SS_cons
  · apply SX_Assign (pv := .lst (r.all.map glPV))
    · have e : PV.lst (r.all.map glPV) = .lst (r.b.map glPV ++ r.i.map glPV ++ r.a.map glPV) := by simp [RowA.all]
      rw [e]
      apply SE_BinOp
      · apply SE_BinOp
        · (first | exact SE_local rfl rfl | exact SE_cell rfl rfl | exact SE_free rfl rfl)
        · (first | exact SE_local rfl rfl | exact SE_cell rfl rfl | exact SE_free rfl rfl)
        · exact SB_lists .lst .lst (by simp; omega)
      · (first | exact SE_local rfl rfl | exact SE_cell rfl rfl | exact SE_free rfl rfl)
      · exact SB_lists .lst .lst (by simp; omega)
    · exact .inr ⟨rfl, rfl⟩
    all_goals first | rfl | decide | (rintro ⟨q, h⟩; cases h; done) | (intro _; rfl) | (intro _ _; rfl) | with_unfolding_all rfl | (intro _; with_unfolding_all rfl) | (simp; done)
  apply SS_cons
  · apply SX_Assign (pv := .int ((at_ : Int) - (r.b.length : Int)))
    · apply SE_BinOp
      · (first | exact SE_local rfl rfl | exact SE_cell rfl rfl | exact SE_free rfl rfl)
      · apply call_len B
        · rfl
        · (first | exact SE_local rfl rfl | exact SE_cell rfl rfl | exact SE_free rfl rfl)
        · have := SCall_len (W := W) (D := D) (st := st) (l := r.b.map glPV) (.lst .lst)
          rw [List.length_map] at this
          exact this
        · rfl
      · exact SB_sub
    · exact .inr ⟨rfl, rfl⟩
    all_goals first | rfl | decide | (rintro ⟨q, h⟩; cases h; done) | (intro _; rfl) | (intro _ _; rfl) | with_unfolding_all rfl | (intro _; with_unfolding_all rfl) | (simp; done)
  have hlen : r.all.length = r.b.length + r.i.length + r.a.length := by simp [RowA.all]; omega
  unfold fitsB
  by_cases hc : at_ < r.b.length ∨ gl.length < at_ - r.b.length + r.all.length
  · rw [if_pos hc]
    apply SS_stop
    · apply SX_IfT
      · apply ST_BoolOp
        by_cases h1 : at_ < r.b.length
        · apply Tests.orT
          have e : true = decide ((at_ : Int) - (r.b.length : Int) < 0) := by simp; omega
          rw [e]
          apply ST_Compare
          · (first | exact SE_local rfl rfl | exact SE_cell rfl rfl | exact SE_free rfl rfl)
          · exact SE_int
          · exact SC_lt
          all_goals first | rfl | decide | (rintro ⟨q, h⟩; cases h; done) | (intro _; rfl) | (intro _ _; rfl) | with_unfolding_all rfl | (intro _; with_unfolding_all rfl) | (simp; done)
        · apply Tests.orF
          · have e : false = decide ((at_ : Int) - (r.b.length : Int) < 0) := by simp; omega
            rw [e]
            apply ST_Compare
            · (first | exact SE_local rfl rfl | exact SE_cell rfl rfl | exact SE_free rfl rfl)
            · exact SE_int
            · exact SC_lt
            all_goals first | rfl | decide | (rintro ⟨q, h⟩; cases h; done) | (intro _; rfl) | (intro _ _; rfl) | with_unfolding_all rfl | (intro _; with_unfolding_all rfl) | (simp; done)
          apply Tests.orT
          have e : true = decide ((gl.length : Int) < (at_ : Int) - (r.b.length : Int) + (r.all.length : Int)) := by simp; omega
          rw [e]
          apply ST_Compare
          · apply SE_BinOp
            · (first | exact SE_local rfl rfl | exact SE_cell rfl rfl | exact SE_free rfl rfl)
            · apply call_len B
              · rfl
              · (first | exact SE_local rfl rfl | exact SE_cell rfl rfl | exact SE_free rfl rfl)
              · have := SCall_len (W := W) (D := D) (st := st) (l := r.all.map glPV) (.lst .lst)
                rw [List.length_map] at this
                exact this
              · rfl
            · exact SB_add
          · apply call_len B
            · rfl
            · (first | exact SE_local rfl rfl | exact SE_cell rfl rfl | exact SE_free rfl rfl)
            · have := SCall_len (W := W) (D := D) (st := st) (l := gl.map .int) (.lst .lst)
              rw [List.length_map] at this
              exact this
            · rfl
          · exact SC_gt
          all_goals first | rfl | decide | (rintro ⟨q, h⟩; cases h; done) | (intro _; rfl) | (intro _ _; rfl) | with_unfolding_all rfl | (intro _; with_unfolding_all rfl) | (simp; done)
      · apply SS_one
        · apply SX_Return
          exact SE_bool
        · rfl
    · intro h; cases h
  · rw [if_neg hc]
    apply SS_cons
    · apply SX_IfF
      · apply ST_BoolOp
        apply Tests.orF
        · have e : false = decide ((at_ : Int) - (r.b.length : Int) < 0) := by simp; omega
          rw [e]
          apply ST_Compare
          · (first | exact SE_local rfl rfl | exact SE_cell rfl rfl | exact SE_free rfl rfl)
          · exact SE_int
          · exact SC_lt
          all_goals first | rfl | decide | (rintro ⟨q, h⟩; cases h; done) | (intro _; rfl) | (intro _ _; rfl) | with_unfolding_all rfl | (intro _; with_unfolding_all rfl) | (simp; done)
        apply Tests.orF
        · have e : false = decide ((gl.length : Int) < (at_ : Int) - (r.b.length : Int) + (r.all.length : Int)) := by simp; omega
          rw [e]
          apply ST_Compare
          · apply SE_BinOp
            · (first | exact SE_local rfl rfl | exact SE_cell rfl rfl | exact SE_free rfl rfl)
            · apply call_len B
              · rfl
              · (first | exact SE_local rfl rfl | exact SE_cell rfl rfl | exact SE_free rfl rfl)
              · have := SCall_len (W := W) (D := D) (st := st) (l := r.all.map glPV) (.lst .lst)
                rw [List.length_map] at this
                exact this
              · rfl
            · exact SB_add
          · apply call_len B
            · rfl
            · (first | exact SE_local rfl rfl | exact SE_cell rfl rfl | exact SE_free rfl rfl)
            · have := SCall_len (W := W) (D := D) (st := st) (l := gl.map .int) (.lst .lst)
              rw [List.length_map] at this
              exact this
            · rfl
          · exact SC_gt
          all_goals first | rfl | decide | (rintro ⟨q, h⟩; cases h; done) | (intro _; rfl) | (intro _ _; rfl) | with_unfolding_all rfl | (intro _; with_unfolding_all rfl) | (simp; done)
        · exact .orNil
      · exact SS_nil
    apply SS_one
    · apply SX_Return
      have hbad : (badSpots r gl at_).length ≤ 100000 := by
        have := List.length_filter_le (fun s => !((r.all[s]?.getD .a).gl.any (· == gl[at_ - r.b.length + s]?.getD 0))) (List.range r.all.length)
        unfold badSpots
        simp at this
        omega
      have e : (badSpots r gl at_).isEmpty = ((badSpots r gl at_).map fun s : Nat => PV.int (0 + (s : Int))).isEmpty := by simp
      rw [e]
      apply SE_Compare
      · apply SE_Comp (src := .range 0 r.all.length) (outs := (badSpots r gl at_).map fun s : Nat => PV.int (0 + (s : Int)))
        · apply SI_range' (n := (r.all.length : Int)) B
          · exact is_range B rfl
          · apply call_len B
            · rfl
            · (first | exact SE_local rfl rfl | exact SE_cell rfl rfl | exact SE_free rfl rfl)
            · have := SCall_len (W := W) (D := D) (st := st) (l := r.all.map glPV) (.lst .lst)
              rw [List.length_map] at this
              exact this
            · rfl
          · exact Int.toNat_natCast _
          · omega
          · omega
          all_goals first | rfl | decide | (rintro ⟨q, h⟩; cases h; done) | (intro _; rfl) | (intro _ _; rfl) | with_unfolding_all rfl | (intro _; with_unfolding_all rfl) | (simp; done)
        · apply CL1.loop
          · have e : ((badSpots r gl at_).map fun s : Nat => PV.int (0 + (s : Int))) = (((List.range r.all.length).map fun s : Nat => PV.int (0 + (s : Int))).filter (fun p => match p with | .int s => !((r.all[s.toNat]?.getD .a).gl.any (· == gl[at_ - r.b.length + s.toNat]?.getD 0)) | _ => false)).map (fun p => p) := by
              rw [List.filter_map, List.map_map]
              unfold badSpots
              have : ((fun p : PV => match p with | .int s => !((r.all[s.toNat]?.getD .a).gl.any (· == gl[at_ - r.b.length + s.toNat]?.getD 0)) | _ => false) ∘ fun s : Nat => PV.int (0 + (s : Int))) = fun s : Nat => !((r.all[s]?.getD .a).gl.any (· == gl[at_ - r.b.length + s]?.getD 0)) := by
                funext s
                show (!((r.all[((0 : Int) + (s : Int)).toNat]?.getD .a).gl.any (· == gl[at_ - r.b.length + ((0 : Int) + (s : Int)).toNat]?.getD 0))) = _
                rw [show ((0 : Int) + (s : Int)).toNat = s by omega]
              rw [this]
              rfl
            rw [e]
            apply CL1_filter _ _ .range
            intro p hp
            obtain ⟨s, hs, rfl⟩ := List.mem_map.mp hp
            have hs : s < r.all.length := by simpa using hs
            have hidx : at_ - r.b.length + s < gl.length := by omega
            apply Exists.intro
            apply And.intro
            · exact SA_name (.inl rfl)
            apply And.intro
            · apply ST_Compare
              · apply SE_subL (l := gl.map .int)
                · (first | exact SE_local rfl rfl | exact SE_cell rfl rfl | exact SE_free rfl rfl)
                · apply SE_BinOp
                  · (first | exact SE_local rfl rfl | exact SE_cell rfl rfl | exact SE_free rfl rfl)
                  · (first | exact SE_local rfl rfl | exact SE_cell rfl rfl | exact SE_free rfl rfl)
                  · exact SB_add
                · exact .lst
                · omega
                · rw [show ((at_ : Int) - (r.b.length : Int) + (0 + (s : Int))).toNat = at_ - r.b.length + s by omega, List.getElem?_map, List.getElem?_eq_getElem hidx]
                  rfl
              · apply SE_subL (l := r.all.map glPV)
                · (first | exact SE_local rfl rfl | exact SE_cell rfl rfl | exact SE_free rfl rfl)
                · (first | exact SE_local rfl rfl | exact SE_cell rfl rfl | exact SE_free rfl rfl)
                · exact .lst
                · omega
                · rw [show ((0 : Int) + (s : Int)).toNat = s by omega, List.getElem?_map, List.getElem?_eq_getElem hs]
                  rfl
              · have := SC_notInInts (W := W) (D := D) (st := st) (k := gl[at_ - r.b.length + s]) (pd := glPV r.all[s]) .lst
                show SC W D _ _ _ st (!((r.all[((0 : Int) + (s : Int)).toNat]?.getD .a).gl.any (· == gl[at_ - r.b.length + ((0 : Int) + (s : Int)).toNat]?.getD 0)))
                rw [show ((0 : Int) + (s : Int)).toNat = s by omega, List.getElem?_eq_getElem hs, List.getElem?_eq_getElem hidx]
                exact this
              all_goals first | rfl | decide | (rintro ⟨q, h⟩; cases h; done) | (intro _; rfl) | (intro _ _; rfl) | with_unfolding_all rfl | (intro _; with_unfolding_all rfl) | (simp; done)
            apply And.intro
            · intro _
              (first | exact SE_local rfl rfl | exact SE_cell rfl rfl | exact SE_free rfl rfl)
            · exact vle_set rfl
          · rw [List.length_map]; exact hbad
          all_goals first | rfl | decide | (rintro ⟨q, h⟩; cases h; done) | (intro _; rfl) | (intro _ _; rfl) | with_unfolding_all rfl | (intro _; with_unfolding_all rfl) | (simp; done)
        · exact compOK rfl
        · rw [List.length_map]; exact hbad
        all_goals first | rfl | decide | (rintro ⟨q, h⟩; cases h; done) | (intro _; rfl) | (intro _ _; rfl) | with_unfolding_all rfl | (intro _; with_unfolding_all rfl) | (simp; done)
      · apply SE_List SEs_nil
        all_goals first | rfl | decide | (rintro ⟨q, h⟩; cases h; done) | (intro _; rfl) | (intro _ _; rfl) | with_unfolding_all rfl | (intro _; with_unfolding_all rfl) | (simp; done)
      · exact SC_eqNil .lst
      all_goals first | rfl | decide | (rintro ⟨q, h⟩; cases h; done) | (intro _; rfl) | (intro _ _; rfl) | with_unfolding_all rfl | (intro _; with_unfolding_all rfl) | (simp; done)
    · rfl
end
end Mine

/-! part Fn14 -/
namespace Mine
section
variable {W : Wd} {D : Nat} {V V₁ V₂ V' : Vars} {st st₁ st₂ st' : St} {pv : PV} {l : List PV} {src : Src}

theorem SS.weak {x : List Stmt} {fl : Flo} (h : SS W D V x st fl V₂ st₁) (le : VLe V₁ V₂) : SS W D V x st fl V₁ st₁ := fun A C env s hA hH hF =>
  wpAny_mono (h A C env s hA hH hF) (fun f s' ⟨C', a, b, c, d⟩ => ⟨C', a, b, c.weak le, d⟩) fun _ _ e => e
def tstsPV (cov : Bool) (b i a : List Cd) (acts : PV) : PV := .tup [.lst (b.map (tp cov)), .lst (i.map (tp cov)), .lst (a.map (tp cov)), acts]
def behindB (cov : Bool) (b : List Cd) (gl : List Int) (at_ : Nat) : List Bool := (List.range b.length).map fun k => fit cov (b[k]?.getD .a) (gl[at_ - 1 - k]?.getD 0)
def aheadB (cov : Bool) (x : List Cd) (gl : List Int) (at_ : Nat) : List Bool := (List.range x.length).map fun k => fit cov (x[k]?.getD .a) (gl[at_ + k]?.getD 0)
def hitB (cov : Bool) (b i a : List Cd) (gl : List Int) (at_ : Nat) : Bool := if at_ < b.length ∨ gl.length < at_ + i.length + a.length then false else !((behindB cov b gl at_ ++ aheadB cov (i ++ a) gl at_).any (· == false))

theorem enum_get {f : Cd → PV} {x : List Cd} {i : Nat} {p : PV} (h : (((x.map f).zipIdx).map fun q => PV.tup [.int (q.2 : Int), q.1])[i]? = some p) : ∃ c, x[i]? = some c ∧ p = .tup [.int (i : Int), f c] := by
  rw [List.getElem?_map, List.getElem?_zipIdx, List.getElem?_map] at h
  cases hx : x[i]? with
  | none => rw [hx] at h; simp at h
  | some c => rw [hx] at h; simp at h; exact ⟨c, rfl, h.symm⟩

theorem c_law_hit (hK : W.K = HdT.K39 W.w.params) (B : Base W) {cov : Bool} {b i a : List Cd} {acts : PV} {gl : List Int} {at_ : Nat} (hb : b.length < 1000) (hi : i.length < 1000) (ha : a.length < 1000) (hat : at_ < gl.length) (hg : gl.length < 1000) :
    SCall W (D + 4) (.ref 327) [tstsPV cov b i a acts, .lst (gl.map .int), .int (at_ : Int)] st (.bool (hitB cov b i a gl at_)) st := by
  refine SCall_fn' B (names := [Str.ofString "tests", Str.ofString "glyphs", Str.ofString "at"]) (n := 3) ⟨⟨_, _, _, by rw [hK]; rfl⟩, rfl, rfl, rfl, rfl, by rw [hK]; kernel_rfl, rfl, rfl, rfl, by decide, by decide, by decide, by decide, fun s vals hin hl => match vals, hl with | [a0, a1, a2], _ => BindsTo.of_eq rfl⟩ rfl ?_; apply Exists.intro
  have hlenB : ∀ {X : List Cd}, SCall W (D + 3) (.builtin "len") [.lst (X.map (tp cov))] st (.int (X.length : Int)) st := fun {X} => by
    have := SCall_len (W := W) (D := D + 3) (st := st) (l := X.map (tp cov)) (.lst .lst)
    rw [List.length_map] at this
    exact this
  have hlenG : SCall W (D + 3) (.builtin "len") [.lst (gl.map .int)] st (.int (gl.length : Int)) st := by
    have := SCall_len (W := W) (D := D + 3) (st := st) (l := gl.map .int) (.lst .lst)
    rw [List.length_map] at this
    exact this
  apply SS_cons
  · apply SX_AssignSw (p1 := .lst (b.map (tp cov))) (p2 := .lst (i.map (tp cov))) (p3 := .lst (a.map (tp cov)))
    · apply SE_Tuple
      · apply SEs_cons
        · apply SE_subT
          · (first | exact SE_local rfl rfl | exact SE_cell rfl rfl | exact SE_free rfl rfl)
          · exact SE_int
          · decide
          · rfl
        · apply SEs_cons
          · apply SE_subT
            · (first | exact SE_local rfl rfl | exact SE_cell rfl rfl | exact SE_free rfl rfl)
            · exact SE_int
            · decide
            · rfl
          · apply SEs_cons
            · apply SE_subT
              · (first | exact SE_local rfl rfl | exact SE_cell rfl rfl | exact SE_free rfl rfl)
              · exact SE_int
              · decide
              · rfl
            · exact SEs_nil
            · rfl
          · rfl
        · rfl
      all_goals first | rfl | decide | (rintro ⟨q, h⟩; cases h; done) | (intro _; rfl) | (intro _ _; rfl) | with_unfolding_all rfl | (intro _; with_unfolding_all rfl) | (simp; done)
    · intro env h; cases env; subst h; rfl
    · rfl
    · rfl
    · rfl
  unfold hitB
  by_cases hc : at_ < b.length ∨ gl.length < at_ + i.length + a.length
  · rw [if_pos hc]
    apply SS_stop
    · apply SX_IfT
      · apply ST_BoolOp
        by_cases h1 : at_ < b.length
        · apply Tests.orT
          have e : true = decide ((at_ : Int) - (b.length : Int) < 0) := by simp; omega
          rw [e]
          apply ST_Compare
          · apply SE_BinOp
            · (first | exact SE_local rfl rfl | exact SE_cell rfl rfl | exact SE_free rfl rfl)
            · apply call_len B
              · rfl
              · (first | exact SE_local rfl rfl | exact SE_cell rfl rfl | exact SE_free rfl rfl)
              · exact hlenB
              · rfl
            · exact SB_sub
          · exact SE_int
          · exact SC_lt
          all_goals first | rfl | decide | (rintro ⟨q, h⟩; cases h; done) | (intro _; rfl) | (intro _ _; rfl) | with_unfolding_all rfl | (intro _; with_unfolding_all rfl) | (simp; done)
        · apply Tests.orF
          · have e : false = decide ((at_ : Int) - (b.length : Int) < 0) := by simp; omega
            rw [e]
            apply ST_Compare
            · apply SE_BinOp
              · (first | exact SE_local rfl rfl | exact SE_cell rfl rfl | exact SE_free rfl rfl)
              · apply call_len B
                · rfl
                · (first | exact SE_local rfl rfl | exact SE_cell rfl rfl | exact SE_free rfl rfl)
                · exact hlenB
                · rfl
              · exact SB_sub
            · exact SE_int
            · exact SC_lt
            all_goals first | rfl | decide | (rintro ⟨q, h⟩; cases h; done) | (intro _; rfl) | (intro _ _; rfl) | with_unfolding_all rfl | (intro _; with_unfolding_all rfl) | (simp; done)
          apply Tests.orT
          have e : true = decide ((gl.length : Int) < (at_ : Int) + (i.length : Int) + (a.length : Int)) := by simp; omega
          rw [e]
          apply ST_Compare
          · apply SE_BinOp
            · apply SE_BinOp
              · (first | exact SE_local rfl rfl | exact SE_cell rfl rfl | exact SE_free rfl rfl)
              · apply call_len B
                · rfl
                · (first | exact SE_local rfl rfl | exact SE_cell rfl rfl | exact SE_free rfl rfl)
                · exact hlenB
                · rfl
              · exact SB_add
            · apply call_len B
              · rfl
              · (first | exact SE_local rfl rfl | exact SE_cell rfl rfl | exact SE_free rfl rfl)
              · exact hlenB
              · rfl
            · exact SB_add
          · apply call_len B
            · rfl
            · (first | exact SE_local rfl rfl | exact SE_cell rfl rfl | exact SE_free rfl rfl)
            · exact hlenG
            · rfl
          · exact SC_gt
          all_goals first | rfl | decide | (rintro ⟨q, h⟩; cases h; done) | (intro _; rfl) | (intro _ _; rfl) | with_unfolding_all rfl | (intro _; with_unfolding_all rfl) | (simp; done)
      · apply SS_one
        · apply SX_Return
          exact SE_bool
        · rfl
    · intro h; cases h
  · rw [if_neg hc]
    apply SS.weak
    rotate_left
    · exact vle_set (x := Str.ofString "behind") (p := .lst ((behindB cov b gl at_).map .bool)) rfl
    apply SS_cons
    · apply SX_IfF
      · apply ST_BoolOp
        apply Tests.orF
        · have e : false = decide ((at_ : Int) - (b.length : Int) < 0) := by simp; omega
          rw [e]
          apply ST_Compare
          · apply SE_BinOp
            · (first | exact SE_local rfl rfl | exact SE_cell rfl rfl | exact SE_free rfl rfl)
            · apply call_len B
              · rfl
              · (first | exact SE_local rfl rfl | exact SE_cell rfl rfl | exact SE_free rfl rfl)
              · exact hlenB
              · rfl
            · exact SB_sub
          · exact SE_int
          · exact SC_lt
          all_goals first | rfl | decide | (rintro ⟨q, h⟩; cases h; done) | (intro _; rfl) | (intro _ _; rfl) | with_unfolding_all rfl | (intro _; with_unfolding_all rfl) | (simp; done)
        apply Tests.orF
        · have e : false = decide ((gl.length : Int) < (at_ : Int) + (i.length : Int) + (a.length : Int)) := by simp; omega
          rw [e]
          apply ST_Compare
          · apply SE_BinOp
            · apply SE_BinOp
              · (first | exact SE_local rfl rfl | exact SE_cell rfl rfl | exact SE_free rfl rfl)
              · apply call_len B
                · rfl
                · (first | exact SE_local rfl rfl | exact SE_cell rfl rfl | exact SE_free rfl rfl)
                · exact hlenB
                · rfl
              · exact SB_add
            · apply call_len B
              · rfl
              · (first | exact SE_local rfl rfl | exact SE_cell rfl rfl | exact SE_free rfl rfl)
              · exact hlenB
              · rfl
            · exact SB_add
          · apply call_len B
            · rfl
            · (first | exact SE_local rfl rfl | exact SE_cell rfl rfl | exact SE_free rfl rfl)
            · exact hlenG
            · rfl
          · exact SC_gt
          all_goals first | rfl | decide | (rintro ⟨q, h⟩; cases h; done) | (intro _; rfl) | (intro _ _; rfl) | with_unfolding_all rfl | (intro _; with_unfolding_all rfl) | (simp; done)
        · exact .orNil
      · exact SS_nil
    apply SS_cons
    · apply SX_AssignComp (outs := (behindB cov b gl at_).map .bool)
      · apply SI_enum B
        · exact is_enumerate B rfl
        · (first | exact SE_local rfl rfl | exact SE_cell rfl rfl | exact SE_free rfl rfl)
        · exact .lst
        all_goals first | rfl | decide | (rintro ⟨q, h⟩; cases h; done) | (intro _; rfl) | (intro _ _; rfl) | with_unfolding_all rfl | (intro _; with_unfolding_all rfl) | (simp; done)
      · apply CL1.loop
        · refine CL1_fold' (fun _ => st) (fun k => .bool (fit cov (b[k]?.getD .a) (gl[at_ - 1 - k]?.getD 0))) rfl rfl (by unfold behindB; rw [List.map_map, List.length_map, List.length_zipIdx, List.length_map]; rfl) (fun _ _ => .enum .lst) ?_
          intro k p hp
          obtain ⟨c, hcx, rfl⟩ := enum_get hp
          have hk : k < b.length := (List.getElem?_eq_some_iff.mp hcx).1
          have hidx : at_ - 1 - k < gl.length := by omega
          apply Exists.intro
          apply And.intro
          · exact SA_tuple .tup (.cons rfl (SA_name (.inl rfl)) (.cons rfl (SA_name (.inl rfl)) .nil))
          apply And.intro
          · apply call_fits hK B
            · rfl
            · apply SEs_cons
              · (first | exact SE_local rfl rfl | exact SE_cell rfl rfl | exact SE_free rfl rfl)
              · apply SEs_cons
                · apply SE_subL (l := gl.map .int)
                  · (first | exact SE_local rfl rfl | exact SE_cell rfl rfl | exact SE_free rfl rfl)
                  · apply SE_BinOp
                    · apply SE_BinOp
                      · (first | exact SE_local rfl rfl | exact SE_cell rfl rfl | exact SE_free rfl rfl)
                      · exact SE_int
                      · exact SB_sub
                    · (first | exact SE_local rfl rfl | exact SE_cell rfl rfl | exact SE_free rfl rfl)
                    · exact SB_sub
                  · exact .lst
                  · omega
                  · rw [show ((at_ : Int) - 1 - (k : Int)).toNat = at_ - 1 - k by omega, List.getElem?_map, List.getElem?_eq_getElem hidx]
                    rfl
                · exact SEs_nil
                · rfl
              · rfl
            · rw [hcx, List.getElem?_eq_getElem hidx]
              exact c_fits hK B
            · rfl
          · exact (vle_set rfl).trans (vle_set rfl)
        · simp [behindB]; omega
        all_goals first | rfl | decide | (rintro ⟨q, h⟩; cases h; done) | (intro _; rfl) | (intro _ _; rfl) | with_unfolding_all rfl | (intro _; with_unfolding_all rfl) | (simp; done)
      · exact compOK rfl
      · simp [behindB]; omega
      · exact .inl rfl
      all_goals first | rfl | decide | (rintro ⟨q, h⟩; cases h; done) | (intro _; rfl) | (intro _ _; rfl) | with_unfolding_all rfl | (intro _; with_unfolding_all rfl) | (simp; done)
    apply SS_one
    · apply SX_Return
      apply SE_Compare
      · exact SE_bool
      · apply SE_BinOp
        · (first | exact SE_local rfl rfl | exact SE_cell rfl rfl | exact SE_free rfl rfl)
        · apply SE_Comp (outs := (aheadB cov (i ++ a) gl at_).map .bool)
          · apply SI_enum B
            · exact is_enumerate B rfl
            · apply SE_BinOp (pa := .lst (i.map (tp cov))) (pb := .lst (a.map (tp cov)))
              · apply call_list B
                · rfl
                · (first | exact SE_local rfl rfl | exact SE_cell rfl rfl | exact SE_free rfl rfl)
                · exact SCall_listL .lst
                · rfl
              · apply call_list B
                · rfl
                · (first | exact SE_local rfl rfl | exact SE_cell rfl rfl | exact SE_free rfl rfl)
                · exact SCall_listL .lst
                · rfl
              · exact SB_lists .lst .lst (by simp; omega)
            · exact .lst
            all_goals first | rfl | decide | (rintro ⟨q, h⟩; cases h; done) | (intro _; rfl) | (intro _ _; rfl) | with_unfolding_all rfl | (intro _; with_unfolding_all rfl) | (simp; done)
          · apply CL1.loop
            · rw [← List.map_append]
              refine CL1_fold' (fun _ => st) (fun k => .bool (fit cov ((i ++ a)[k]?.getD .a) (gl[at_ + k]?.getD 0))) rfl rfl (by unfold aheadB; rw [List.map_map, List.length_map, List.length_zipIdx, List.length_map]; rfl) (fun _ _ => .enum .lst) ?_
              intro k p hp
              obtain ⟨c, hcx, rfl⟩ := enum_get hp
              have hk : k < (i ++ a).length := (List.getElem?_eq_some_iff.mp hcx).1
              rw [List.length_append] at hk
              have hidx : at_ + k < gl.length := by omega
              apply Exists.intro
              apply And.intro
              · exact SA_tuple .tup (.cons rfl (SA_name (.inl rfl)) (.cons rfl (SA_name (.inl rfl)) .nil))
              apply And.intro
              · apply call_fits hK B
                · rfl
                · apply SEs_cons
                  · (first | exact SE_local rfl rfl | exact SE_cell rfl rfl | exact SE_free rfl rfl)
                  · apply SEs_cons
                    · apply SE_subL (l := gl.map .int)
                      · (first | exact SE_local rfl rfl | exact SE_cell rfl rfl | exact SE_free rfl rfl)
                      · apply SE_BinOp
                        · (first | exact SE_local rfl rfl | exact SE_cell rfl rfl | exact SE_free rfl rfl)
                        · (first | exact SE_local rfl rfl | exact SE_cell rfl rfl | exact SE_free rfl rfl)
                        · exact SB_add
                      · exact .lst
                      · omega
                      · rw [show ((at_ : Int) + (k : Int)).toNat = at_ + k by omega, List.getElem?_map, List.getElem?_eq_getElem hidx]
                        rfl
                    · exact SEs_nil
                    · rfl
                  · rfl
                · rw [hcx, List.getElem?_eq_getElem hidx]
                  exact c_fits hK B
                · rfl
              · exact (vle_set rfl).trans (vle_set rfl)
            · simp [aheadB]; omega
            all_goals first | rfl | decide | (rintro ⟨q, h⟩; cases h; done) | (intro _; rfl) | (intro _ _; rfl) | with_unfolding_all rfl | (intro _; with_unfolding_all rfl) | (simp; done)
          · exact compOK rfl
          · simp [aheadB]; omega
          all_goals first | rfl | decide | (rintro ⟨q, h⟩; cases h; done) | (intro _; rfl) | (intro _ _; rfl) | with_unfolding_all rfl | (intro _; with_unfolding_all rfl) | (simp; done)
        · exact SB_lists .lst .lst (by simp [behindB, aheadB]; omega)
      · rw [← List.map_append]
        exact SC_notInBools
      all_goals first | rfl | decide | (rintro ⟨q, h⟩; cases h; done) | (intro _; rfl) | (intro _ _; rfl) | with_unfolding_all rfl | (intro _; with_unfolding_all rfl) | (simp; done)
    · rfl
end
end Mine

/-! part Fn15 -/
namespace Mine
/-! the plain law -/
def plainAt (rs : List RowA) (k : Nat) : Bool := (rs[k]?.map RowA.plain).getD false
def cnt (rs : List RowA) (k : Nat) : Bool := !(plainAt rs k && (decide (0 < k) && plainAt rs (k - 1)))
def counted (rs : List RowA) : Nat := ((List.range rs.length).filter (cnt rs)).length

theorem foldl_snoc {α β : Type} (f : α → β → α) (s : α) (l : List β) (x : β) : (l ++ [x]).foldl f s = f (l.foldl f s) x := by rw [List.foldl_append]; rfl
theorem snoc_ind {α : Type} {P : List α → Prop} (h0 : P []) (h1 : ∀ l x, P l → P (l ++ [x])) (l : List α) : P l := by
  have key : ∀ n (l : List α), l.length = n → P l := by
    intro n
    induction n with
    | zero => intro l h; rw [List.length_eq_zero_iff.mp h]; exact h0
    | succ n ih =>
      intro l h
      have hne : l ≠ [] := by intro e; subst e; simp at h
      rw [← List.dropLast_concat_getLast hne]
      exact h1 _ _ (ih _ (by simp [h]))
  exact key _ l rfl
theorem plainAt_lt {rs : List RowA} {r : RowA} {k : Nat} (h : k < rs.length) : plainAt (rs ++ [r]) k = plainAt rs k := by
  unfold plainAt; rw [List.getElem?_append_left h]
theorem plainAt_last {rs : List RowA} {r : RowA} : plainAt (rs ++ [r]) rs.length = r.plain := by simp [plainAt]
theorem counted_snoc (rs : List RowA) (r : RowA) : counted (rs ++ [r]) = counted rs + (if r.plain && (decide (0 < rs.length) && plainAt rs (rs.length - 1)) then 0 else 1) := by
  unfold counted
  rw [List.length_append, List.length_singleton, List.range_succ, List.filter_append, List.length_append]
  congr 1
  · congr 1
    apply List.filter_congr
    intro k hk
    have hk : k < rs.length := by simpa using hk
    unfold cnt
    rw [plainAt_lt hk, plainAt_lt (by omega)]
  · have : cnt (rs ++ [r]) rs.length = !(r.plain && (decide (0 < rs.length) && plainAt rs (rs.length - 1))) := by
      unfold cnt
      rw [plainAt_last]
      by_cases h : 0 < rs.length
      · rw [plainAt_lt (by omega)]
      · simp [h]
    rw [List.filter_cons, this]
    cases (r.plain && (decide (0 < rs.length) && plainAt rs (rs.length - 1))) <;> rfl
theorem tabs_len (rs : List RowA) : (tabsOf rs).length = counted rs := by
  have key : ((rs.foldl stepT ([], [])).1 ++ flush (rs.foldl stepT ([], [])).2).length = counted rs ∧ ((rs.foldl stepT ([], [])).2.isEmpty = !(decide (0 < rs.length) && plainAt rs (rs.length - 1))) := by
    induction rs using snoc_ind with
    | h0 => exact ⟨rfl, rfl⟩
    | h1 rs r ih =>
      obtain ⟨ih1, ih2⟩ := ih
      rw [foldl_snoc, counted_snoc]
      have hl : plainAt (rs ++ [r]) ((rs ++ [r]).length - 1) = r.plain := by
        rw [List.length_append, List.length_singleton, Nat.add_sub_cancel]; exact plainAt_last
      rw [hl]
      generalize rs.foldl stepT ([], []) = s at ih1 ih2
      obtain ⟨ts, pl⟩ := s
      simp only at ih1 ih2
      unfold stepT
      cases hr : r.plain with
      | true =>
        simp only [Bool.true_and, if_true]
        rw [List.length_append] at ih1 ⊢
        cases hp : (decide (0 < rs.length) && plainAt rs (rs.length - 1)) with
        | true =>
          rw [hp] at ih2
          have : pl ≠ [] := by intro e; subst e; simp at ih2
          simp [flush, this] at ih1 ⊢
          omega
        | false =>
          rw [hp] at ih2
          have : pl = [] := by simpa using ih2
          subst this
          simp [flush] at ih1 ⊢
          omega
      | false =>
        simp only [Bool.false_and, Bool.false_eq_true, if_false, Bool.and_false, Bool.not_false]
        rw [List.length_append] at ih1
        simp [flush] at ih1 ⊢
        omega
  exact key.1

def rowsIn : Tab → List RowA
  | .G rs => rs
  | .C r => [r]
theorem tabs_rows (rs : List RowA) : (tabsOf rs).flatMap rowsIn = rs := by
  have key : ((rs.foldl stepT ([], [])).1.flatMap rowsIn) ++ (rs.foldl stepT ([], [])).2 = rs := by
    induction rs using snoc_ind with
    | h0 => rfl
    | h1 rs r ih =>
      rw [foldl_snoc]
      generalize rs.foldl stepT ([], []) = s at ih
      obtain ⟨ts, pl⟩ := s
      simp only at ih
      unfold stepT
      split
      · simp only; rw [← List.append_assoc, ih]
      · simp only [List.flatMap_append, List.append_nil]
        have hf : (flush pl).flatMap rowsIn = pl := by
          unfold flush
          cases pl <;> simp [rowsIn]
        rw [hf, ih]; rfl
  unfold tabsOf
  simp only [List.flatMap_append]
  have hf : ∀ pl, (flush pl).flatMap rowsIn = pl := by
    intro pl; unfold flush
    cases pl <;> simp [rowsIn]
  rw [hf, key]
theorem tabs_plain (rs : List RowA) : ∀ t ∈ tabsOf rs, ∀ g, t = .G g → ∀ r ∈ g, r.plain = true := by
  have key : (∀ t ∈ (rs.foldl stepT ([], [])).1, ∀ g, t = .G g → ∀ r ∈ g, r.plain = true) ∧ (∀ r ∈ (rs.foldl stepT ([], [])).2, r.plain = true) := by
    induction rs using snoc_ind with
    | h0 => exact ⟨fun t h => by (cases h), fun r h => by (cases h)⟩
    | h1 rs r ih =>
      rw [foldl_snoc]
      generalize rs.foldl stepT ([], []) = s at ih
      obtain ⟨ts, pl⟩ := s
      simp only at ih
      obtain ⟨ih1, ih2⟩ := ih
      unfold stepT
      split
      · rename_i hr
        refine ⟨ih1, fun x hx => ?_⟩
        simp only [List.mem_append, List.mem_singleton] at hx
        rcases hx with hx | rfl
        · exact ih2 x hx
        · exact hr
      · refine ⟨fun t ht g hg => ?_, fun x hx => by (cases hx)⟩
        simp only [List.mem_append, List.mem_singleton] at ht
        rcases ht with (ht | ht) | ht
        · exact ih1 t ht g hg
        · unfold flush at ht
          split at ht
          · cases ht
          · simp only [List.mem_singleton] at ht
            subst hg; cases ht; exact ih2
        · subst hg; cases ht
  unfold tabsOf
  intro t ht g hg
  simp only [List.mem_append] at ht
  rcases ht with ht | ht
  · exact key.1 t ht g hg
  · unfold flush at ht
    split at ht
    · cases ht
    · simp only [List.mem_singleton] at ht
      subst hg; cases ht; exact key.2

theorem fit_single {c : Cd} (h : c.single = true) (g : Int) : fit false c g = fit true c g := by
  cases c <;> simp_all [Cd.single, fit, Cd.one, Cd.gl]
theorem all_false_any {l : List Bool} : (!l.any (· == false)) = true ↔ ∀ b ∈ l, b = true := by
  rw [Bool.not_eq_true', List.any_eq_false]
  constructor
  · intro h b hb; have := h b hb; cases b <;> simp_all
  · intro h b hb; rw [h b hb]; simp

theorem fits_hit {r : RowA} {gl : List Int} {at_ : Nat} : fitsB r gl at_ = hitB true r.b.reverse r.i r.a gl at_ := by
  rw [Bool.eq_iff_iff]
  unfold fitsB hitB
  have hlen : r.all.length = r.b.length + (r.i.length + r.a.length) := by simp [RowA.all] <;> omega
  rw [List.length_reverse, hlen]
  by_cases hc : at_ < r.b.length ∨ gl.length < at_ + r.i.length + r.a.length
  · rw [if_pos (by omega), if_pos hc]
  rw [if_neg (by omega), if_neg hc, all_false_any]
  have e : (badSpots r gl at_).isEmpty = true ↔ ∀ s, s < r.all.length → (r.all[s]?.getD .a).gl.any (· == gl[at_ - r.b.length + s]?.getD 0) = true := by
    unfold badSpots
    rw [List.isEmpty_iff, List.filter_eq_nil_iff]
    constructor
    · intro h s hs; simpa using h s (by simpa using hs)
    · intro h s hs; simpa using h s (by simpa using hs)
  rw [e]
  have hall : r.all = r.b ++ (r.i ++ r.a) := by simp [RowA.all]
  constructor
  · intro h x hx
    rw [List.mem_append] at hx
    rcases hx with hx | hx
    · unfold behindB at hx
      obtain ⟨k, hk, rfl⟩ := List.mem_map.mp hx
      have hk : k < r.b.length := by simpa using hk
      have h1 := h (r.b.length - 1 - k) (by omega)
      rw [hall, List.getElem?_append_left (by omega), show at_ - r.b.length + (r.b.length - 1 - k) = at_ - 1 - k by omega] at h1
      rw [List.getElem?_reverse hk]
      exact h1
    · unfold aheadB at hx
      obtain ⟨k, hk, rfl⟩ := List.mem_map.mp hx
      have hk : k < r.i.length + r.a.length := by simpa using hk
      have h1 := h (r.b.length + k) (by omega)
      rw [hall, List.getElem?_append_right (by omega), show r.b.length + k - r.b.length = k by omega, show at_ - r.b.length + (r.b.length + k) = at_ + k by omega] at h1
      exact h1
  · intro h s hs
    rw [hall]
    by_cases hb : s < r.b.length
    · have h1 := h (fit true (r.b.reverse[r.b.length - 1 - s]?.getD .a) (gl[at_ - 1 - (r.b.length - 1 - s)]?.getD 0)) (List.mem_append_left _ (List.mem_map.mpr ⟨r.b.length - 1 - s, by simp; omega, rfl⟩))
      rw [List.getElem?_reverse (by omega), show r.b.length - 1 - (r.b.length - 1 - s) = s by omega, show at_ - 1 - (r.b.length - 1 - s) = at_ - r.b.length + s by omega] at h1
      rw [List.getElem?_append_left hb]
      exact h1
    · have h1 := h (fit true ((r.i ++ r.a)[s - r.b.length]?.getD .a) (gl[at_ + (s - r.b.length)]?.getD 0)) (List.mem_append_right _ (List.mem_map.mpr ⟨s - r.b.length, by simp; omega, rfl⟩))
      rw [show at_ + (s - r.b.length) = at_ - r.b.length + s by omega] at h1
      rw [List.getElem?_append_right (by omega)]
      exact h1
theorem hit_plain {r : RowA} (h : r.plain = true) {gl : List Int} {at_ : Nat} : hitB false r.b.reverse r.i r.a gl at_ = hitB true r.b.reverse r.i r.a gl at_ := by
  unfold RowA.plain at h
  rw [List.all_eq_true] at h
  have hg : ∀ (x : List Cd) (k : Nat) (g : Int), (∀ c ∈ x, c.single = true) → fit false (x[k]?.getD .a) g = fit true (x[k]?.getD .a) g := by
    intro x k g hx
    apply fit_single
    cases hk : x[k]? with
    | none => rfl
    | some c => exact hx c (List.mem_of_getElem? hk)
  unfold hitB
  have e1 : behindB false r.b.reverse gl at_ = behindB true r.b.reverse gl at_ := by
    unfold behindB
    apply List.map_congr_left
    intro k _
    exact hg _ _ _ (fun c hc => h c (by simp at hc; simp [hc]))
  have e2 : aheadB false (r.i ++ r.a) gl at_ = aheadB true (r.i ++ r.a) gl at_ := by
    unfold aheadB
    apply List.map_congr_left
    intro k _
    exact hg _ _ _ (fun c hc => h c (by simp at hc; simp; exact .inr hc))
  rw [e1, e2]

theorem fits_head {r : RowA} {gl : List Int} {at_ : Nat} {c : Cd} {cs : List Cd} (hi : r.i = c :: cs) (h : fitsB r gl at_ = true) : c.gl.any (· == gl[at_]?.getD 0) = true := by
  unfold fitsB at h
  split at h
  · cases h
  · rename_i hc
    unfold badSpots at h
    rw [List.isEmpty_iff, List.filter_eq_nil_iff] at h
    have h1 := h r.b.length (by simp [RowA.all, hi] <;> omega)
    have hx : r.all[r.b.length]? = some c := by simp [RowA.all, hi]
    rw [hx, show at_ - r.b.length + r.b.length = at_ by omega] at h1
    simpa using h1
def headGl (r : RowA) : List Int := match r.i with
  | [] => []
  | c :: _ => c.gl
def toldT (gl : List Int) (at_ : Nat) : Tab → List RowA
  | .G rs => (filt rs (gl[at_]?.getD 0)).filter fun r => hitB false r.b.reverse r.i r.a gl at_
  | .C r => if (headGl r).any (· == gl[at_]?.getD 0) && hitB true r.b.reverse r.i r.a gl at_ then [r] else []
theorem told_tab {gl : List Int} {at_ : Nat} : ∀ (t : Tab), (∀ r ∈ rowsIn t, r.i ≠ []) → (∀ g, t = .G g → ∀ r ∈ g, r.plain = true) → toldT gl at_ t = (rowsIn t).filter fun r => fitsB r gl at_
  | .G rs, hne, hp => by
    show (List.filter (fun r => hitB false r.b.reverse r.i r.a gl at_) (List.filter (fun r => rowKey r == gl[at_]?.getD 0) rs)) = List.filter (fun r => fitsB r gl at_) rs
    rw [List.filter_filter]
    apply List.filter_congr
    intro r hr
    have hpl := hp rs rfl r hr
    rw [hit_plain hpl, ← fits_hit]
    cases hf : fitsB r gl at_ with
    | false => rfl
    | true =>
      have hi := hne r hr
      unfold rowKey
      cases hx : r.i with
      | nil => exact absurd hx hi
      | cons c cs =>
        have h1 := fits_head hx hf
        have hs : c.single = true := by
          unfold RowA.plain at hpl
          rw [List.all_eq_true] at hpl
          exact hpl c (by simp [hx])
        have h2 := fit_single hs (gl[at_]?.getD 0)
        simp only [fit, Bool.false_eq_true, if_false, if_true] at h2
        rw [h1] at h2
        simpa using h2
  | .C r, hne, hp => by
    show (if (headGl r).any (· == gl[at_]?.getD 0) && hitB true r.b.reverse r.i r.a gl at_ then [r] else []) = List.filter (fun r => fitsB r gl at_) [r]
    rw [← fits_hit, List.filter_cons, List.filter_nil]
    cases hf : fitsB r gl at_ with
    | false => simp
    | true =>
      have hi := hne r (by simp [rowsIn])
      unfold headGl
      cases hx : r.i with
      | nil => exact absurd hx hi
      | cons c cs =>
        have h1 := fits_head hx hf
        simp only [h1]; simp
theorem told_all {rs : List RowA} {gl : List Int} {at_ : Nat} (hne : ∀ r ∈ rs, r.i ≠ []) : (tabsOf rs).flatMap (toldT gl at_) = rs.filter fun r => fitsB r gl at_ := by
  have h1 : (tabsOf rs).flatMap (toldT gl at_) = (tabsOf rs).flatMap fun t => (rowsIn t).filter fun r => fitsB r gl at_ := by
    have : ∀ (ts : List Tab), (∀ t ∈ ts, toldT gl at_ t = (rowsIn t).filter fun r => fitsB r gl at_) → ts.flatMap (toldT gl at_) = ts.flatMap fun t => (rowsIn t).filter fun r => fitsB r gl at_ := by
      intro ts
      induction ts with
      | nil => intro _; rfl
      | cons t ts ih =>
        intro h
        rw [List.flatMap_cons, List.flatMap_cons, h t (by simp), ih fun t ht => h t (by simp [ht])]
    apply this
    intro t ht
    apply told_tab
    · intro r hr
      apply hne
      rw [← tabs_rows rs]
      exact List.mem_flatMap.mpr ⟨t, ht, hr⟩
    · exact tabs_plain rs t ht
  rw [h1, ← List.filter_flatMap, tabs_rows]
def dueI (rs : List RowA) (gl : List Int) (at_ : Nat) : List Nat := (List.range rs.length).filter fun k => ((rs[k]?.map fun r => fitsB r gl at_).getD false)
theorem due_eq {rs : List RowA} {gl : List Int} {at_ : Nat} (hl : ∀ (k : Nat) (r : RowA), rs[k]? = some r → r.lap = k) : (rs.filter fun r => fitsB r gl at_).map (fun r : RowA => (10 : Int) + (r.lap : Int)) = (dueI rs gl at_).map fun k : Nat => (10 : Int) + (k : Int) := by
  induction rs using snoc_ind with
  | h0 => rfl
  | h1 rs r ih =>
    have ih := ih fun k x hx => hl k x (by rw [List.getElem?_append_left (List.getElem?_eq_some_iff.mp hx).1]; exact hx)
    have hlap := hl rs.length r (by simp)
    rw [List.filter_append, List.map_append, ih]
    unfold dueI
    rw [List.length_append, List.length_singleton, List.range_succ, List.filter_append, List.map_append]
    congr 1
    · congr 1
      apply List.filter_congr
      intro k hk
      have hk : k < rs.length := by simpa using hk
      rw [List.getElem?_append_left hk]
    · simp only [List.filter_cons, List.filter_nil]
      have : ((rs ++ [r])[rs.length]?.map fun r => fitsB r gl at_).getD false = fitsB r gl at_ := by simp
      rw [this]
      cases fitsB r gl at_ <;> simp [hlap]
theorem due_sorted {rs : List RowA} {gl : List Int} {at_ : Nat} : ((dueI rs gl at_).map fun k : Nat => (10 : Int) + (k : Int)).Pairwise (· ≤ ·) := by
  rw [List.pairwise_map]
  have h : (dueI rs gl at_).Pairwise (· < ·) := List.Pairwise.sublist List.filter_sublist List.pairwise_lt_range
  exact h.imp fun h => by omega
theorem due_len {rs : List RowA} {gl : List Int} {at_ : Nat} : (dueI rs gl at_).length ≤ rs.length := by
  have := List.length_filter_le (fun k => ((rs[k]?.map fun r => fitsB r gl at_).getD false)) (List.range rs.length)
  rw [List.length_range] at this
  exact this
end Mine

/-! part Fn16 -/
namespace Mine
section
variable {W : Wd} {D : Nat} {V V₁ V₂ V' : Vars} {st st₁ st₂ st' : St} {pv : PV} {l : List PV} {src : Src}

def Goes (W : Wd) (D : Nat) (V : Vars) (xs : List Stmt) (st : St) (R : Flo → Vars → St → Prop) : Prop := ∃ fl V₂ st₂, SS W D V xs st fl V₂ st₂ ∧ R fl V₂ st₂
variable {R : Flo → Vars → St → Prop} {x : Stmt} {xs : List Stmt}
theorem G_det (h : SX W D V x st .next V₁ st₁) (k : Goes W D V₁ xs st₁ R) : Goes W D V (x :: xs) st R := let ⟨fl, V₂, st₂, a, b⟩ := k; ⟨fl, V₂, st₂, SS_cons h a, b⟩
theorem G_end {fl : Flo} (h : SX W D V x st fl V₁ st₁) (hr : R fl V₁ st₁) : Goes W D V [x] st R := ⟨fl, V₁, st₁, SS_one h rfl, hr⟩
theorem G_if {t : Expr} {a b : List Stmt} {pos : Pos} (h : ST W D V t st false st₁) (hb : b = []) (k : Goes W D V xs st₁ R) : Goes W D V (.If t a b pos :: xs) st R := by
  subst hb; exact G_det (SX_IfF h SS_nil) k
theorem G_for {t iter : Expr} {body : List Stmt} {pos : Pos} (P : Nat → St → Prop) (hi : SI W D V iter st src st₁) (hit : ∀ i st, P i st → Items st src l) (h0 : P 0 st₁)
    (h : ∀ i p st, l[i]? = some p → P i st → ∃ V₁ st₁, SA W D V t p st V₁ st₁ ∧ Goes W D V₁ body st₁ fun fl V₂ st₂ => (fl = .next ∨ fl = .cont) ∧ VLe V V₂ ∧ P (i + 1) st₂)
    (hx : ∀ st', P l.length st' → Goes W D V xs st' R)
    (ht : letGoOK t = true := by rfl) (hte : (∃ q, src = .enum q) → tupTarget t = true := by first | (rintro ⟨q, h⟩; cases h; done) | (intro _; rfl)) (hs : ∀ env x, foldedSetIterable iter env x = pure x := by intro _ _; rfl) :
    Goes W D V (.For t iter body [] pos :: xs) st R := by
  obtain ⟨V', st', a, rfl, b⟩ := ForL_inv (W := W) (D := D) (t := t) (body := body) (V := V) (st := st₁) (fun i V' st => V' = V ∧ P i st) (fun i V st h => hit i st h.2)
    (fun i p V' st hp hP => by
      obtain ⟨rfl, hP⟩ := hP
      obtain ⟨V₁, st₁, a, fl, V₂, st₂, b, c, d, e⟩ := h i p st hp hP
      exact ⟨V₁, st₁, V₂, V', st₂, fl, a, b, c, d, rfl, e⟩) ⟨rfl, h0⟩
  exact G_det (SX_For hi a ht hte hs) (hx st' b)
theorem G_assignT {Q : List PV → St → Prop} {ts : List Expr} {k : Nat} {tp pos : Pos} {e : Expr} (h : ∃ l st₁, SE W D V e st (.lst l) st₁ ∧ Q l st₁) (hk : ∀ l st₁, Q l st₁ → ∃ V₁, SAs W D V ts l st₁ V₁ st₁ ∧ Goes W D V₁ xs st₁ R) (hn : noTuple e = true) :
    Goes W D V (.Assign [.Tuple ts k tp] e pos :: xs) st R := by
  obtain ⟨l, st₁, a, b⟩ := h
  obtain ⟨V₁, c, d⟩ := hk l st₁ b
  exact G_det (SX_AssignT a (.lst .lst) c hn) d
theorem G_assignComp {Q : List PV → St → Prop} {elt t iter : Expr} {ifs : List Expr} {rest : List Comprehension} {scope : Scope} {pos spos yp : Pos} {y : Str}
    (hi : SI W D V iter st src st₁) (hL : ∃ outs V' st', LoopOK W D elt (⟨t, iter, ifs, 0⟩ :: rest) scope pos src (innerV scope V) st₁ outs V' st' ∧ outs.length ≤ 100000 ∧ Q outs st') (ok : CompOK scope V.scope)
    (hy : V.scope.names.lookup y = some .local ∨ (V.scope.names.lookup y = some .cell ∧ V.own = true)) (hk : ∀ outs st', Q outs st' → Goes W D (V.set y (.lst outs)) xs st' R) (hs : ∀ env x, foldedSetIterable iter env x = pure x := by intro _ _; rfl) :
    Goes W D V (.Assign [.Name y yp] (.ListComp elt (⟨t, iter, ifs, 0⟩ :: rest) scope pos) spos :: xs) st R := by
  obtain ⟨outs, V', st', a, b, c⟩ := hL
  exact G_det (SX_AssignComp hi a ok b hy hs) (hk outs st' c)

/-- a comprehension with one if, by places -/
theorem CL1_filterI {t elt c : Expr} {outs : List PV} (q : Nat → Bool) (g : Nat → PV) (ho : ((List.range l.length).filter q).map g = outs) (hit : Items st src l) (h : ∀ i p, l[i]? = some p → ∃ V₁, SA W D V t p st V₁ st ∧ ST W D V₁ c st (q i) st ∧ (q i = true → SE W D V₁ elt st (g i) st) ∧ VLe V V₁) :
    CL1 W D t [c] elt src l 0 V st outs V st := by
  subst ho
  have key : ∀ n i, l.length - i = n → i ≤ l.length → CL1 W D t [c] elt src l i V st ((((List.range l.length).drop i).filter q).map g) V st := by
    intro n
    induction n with
    | zero =>
      intro i hn hi
      rw [List.drop_eq_nil_of_le (by simp; omega)]
      exact .done (by omega) hit
    | succ n ih =>
      intro i hn hi
      have hlt : i < l.length := by omega
      obtain ⟨V₁, a, b, d, e⟩ := h i l[i] (List.getElem?_eq_getElem hlt)
      rw [List.drop_eq_getElem_cons (by simpa using hlt), List.getElem_range, List.filter_cons]
      cases hq : q i with
      | true =>
        rw [hq] at b
        rw [if_pos rfl, List.map_cons]
        exact .take (List.getElem?_eq_getElem hlt) hit a (.tt b .nil) (d hq) e (ih (i + 1) (by omega) hlt)
      | false =>
        rw [hq] at b
        rw [if_neg (by simp)]
        exact .skip (List.getElem?_eq_getElem hlt) hit a (.ff b) e (ih (i + 1) (by omega) hlt)
  simpa using key _ 0 rfl (Nat.zero_le _)
/-- two clauses whose turns keep a law -/
theorem loop2_inv {t t2 elt iter iter2 : Expr} {ifs2 : List Expr} {scope : Scope} {pos : Pos} {Q : List PV → St → Prop} (P : Nat → List PV → St → Prop) (hit : ∀ i outs st, P i outs st → Items st src l) (h0 : P 0 [] st)
    (h : ∀ i p outs st, l[i]? = some p → P i outs st → ∃ V₁ src2 st₃ l2 outs₁ V₂ st₄, SA W D V t p st V₁ st ∧ SI W D V₁ iter2 st src2 st₃ ∧ EOK src2 t2 ∧ CL1 W D t2 ifs2 elt src2 l2 0 V₁ st₃ outs₁ V₂ st₄ ∧ VLe V V₂ ∧ P (i + 1) (outs ++ outs₁) st₄)
    (hz : ∀ outs st', P l.length outs st' → outs.length ≤ 100000 ∧ Q outs st') (ht : letGoOK t = true := by rfl) (ht2 : letGoOK t2 = true := by rfl)
    (hte : EOK src t := by first | (rintro ⟨q, h⟩; cases h; done) | (intro _; rfl)) (hs : ∀ env x, foldedSetIterable iter2 env x = pure x := by intro _ _; rfl) :
    ∃ outs V' st', LoopOK W D elt [⟨t, iter, [], 0⟩, ⟨t2, iter2, ifs2, 0⟩] scope pos src V st outs V' st' ∧ outs.length ≤ 100000 ∧ Q outs st' := by
  have key : ∀ n i pre st, l.length - i = n → i ≤ l.length → P i pre st → ∃ outs st', CL2 W D t [] iter2 t2 ifs2 elt src l i V st outs V st' ∧ P l.length (pre ++ outs) st' := by
    intro n
    induction n with
    | zero =>
      intro i pre st hn hi hP
      have : i = l.length := by omega
      subst this
      exact ⟨[], st, .done (Nat.le_refl _) (hit _ _ _ hP), by simpa using hP⟩
    | succ n ih =>
      intro i pre st hn hi hP
      have hlt : i < l.length := by omega
      obtain ⟨V₁, src2, st₃, l2, outs₁, V₂, st₄, a, b, c, d, e, f⟩ := h i l[i] pre st (List.getElem?_eq_getElem hlt) hP
      obtain ⟨outs, st', p, q⟩ := ih (i + 1) (pre ++ outs₁) st₄ (by omega) hlt f
      exact ⟨outs₁ ++ outs, st', .deep (List.getElem?_eq_getElem hlt) (hit i _ _ hP) a .nil b c d e p, by simpa using q⟩
  obtain ⟨outs, st', a, b⟩ := key _ 0 [] st rfl (Nat.zero_le _) h0
  obtain ⟨c, d⟩ := hz outs st' (by simpa using b)
  exact ⟨outs, V, st', a.loop c ht ht2 hte hs, c, d⟩

structure RowL (r : RowA) (k : Nat) : Prop where
  lap : r.lap = k
  b : r.b.length ≤ 2
  i : r.i.length ≤ 2
  a : r.a.length ≤ 2
  ne : r.i ≠ []
theorem RowL.ok {r : RowA} {k : Nat} (h : RowL r k) (hk : k < 5) : r.Ok := ⟨by have := h.b; omega, by have := h.i; omega, by have := h.a; omega, h.ne, by have := h.lap; omega⟩
def RowsL (rs : List RowA) : Prop := ∀ k r, rs[k]? = some r → RowL r k
theorem RowsL.ok {rs : List RowA} (h : RowsL rs) (hz : rs.length ≤ 5) : ∀ r ∈ rs, r.Ok := by
  intro r hr
  obtain ⟨k, hk, e⟩ := List.getElem_of_mem hr
  exact (h k r (by rw [List.getElem?_eq_getElem hk, e])).ok (by omega)

theorem range_get {n i : Nat} {p : PV} (h : ((List.range n).map fun i : Nat => PV.int (0 + (i : Int)))[i]? = some p) : p = .int (i : Int) ∧ i < n := by
  have hi : i < n := by simpa using (List.getElem?_eq_some_iff.mp h).1
  rw [List.getElem?_map, List.getElem?_range hi] at h
  simp at h
  exact ⟨h.symm, hi⟩
theorem str_small {k : Nat} (h : k < 5) : (Str.ofString "N").length + (Str.ofString (toString (k : Int))).length ≤ 100000 := by
  match k, h with
  | 0, _ => decide
  | 1, _ => decide
  | 2, _ => decide
  | 3, _ => decide
  | 4, _ => decide

end
end Mine

/-! part Fn17 -/
namespace Mine
section
variable {W : Wd} {D : Nat} {V : Vars} {st st₁ : St}
theorem SE_ListM0 {es : List Expr} {pos : Pos} {ps : List PV} (h : SEs W D V es st ps []) (hz : ps.length ≤ 100000 := by decide) : SE W D V (.List es pos) st (.mref 0) [.arr ps] := SE_ListA h hz

def rowsMO (rs : List RowA) : MO := .lst (rs.map RowA.pv)
def isTrue_ (fl : Flo) (V : Vars) (st : St) : Prop := fl = .ret (.bool true)

theorem SE_ListM1 {es : List Expr} {pos : Pos} {ps : List PV} {m : Nat} (h : SEs W D V es st ps st₁) (hm : st₁.length = m) (hz : ps.length ≤ 100000 := by decide) : SE W D V (.List es pos) st (.mref m) (st₁ ++ [.lst ps]) := hm ▸ SE_ListM h hz
def lensOf (r : RowA) : List Int := r.all.map fun c => (c.nms.length : Int)
theorem lens_len {r : RowA} (hr : r.Ok) : ((lensOf r).map PV.int).length ≤ 100000 := by
  have := hr.b; have := hr.i; have := hr.a
  simp [lensOf, RowA.all] <;> omega
theorem lens_max {r : RowA} (hr : r.Ok) : (if r.plain then (1 : Int) else 2) ∈ lensOf r ∧ ∀ x ∈ lensOf r, x ≤ (if r.plain then (1 : Int) else 2) := by
  have hs : ∀ c : Cd, (c.nms.length : Int) = if c.single then 1 else 2 := by intro c; cases c <;> rfl
  cases hp : r.plain with
  | true =>
    unfold RowA.plain at hp
    rw [List.all_eq_true] at hp
    constructor
    · have hne := hr.ne
      cases hi : r.i with
      | nil => exact absurd hi hne
      | cons c cs =>
        have hc : c ∈ r.all := by simp [RowA.all, hi]
        refine List.mem_map.mpr ⟨c, hc, ?_⟩
        rw [hs, hp c hc]
    · intro x hx
      obtain ⟨c, hc, rfl⟩ := List.mem_map.mp hx
      rw [hs, hp c hc]; simp
  | false =>
    unfold RowA.plain at hp
    rw [List.all_eq_false] at hp
    obtain ⟨c, hc, h⟩ := hp
    constructor
    · refine List.mem_map.mpr ⟨c, hc, ?_⟩
      rw [hs]; simp [h]
    · intro x hx
      obtain ⟨c, hc, rfl⟩ := List.mem_map.mp hx
      rw [hs]; split <;> simp
theorem lens_flat (r : RowA) : (lensOf r).map PV.int = (r.parts.map partPV).flatMap (fun p => match p with | .tup l => (l.map (fun q => match q with | .tup m => PV.int (m.length : Int) | _ => .none)) | _ => []) := by
  have hf : ∀ x : List Cd, (x.map fun c => (c.nms.length : Int)).map PV.int = (x.map Cd.pv).map (fun q => match q with | .tup m => PV.int (m.length : Int) | _ => .none) := by
    intro x
    rw [List.map_map, List.map_map]
    apply List.map_congr_left
    intro c _
    cases c <;> rfl
  unfold lensOf RowA.all
  rw [List.map_append, List.map_append, List.map_append, List.map_append, hf, hf, hf, List.append_assoc]
  show _ = _ ++ (_ ++ (_ ++ []))
  rw [List.append_nil]
  rfl
theorem enum_getA {α : Type} {f : α → PV} {x : List α} {i : Nat} {p : PV} (h : (((x.map f).zipIdx).map fun q => PV.tup [.int (q.2 : Int), q.1])[i]? = some p) : ∃ c, x[i]? = some c ∧ p = .tup [.int (i : Int), f c] := by
  rw [List.getElem?_map, List.getElem?_zipIdx, List.getElem?_map] at h
  cases hx : x[i]? with
  | none => rw [hx] at h; simp at h
  | some c => rw [hx] at h; simp at h; exact ⟨c, rfl, h.symm⟩
theorem flat_len {α β : Type} {f : α → List β} {t : α} : ∀ {ts : List α}, t ∈ ts → (f t).length ≤ (ts.flatMap f).length
  | x :: ts, h => by
    rw [List.flatMap_cons, List.length_append]
    rcases List.mem_cons.mp h with rfl | h
    · omega
    · have := flat_len (f := f) h; omega
theorem filt_idx {α β : Type} (p : α → Bool) (f : α → β) (d : β) (x : List α) : ((List.range x.length).filter fun j => (x[j]?.map p).getD false).map (fun j => (x[j]?.map f).getD d) = (x.filter p).map f := by
  induction x using snoc_ind with
  | h0 => rfl
  | h1 x a ih =>
    rw [List.length_append, List.length_singleton, List.range_succ, List.filter_append, List.map_append, List.filter_append, List.map_append, ← ih]
    congr 1
    · have e : (List.range x.length).filter (fun j => ((x ++ [a])[j]?.map p).getD false) = (List.range x.length).filter (fun j => (x[j]?.map p).getD false) := by
        apply List.filter_congr
        intro j hj
        rw [List.getElem?_append_left (by simpa using hj)]
      rw [e]
      apply List.map_congr_left
      intro j hj
      rw [List.getElem?_append_left (by simpa using (List.mem_filter.mp hj).1)]
    · have e : (x ++ [a])[x.length]? = some a := by simp
      simp only [List.filter_cons, List.filter_nil, e, Option.map_some, Option.getD_some]
      cases p a <;> simp
theorem tests_G (r : RowA) : (ruleG r).tests (Str.ofString "glyph") = tstsPV false r.b.reverse r.i r.a r.acts := by
  have h : ∀ x : List Cd, (x.map onePV).map (tst (Str.ofString "glyph")) = x.map (tp false) := fun x => by rw [List.map_map]; rfl
  unfold RuleA.tests ruleG tstsPV
  simp only [← List.map_reverse, h]
theorem tests_C (r : RowA) : (ruleC r).tests (Str.ofString "cover") = tstsPV true r.b.reverse r.i r.a r.acts := by
  have h : ∀ x : List Cd, (x.map covOf).map (tst (Str.ofString "cover")) = x.map (tp true) := fun x => by rw [List.map_map]; rfl
  unfold RuleA.tests ruleC tstsPV
  simp only [← List.map_reverse, h]
theorem ruleG_ok {r : RowA} (h : r.Ok) : (ruleG r).Ok := ⟨by have := h.b; simp [ruleG]; omega, by have := h.i; simp [ruleG]; omega, by have := h.a; simp [ruleG]; omega⟩
theorem ruleC_ok {r : RowA} (h : r.Ok) : (ruleC r).Ok := ⟨by have := h.b; simp [ruleC]; omega, by have := h.i; simp [ruleC]; omega, by have := h.a; simp [ruleC]; omega⟩
theorem law_walk (hK : W.K = HdT.K39 W.w.params) (B : Base W) {a : Addr} {items : List Value} {ns : List Int} (hL : W.s₀.heap.IsList a items.toArray) (hI : IntsAre items ns) (hz : ns.length ≤ 63) :
    ∃ fd body, (∃ oc od osl, W.K.lookup 332 = some ⟨oc, od, .func fd, osl⟩) ∧ fd.body = .stmts body ∧ Goes W (D + 5) ⟨true, fd.scope, [(Str.ofString "script", .raw a)]⟩ body [] isTrue_ := by
  refine ⟨_, _, ⟨_, _, _, by rw [hK]; rfl⟩, rfl, ?_⟩
  have hlen : items.length ≤ 100000 := by have := hI.length; omega
  -- cells
  apply G_det (V₁ := Vars.set ⟨true, _, [(Str.ofString "script", .raw a)]⟩ (Str.ofString "cells") (.lst (((ns.take 60).map (fun n => n.fmod 1000003)).map .int))) (st₁ := [])
  · apply SX_AssignComp
    · apply SI_lst
      · apply SE_sliceRaw
        · exact SE_local rfl rfl
        · exact hL
        · exact hI
        · exact hlen
      · exact .lst
    · apply CL1.loop
      · have e : ((ns.take 60).map (fun n => n.fmod 1000003)).map PV.int = ((ns.take 60).map PV.int).map (fun p => match p with | .int n => PV.int (n.fmod 1000003) | _ => PV.none) := by
          rw [List.map_map, List.map_map]; rfl
        rw [e]
        apply CL1_map _ (.lst .lst)
        intro p hp
        obtain ⟨n, _, rfl⟩ := List.mem_map.mp hp
        apply Exists.intro
        apply And.intro
        · exact SA_name (.inl rfl)
        apply And.intro
        · apply SE_BinOp
          · apply call_int B
            · rfl
            · (first | exact SE_local rfl rfl | exact SE_cell rfl rfl | exact SE_free rfl rfl)
            · exact SCall_int
            · rfl
          · exact SE_int
          · exact SB_mod (by decide)
        · exact vle_set rfl
      · simp; omega
      all_goals first | rfl | decide | (rintro ⟨q, h⟩; cases h; done) | (intro _; rfl) | (intro _ _; rfl) | with_unfolding_all rfl | (intro _; with_unfolding_all rfl) | (simp; done)
    · exact compOK rfl
    · simp; omega
    · exact .inl rfl
    all_goals first | rfl | decide | (rintro ⟨q, h⟩; cases h; done) | (intro _; rfl) | (intro _ _; rfl) | with_unfolding_all rfl | (intro _; with_unfolding_all rfl) | (simp; done)
  generalize hC : (ns.take 60).map (fun n => n.fmod 1000003) = C
  -- pen
  apply G_det
  · apply SX_Assign (pv := .mref 0)
    · apply SE_ListM0
      · apply SEs_cons
        · (first | exact SE_local rfl rfl | exact SE_cell rfl rfl | exact SE_free rfl rfl)
        · apply SEs_cons SE_int
          · apply SEs_cons
            · apply SE_BinOp
              · apply call_sum B
                · rfl
                · (first | exact SE_local rfl rfl | exact SE_cell rfl rfl | exact SE_free rfl rfl)
                · exact SCall_sum .lst
                · rfl
              · exact SE_int
              · exact SB_mod (by decide)
            · exact SEs_nil
            · rfl
        · rfl
      all_goals first | rfl | decide | (rintro ⟨q, h⟩; cases h; done) | (intro _; rfl) | (intro _ _; rfl) | with_unfolding_all rfl | (intro _; with_unfolding_all rfl) | (simp; done)
    · exact .inr ⟨rfl, rfl⟩
    all_goals first | rfl | decide | (rintro ⟨q, h⟩; cases h; done) | (intro _; rfl) | (intro _ _; rfl) | with_unfolding_all rfl | (intro _; with_unfolding_all rfl) | (simp; done)
  generalize hseed : C.sum.fmod 997 = seed
  -- rows
  apply G_det
  · apply SX_Assign (pv := .mref 1)
    · apply SE_ListM1 SEs_nil rfl
      all_goals first | rfl | decide | (rintro ⟨q, h⟩; cases h; done) | (intro _; rfl) | (intro _ _; rfl) | with_unfolding_all rfl | (intro _; with_unfolding_all rfl) | (simp; done)
    · exact .inl rfl
    all_goals first | rfl | decide | (rintro ⟨q, h⟩; cases h; done) | (intro _; rfl) | (intro _ _; rfl) | with_unfolding_all rfl | (intro _; with_unfolding_all rfl) | (simp; done)
  -- the rows are drawn
  have hpen0 : ([.arr [.lst (C.map .int), .int 0, .int seed]] ++ [MO.lst []] : St)[0]? = some (penMO C (0 : Nat) seed) := rfl
  obtain ⟨d5, hd5, d50, d55⟩ := c_draw (D := D + 4) hK B hpen0 (by omega) (m := 5) (by decide)
  refine G_for (st₁ := [penMO C (1 : Nat) seed, MO.lst []]) (l := (List.range (1 + d5).toNat).map fun i : Nat => PV.int (0 + (i : Int))) (src := .range 0 (1 + d5).toNat)
    (fun i T => ∃ (n : Nat) (rs : List RowA), T = [penMO C n seed, rowsMO rs] ∧ rs.length = i ∧ n ≤ 1 + 9 * i ∧ RowsL rs) ?_ ?_ ?_ ?_ ?_
  · apply SI_range B
    · exact is_range B rfl
    · apply SE_BinOp
      · exact SE_int
      · apply call_law_draw hK B
        · rfl
        · apply SEs_cons
          · (first | exact SE_local rfl rfl | exact SE_cell rfl rfl | exact SE_free rfl rfl)
          · exact SEs_cons SE_int SEs_nil
          · rfl
        · exact hd5
        · rfl
      · exact SB_add
    · omega
    · omega
    all_goals first | rfl | decide | (rintro ⟨q, h⟩; cases h; done) | (intro _; rfl) | (intro _ _; rfl) | with_unfolding_all rfl | (intro _; with_unfolding_all rfl) | (simp; done)
  · intro _ _ _
    exact .range
  · exact ⟨1, [], rfl, rfl, by omega, fun k r h => by simp at h⟩
  · rintro i p T hp ⟨n, rs, rfl, hrl, hn, hrs⟩
    obtain ⟨rfl, hi⟩ := range_get hp
    apply Exists.intro
    apply Exists.intro
    apply And.intro
    · exact SA_name (.inl rfl)
    refine G_assignT (Q := fun l T => ∃ (b i' a : List Cd) (n' : Nat), l = [partPV b, partPV i', partPV a] ∧ T = [penMO C n' seed, rowsMO rs] ∧ n' ≤ n + 9 ∧ b.length ≤ 2 ∧ i'.length ≤ 2 ∧ a.length ≤ 2 ∧ i' ≠ []) ?_ ?_ rfl
    · apply SE_Comp_ex (src := .tup [.int 0, .int 1, .int 0])
      · apply SI_tup
        apply SE_Tuple
        · exact SEs_cons SE_int (SEs_cons SE_int (SEs_cons SE_int SEs_nil))
        all_goals first | rfl | decide | (rintro ⟨q, h⟩; cases h; done) | (intro _; rfl) | (intro _ _; rfl) | with_unfolding_all rfl | (intro _; with_unfolding_all rfl) | (simp; done)
      · refine loop_inv (l := [.int 0, .int 1, .int 0]) (fun j outs T => ∃ (n' : Nat) (css : List (List Cd)), T = [penMO C n' seed, rowsMO rs] ∧ outs = css.map partPV ∧ css.length = j ∧ n' ≤ n + 3 * j ∧ ∀ (k : Nat) (cs : List Cd), css[k]? = some cs → cs.length ≤ 2 ∧ (k = 1 → cs ≠ [])) (fun _ _ _ _ => .tup) ?_ ?_ ?_
        · exact ⟨n, [], rfl, rfl, rfl, by omega, fun k cs h => by simp at h⟩
        · rintro j p outs T hp ⟨n', css, rfl, rfl, hcl, hn', hcss⟩
          have hj : j < 3 := by simpa using (List.getElem?_eq_some_iff.mp hp).1
          obtain ⟨sz, rfl, hs1, hs2⟩ : ∃ sz : Nat, p = .int (sz : Int) ∧ sz ≤ 1 ∧ (j = 1 → sz = 1) := by
            match j, hj with
            | 0, _ => simp at hp; exact ⟨0, hp.symm, by omega, by omega⟩
            | 1, _ => simp at hp; exact ⟨1, hp.symm, by omega, by omega⟩
            | 2, _ => simp at hp; exact ⟨0, hp.symm, by omega, by omega⟩
          have hpn : ([penMO C n' seed, rowsMO rs] : St)[0]? = some (penMO C n' seed) := rfl
          obtain ⟨pv, T', hcall, cs, n'', rfl, rfl, hc1, hc2, hn''⟩ := c_law_sets (D := D + 3) hK B hpn (by omega) hs1
          apply Exists.intro
          apply Exists.intro
          apply Exists.intro
          apply And.intro
          · exact SA_name (.inl rfl)
          apply And.intro
          · apply call_tuple B
            · rfl
            · apply SE_Comp (outs := cs.map Cd.pv)
              · apply SI_tup
                apply call_law_sets hK B
                · rfl
                · apply SEs_cons
                  · (first | exact SE_local rfl rfl | exact SE_cell rfl rfl | exact SE_free rfl rfl)
                  · apply SEs_cons
                    · (first | exact SE_local rfl rfl | exact SE_cell rfl rfl | exact SE_free rfl rfl)
                    · exact SEs_nil
                    · rfl
                  · rfl
                · exact hcall
                · rfl
              · apply CL1.loop
                · have e : cs.map Cd.pv = (cs.map fun c => PV.str c.txt).map (fun p => match p with | .str x => PV.tup (chars x) | _ => PV.none) := by
                    rw [List.map_map]
                    apply List.map_congr_left
                    intro c _
                    cases c <;> rfl
                  rw [e]
                  apply CL1_map _ .tup
                  intro p hp
                  obtain ⟨c, _, rfl⟩ := List.mem_map.mp hp
                  apply Exists.intro
                  apply And.intro
                  · exact SA_name (.inl rfl)
                  apply And.intro
                  · apply call_tuple B
                    · rfl
                    · (first | exact SE_local rfl rfl | exact SE_cell rfl rfl | exact SE_free rfl rfl)
                    · exact SCall_tupleS (by cases c <;> decide)
                    · rfl
                  · exact vle_set rfl
                · simp; omega
                all_goals first | rfl | decide | (rintro ⟨q, h⟩; cases h; done) | (intro _; rfl) | (intro _ _; rfl) | with_unfolding_all rfl | (intro _; with_unfolding_all rfl) | (simp; done)
              · exact compOK rfl
              · simp; omega
              all_goals first | rfl | decide | (rintro ⟨q, h⟩; cases h; done) | (intro _; rfl) | (intro _ _; rfl) | with_unfolding_all rfl | (intro _; with_unfolding_all rfl) | (simp; done)
            · exact SCall_tupleL .lst
            · rfl
          apply And.intro
          · exact vle_set rfl
          · refine ⟨n'', css ++ [cs], rfl, by simp [partPV], by simp [hcl], by omega, ?_⟩
            intro k x hx
            by_cases hk : k < css.length
            · rw [List.getElem?_append_left hk] at hx
              exact hcss k x hx
            · rw [List.getElem?_append_right (by omega)] at hx
              have hk0 : k - css.length = 0 := by
                have := (List.getElem?_eq_some_iff.mp hx).1
                simp at this; omega
              rw [hk0] at hx
              simp at hx
              subst hx
              refine ⟨by omega, fun h1 => ?_⟩
              have := hs2 (by omega)
              intro e
              subst e
              simp at hc1; omega
        · rintro outs T ⟨n', css, rfl, rfl, hcl, hn', hcss⟩
          match css, hcl with
          | [b, i', a], _ =>
            refine ⟨by simp, b, i', a, n', rfl, rfl, by simpa using hn', (hcss 0 b rfl).1, (hcss 1 i' rfl).1, (hcss 2 a rfl).1, (hcss 1 i' rfl).2 rfl⟩
      · exact compOK rfl
      all_goals first | rfl | decide | (rintro ⟨q, h⟩; cases h; done) | (intro _; rfl) | (intro _ _; rfl) | with_unfolding_all rfl | (intro _; with_unfolding_all rfl) | (simp; done)
    · rintro l T ⟨b, i', a', n', rfl, rfl, hn', h1, h2, h3, h4⟩
      refine ⟨_, .cons rfl (SA_name (.inl rfl)) (.cons rfl (SA_name (.inl rfl)) (.cons rfl (SA_name (.inl rfl)) .nil)), ?_⟩
      have hi5 : i < 5 := by omega
      apply G_end
      · apply SX_Expr
        · apply SE_append (p := RowA.pv ⟨b, i', a', i⟩)
          · (first | exact SE_local rfl rfl | exact SE_cell rfl rfl | exact SE_free rfl rfl)
          · rfl
          · apply call_RuleRow hK B
            · rfl
            · apply SEs_cons SE_str
              · apply SEs_cons
                · apply SE_Tuple
                  · apply SEs_cons SE_str
                    · apply SEs_cons
                      · (first | exact SE_local rfl rfl | exact SE_cell rfl rfl | exact SE_free rfl rfl)
                      · apply SEs_cons
                        · (first | exact SE_local rfl rfl | exact SE_cell rfl rfl | exact SE_free rfl rfl)
                        · apply SEs_cons
                          · (first | exact SE_local rfl rfl | exact SE_cell rfl rfl | exact SE_free rfl rfl)
                          · apply SEs_cons
                            · apply SE_Tuple
                              · apply SEs_cons
                                · apply SE_Tuple
                                  · apply SEs_cons SE_int
                                    · apply SEs_cons
                                      · apply SE_BinOp
                                        · exact SE_str
                                        · apply call_str B
                                          · rfl
                                          · (first | exact SE_local rfl rfl | exact SE_cell rfl rfl | exact SE_free rfl rfl)
                                          · exact SCall_str (by omega)
                                          · rfl
                                        · exact SB_str (str_small hi5)
                                      · exact SEs_nil
                                      · rfl
                                  all_goals first | rfl | decide | (rintro ⟨q, h⟩; cases h; done) | (intro _; rfl) | (intro _ _; rfl) | with_unfolding_all rfl | (intro _; with_unfolding_all rfl) | (simp; done)
                                · exact SEs_nil
                                · rfl
                              all_goals first | rfl | decide | (rintro ⟨q, h⟩; cases h; done) | (intro _; rfl) | (intro _ _; rfl) | with_unfolding_all rfl | (intro _; with_unfolding_all rfl) | (simp; done)
                            · exact SEs_nil
                            · rfl
                          · rfl
                        · rfl
                      · rfl
                  all_goals first | rfl | decide | (rintro ⟨q, h⟩; cases h; done) | (intro _; rfl) | (intro _ _; rfl) | with_unfolding_all rfl | (intro _; with_unfolding_all rfl) | (simp; done)
                · exact SEs_nil
                · rfl
            · exact new_RuleRow hK B
            · rfl
          · rfl
          · simp; omega
          all_goals first | rfl | decide | (rintro ⟨q, h⟩; cases h; done) | (intro _; rfl) | (intro _ _; rfl) | with_unfolding_all rfl | (intro _; with_unfolding_all rfl) | (simp; done)
        all_goals first | rfl | decide | (rintro ⟨q, h⟩; cases h; done) | (intro _; rfl) | (intro _ _; rfl) | with_unfolding_all rfl | (intro _; with_unfolding_all rfl) | (simp; done)
      · refine ⟨.inl rfl, ?_, n', rs ++ [⟨b, i', a', i⟩], by simp [rowsMO], by simp [hrl], by omega, ?_⟩
        · exact (((vle_set rfl).trans (vle_set rfl)).trans (vle_set rfl)).trans (vle_set rfl)
        · intro k r hk
          by_cases hkl : k < rs.length
          · rw [List.getElem?_append_left hkl] at hk
            exact hrs k r hk
          · rw [List.getElem?_append_right (by omega)] at hk
            have hk0 : k - rs.length = 0 := by
              have := (List.getElem?_eq_some_iff.mp hk).1
              simp at this; omega
            rw [hk0] at hk
            simp at hk
            subst hk
            exact ⟨by show i = k; omega, h1, h2, h3, h4⟩
  rintro T ⟨n, rs, rfl, hrl, hn, hrs⟩
  simp at hrl
  have hr5 : rs.length ≤ 5 := by omega
  have hr1 : 1 ≤ rs.length := by omega
  have hok := hrs.ok hr5
  -- the tables
  have hrowsT : ([penMO C n seed, rowsMO rs] : St)[1]? = some (.lst (rs.map RowA.pv)) := rfl
  obtain ⟨pvt, T1, hcall, hpre, rfl, qs, hQ⟩ := c_chain_tables (D := D) hK B hrowsT hok (by omega)
  have hrows1 : T1[1]? = some (.lst (rs.map RowA.pv)) := hpre.get hrowsT
  have hpen1 : T1[0]? = some (penMO C n seed) := hpre.get rfl
  apply G_det
  · apply SX_Assign
    · apply call_chain_tables hK B
      · rfl
      · apply SEs_cons
        · (first | exact SE_local rfl rfl | exact SE_cell rfl rfl | exact SE_free rfl rfl)
        · apply SEs_cons
          · exact glob_law_names hK B rfl
          · apply SEs_cons
            · apply call_dict B
              · rfl
              · apply SE_Comp (src := .range 0 5) (outs := numsL.map fun q => .tup [.str q.1, q.2])
                · apply SI_range' B
                  · exact is_range B rfl
                  · exact SE_int
                  · rfl
                  · decide
                  · decide
                  all_goals first | rfl | decide | (rintro ⟨q, h⟩; cases h; done) | (intro _; rfl) | (intro _ _; rfl) | with_unfolding_all rfl | (intro _; with_unfolding_all rfl) | (simp; done)
                · apply CL1.loop
                  · refine CL1_fold' (fun _ => [penMO C n seed, rowsMO rs]) (fun k => .tup [.str (nLap k), .int (10 + (k : Int))]) rfl rfl (by unfold numsL; rw [List.map_map]; rfl) (fun _ _ => .range) ?_
                    intro k p hp
                    obtain ⟨rfl, hk⟩ := range_get hp
                    apply Exists.intro
                    apply And.intro
                    · exact SA_name (.inl rfl)
                    apply And.intro
                    · apply SE_Tuple
                      · apply SEs_cons
                        · apply SE_BinOp
                          · exact SE_str
                          · apply call_str B
                            · rfl
                            · (first | exact SE_local rfl rfl | exact SE_cell rfl rfl | exact SE_free rfl rfl)
                            · exact SCall_str (by omega)
                            · rfl
                          · exact SB_str (str_small hk)
                        · apply SEs_cons
                          · apply SE_BinOp
                            · exact SE_int
                            · (first | exact SE_local rfl rfl | exact SE_cell rfl rfl | exact SE_free rfl rfl)
                            · exact SB_add
                          · exact SEs_nil
                          · rfl
                        · rfl
                      all_goals first | rfl | decide | (rintro ⟨q, h⟩; cases h; done) | (intro _; rfl) | (intro _ _; rfl) | with_unfolding_all rfl | (intro _; with_unfolding_all rfl) | (simp; done)
                    · exact vle_set rfl
                  · simp [numsL]
                  all_goals first | rfl | decide | (rintro ⟨q, h⟩; cases h; done) | (intro _; rfl) | (intro _ _; rfl) | with_unfolding_all rfl | (intro _; with_unfolding_all rfl) | (simp; done)
                · exact compOK rfl
                · simp [numsL]
                all_goals first | rfl | decide | (rintro ⟨q, h⟩; cases h; done) | (intro _; rfl) | (intro _ _; rfl) | with_unfolding_all rfl | (intro _; with_unfolding_all rfl) | (simp; done)
              · exact SCall_dictP B (by decide) (by simp [numsL])
              · rfl
            · exact SEs_nil
            · rfl
          · rfl
        · rfl
      · exact hcall
      · rfl
    · exact .inl rfl
    all_goals first | rfl | decide | (rintro ⟨q, h⟩; cases h; done) | (intro _; rfl) | (intro _ _; rfl) | with_unfolding_all rfl | (intro _; with_unfolding_all rfl) | (simp; done)
  -- which rows are plain
  apply G_det
  · apply SX_AssignComp (outs := (List.range rs.length).map fun k => .bool (plainAt rs k))
    · apply SI_lst
      · (first | exact SE_local rfl rfl | exact SE_cell rfl rfl | exact SE_free rfl rfl)
      · exact .mref hrows1
    · apply CL1.loop
      · refine CL1_fold' (fun _ => T1) (fun k => .bool (plainAt rs k)) rfl rfl (by rw [List.length_map]) (fun _ _ => .lst (.mref hrows1)) ?_
        intro k p hp
        rw [List.getElem?_map] at hp
        obtain ⟨r, hrk, rfl⟩ := Option.map_eq_some_iff.mp hp
        have hrok := hok r (List.mem_of_getElem? hrk)
        have hpl : plainAt rs k = ((if r.plain then (1 : Int) else 2) == 1) := by
          unfold plainAt; rw [hrk]; show r.plain = _; cases r.plain <;> rfl
        apply Exists.intro
        apply And.intro
        · exact SA_name (.inl rfl)
        apply And.intro
        · rw [hpl]
          apply SE_Compare
          · apply call_max B
            · rfl
            · apply SE_Comp (outs := (lensOf r).map .int)
              · apply SI_tup
                apply SE_slice14
                apply SE_Attr B
                · (first | exact SE_local rfl rfl | exact SE_cell rfl rfl | exact SE_free rfl rfl)
                · rfl
                · exact at_300_parts hK
                all_goals first | rfl | decide | (rintro ⟨q, h⟩; cases h; done) | (intro _; rfl) | (intro _ _; rfl) | with_unfolding_all rfl | (intro _; with_unfolding_all rfl) | (simp; done)
              · apply CL2.loop
                · have e2 : (lensOf r).map PV.int = (r.parts.map partPV).flatMap (fun p => match p with | .tup l => (l.map (fun q => match q with | .tup m => PV.int (m.length : Int) | _ => .none)) | _ => []) := by
                    exact lens_flat r
                  rw [e2]
                  apply CL2_flat _ .tup
                  intro p hp
                  obtain ⟨cs, rfl⟩ : ∃ cs, p = partPV cs := by
                    simp only [List.mem_cons, List.not_mem_nil, or_false] at hp
                    rcases hp with rfl | rfl | rfl <;> exact ⟨_, rfl⟩
                  apply Exists.intro
                  apply Exists.intro
                  apply Exists.intro
                  apply Exists.intro
                  apply And.intro
                  · exact SA_name (.inl rfl)
                  apply And.intro
                  · apply SI_tup (l := cs.map Cd.pv)
                    (first | exact SE_local rfl rfl | exact SE_cell rfl rfl | exact SE_free rfl rfl)
                  apply And.intro
                  · rintro ⟨q, h⟩; cases h
                  apply And.intro
                  · apply CL1_map _ .tup
                    intro p hp
                    obtain ⟨c, hc, rfl⟩ := List.mem_map.mp hp
                    apply Exists.intro
                    apply And.intro
                    · exact SA_name (.inl rfl)
                    apply And.intro
                    · apply call_len B
                      · rfl
                      · (first | exact SE_local rfl rfl | exact SE_cell rfl rfl | exact SE_free rfl rfl)
                      · exact SCall_len .tup
                      · rfl
                    · exact vle_set rfl
                  · exact vle_set rfl
                · exact lens_len hrok
                all_goals first | rfl | decide | (rintro ⟨q, h⟩; cases h; done) | (intro _; rfl) | (intro _ _; rfl) | with_unfolding_all rfl | (intro _; with_unfolding_all rfl) | (simp; done)
              · exact compOK rfl
              · exact lens_len hrok
              all_goals first | rfl | decide | (rintro ⟨q, h⟩; cases h; done) | (intro _; rfl) | (intro _ _; rfl) | with_unfolding_all rfl | (intro _; with_unfolding_all rfl) | (simp; done)
            · exact SCall_max .lst (lens_max hrok).1 (lens_max hrok).2
            · rfl
          · exact SE_int
          · exact SC_eq
          all_goals first | rfl | decide | (rintro ⟨q, h⟩; cases h; done) | (intro _; rfl) | (intro _ _; rfl) | with_unfolding_all rfl | (intro _; with_unfolding_all rfl) | (simp; done)
        · exact vle_set rfl
      · simp; omega
      all_goals first | rfl | decide | (rintro ⟨q, h⟩; cases h; done) | (intro _; rfl) | (intro _ _; rfl) | with_unfolding_all rfl | (intro _; with_unfolding_all rfl) | (simp; done)
    · exact compOK rfl
    · simp; omega
    · exact .inr ⟨rfl, rfl⟩
    all_goals first | rfl | decide | (rintro ⟨q, h⟩; cases h; done) | (intro _; rfl) | (intro _ _; rfl) | with_unfolding_all rfl | (intro _; with_unfolding_all rfl) | (simp; done)
  -- the count
  apply G_det
  · apply SX_Assign (pv := .int (counted rs : Int))
    · apply call_len B
      · rfl
      · apply SE_Comp (src := .range 0 rs.length) (outs := ((List.range rs.length).filter (cnt rs)).map fun k : Nat => .int (k : Int))
        · apply SI_range' (n := (rs.length : Int)) B
          · exact is_range B rfl
          · apply call_len B
            · rfl
            · (first | exact SE_local rfl rfl | exact SE_cell rfl rfl | exact SE_free rfl rfl)
            · have := SCall_len (W := W) (D := D + 5) (st := T1) (l := rs.map RowA.pv) (.lst (.mref hrows1))
              rw [List.length_map] at this
              exact this
            · rfl
          · exact Int.toNat_natCast _
          · omega
          · omega
          all_goals first | rfl | decide | (rintro ⟨q, h⟩; cases h; done) | (intro _; rfl) | (intro _ _; rfl) | with_unfolding_all rfl | (intro _; with_unfolding_all rfl) | (simp; done)
        · apply CL1.loop
          · refine CL1_filterI (l := (List.range rs.length).map fun i : Nat => PV.int (0 + (i : Int))) (cnt rs) (fun k => .int (k : Int)) (by rw [List.length_map, List.length_range]) .range ?_
            intro k p hp
            obtain ⟨rfl, hk⟩ := range_get hp
            have hat : ∀ j, j < rs.length → ((List.range rs.length).map fun k => PV.bool (plainAt rs k))[j]? = some (.bool (plainAt rs j)) := by
              intro j hj
              rw [List.getElem?_map, List.getElem?_range hj]; rfl
            apply Exists.intro
            apply And.intro
            · exact SA_name (.inl rfl)
            apply And.intro
            · unfold cnt
              apply ST_Not
              apply ST_BoolOp
              cases h1 : plainAt rs k with
              | false =>
                apply Tests.andF
                apply ST_val
                · rw [← h1]
                  apply SE_subL
                  · (first | exact SE_local rfl rfl | exact SE_cell rfl rfl | exact SE_free rfl rfl)
                  · (first | exact SE_local rfl rfl | exact SE_cell rfl rfl | exact SE_free rfl rfl)
                  · exact .lst
                  · omega
                  · rw [Int.toNat_natCast]; exact hat k hk
                all_goals first | rfl | decide | (rintro ⟨q, h⟩; cases h; done) | (intro _; rfl) | (intro _ _; rfl) | with_unfolding_all rfl | (intro _; with_unfolding_all rfl) | (simp; done)
              | true =>
                apply Tests.andT
                · apply ST_val
                  · rw [← h1]
                    apply SE_subL
                    · (first | exact SE_local rfl rfl | exact SE_cell rfl rfl | exact SE_free rfl rfl)
                    · (first | exact SE_local rfl rfl | exact SE_cell rfl rfl | exact SE_free rfl rfl)
                    · exact .lst
                    · omega
                    · rw [Int.toNat_natCast]; exact hat k hk
                  all_goals first | rfl | decide | (rintro ⟨q, h⟩; cases h; done) | (intro _; rfl) | (intro _ _; rfl) | with_unfolding_all rfl | (intro _; with_unfolding_all rfl) | (simp; done)
                by_cases h2 : 0 < k
                · apply Tests.andT
                  · have e : true = decide ((0 : Int) < (k : Int)) := by simp [h2]
                    rw [e]
                    apply ST_Compare
                    · (first | exact SE_local rfl rfl | exact SE_cell rfl rfl | exact SE_free rfl rfl)
                    · exact SE_int
                    · exact SC_gt
                    all_goals first | rfl | decide | (rintro ⟨q, h⟩; cases h; done) | (intro _; rfl) | (intro _ _; rfl) | with_unfolding_all rfl | (intro _; with_unfolding_all rfl) | (simp; done)
                  cases h3 : plainAt rs (k - 1) with
                  | true =>
                    simp only [h2, decide_true, Bool.and_self]
                    apply Tests.andT
                    · apply ST_val
                      · rw [← h3]
                        apply SE_subL
                        · (first | exact SE_local rfl rfl | exact SE_cell rfl rfl | exact SE_free rfl rfl)
                        · apply SE_BinOp
                          · (first | exact SE_local rfl rfl | exact SE_cell rfl rfl | exact SE_free rfl rfl)
                          · exact SE_int
                          · exact SB_sub
                        · exact .lst
                        · omega
                        · rw [show ((k : Int) - 1).toNat = k - 1 by omega]; exact hat (k - 1) (by omega)
                      all_goals first | rfl | decide | (rintro ⟨q, h⟩; cases h; done) | (intro _; rfl) | (intro _ _; rfl) | with_unfolding_all rfl | (intro _; with_unfolding_all rfl) | (simp; done)
                    · exact .andNil
                  | false =>
                    simp only [Bool.and_false]
                    apply Tests.andF
                    apply ST_val
                    · rw [← h3]
                      apply SE_subL
                      · (first | exact SE_local rfl rfl | exact SE_cell rfl rfl | exact SE_free rfl rfl)
                      · apply SE_BinOp
                        · (first | exact SE_local rfl rfl | exact SE_cell rfl rfl | exact SE_free rfl rfl)
                        · exact SE_int
                        · exact SB_sub
                      · exact .lst
                      · omega
                      · rw [show ((k : Int) - 1).toNat = k - 1 by omega]; exact hat (k - 1) (by omega)
                    all_goals first | rfl | decide | (rintro ⟨q, h⟩; cases h; done) | (intro _; rfl) | (intro _ _; rfl) | with_unfolding_all rfl | (intro _; with_unfolding_all rfl) | (simp; done)
                · simp only [h2, decide_false, Bool.false_and, Bool.and_false]
                  apply Tests.andF
                  have e : false = decide ((0 : Int) < (k : Int)) := by simp; omega
                  rw [e]
                  apply ST_Compare
                  · (first | exact SE_local rfl rfl | exact SE_cell rfl rfl | exact SE_free rfl rfl)
                  · exact SE_int
                  · exact SC_gt
                  all_goals first | rfl | decide | (rintro ⟨q, h⟩; cases h; done) | (intro _; rfl) | (intro _ _; rfl) | with_unfolding_all rfl | (intro _; with_unfolding_all rfl) | (simp; done)
            apply And.intro
            · intro _
              (first | exact SE_local rfl rfl | exact SE_cell rfl rfl | exact SE_free rfl rfl)
            · exact vle_set rfl
          · have := List.length_filter_le (cnt rs) (List.range rs.length)
            simp at this ⊢; omega
          all_goals first | rfl | decide | (rintro ⟨q, h⟩; cases h; done) | (intro _; rfl) | (intro _ _; rfl) | with_unfolding_all rfl | (intro _; with_unfolding_all rfl) | (simp; done)
        · exact compOK rfl
        · have := List.length_filter_le (cnt rs) (List.range rs.length)
          simp at this ⊢; omega
        all_goals first | rfl | decide | (rintro ⟨q, h⟩; cases h; done) | (intro _; rfl) | (intro _ _; rfl) | with_unfolding_all rfl | (intro _; with_unfolding_all rfl) | (simp; done)
      · have := SCall_len (W := W) (D := D + 5) (st := T1) (l := ((List.range rs.length).filter (cnt rs)).map fun k : Nat => PV.int (k : Int)) (.lst .lst)
        rw [List.length_map] at this
        exact this
      · rfl
    · exact .inl rfl
    all_goals first | rfl | decide | (rintro ⟨q, h⟩; cases h; done) | (intro _; rfl) | (intro _ _; rfl) | with_unfolding_all rfl | (intro _; with_unfolding_all rfl) | (simp; done)
  have hqlen : qs.length = counted rs := by
    rw [← tabs_len, hQ.run, List.length_map]
  apply G_if (st₁ := T1)
  · have e : false = ((counted rs : Int) != (counted rs : Int)) := by simp
    rw [e]
    apply ST_Compare
    · apply call_len B
      · rfl
      · (first | exact SE_local rfl rfl | exact SE_cell rfl rfl | exact SE_free rfl rfl)
      · have := SCall_len (W := W) (D := D + 5) (st := T1) (l := qs.map (·.1)) (.lst (.mref hQ.found))
        rw [List.length_map, hqlen] at this
        exact this
      · rfl
    · (first | exact SE_local rfl rfl | exact SE_cell rfl rfl | exact SE_free rfl rfl)
    · exact SC_ne
    all_goals first | rfl | decide | (rintro ⟨q, h⟩; cases h; done) | (intro _; rfl) | (intro _ _; rfl) | with_unfolding_all rfl | (intro _; with_unfolding_all rfl) | (simp; done)
  · rfl
  -- the row that is asked
  have hT1l : 0 < T1.length := (List.getElem?_eq_some_iff.mp hpen1).1
  obtain ⟨d7, hd7, d70, d77⟩ := c_draw (D := D + 4) hK B hpen1 (by simp at hn; omega) (m := 7) (by decide)
  have hn2 : n ≤ 46 := by simp at hn; omega
  refine G_assignComp (src := .range 0 d7.toNat) (st₁ := T1.set 0 (penMO C (n + 1 : Nat) seed)) (Q := fun outs T => ∃ (gl : List Int) (m : Nat), outs = gl.map .int ∧ T = T1.set 0 (penMO C m seed) ∧ gl.length ≤ 6) ?_ ?_ ?_ ?_ ?_
  · apply SI_range' B
    · exact is_range B rfl
    · apply call_law_draw hK B
      · rfl
      · apply SEs_cons
        · (first | exact SE_local rfl rfl | exact SE_cell rfl rfl | exact SE_free rfl rfl)
        · exact SEs_cons SE_int SEs_nil
        · rfl
      · exact hd7
      · rfl
    · rfl
    · omega
    · omega
    all_goals first | rfl | decide | (rintro ⟨q, h⟩; cases h; done) | (intro _; rfl) | (intro _ _; rfl) | with_unfolding_all rfl | (intro _; with_unfolding_all rfl) | (simp; done)
  · refine loop_inv (l := (List.range d7.toNat).map fun i : Nat => PV.int (0 + (i : Int))) (fun i outs T => T = T1.set 0 (penMO C (n + 1 + i : Nat) seed) ∧ ∃ gl : List Int, outs = gl.map .int ∧ gl.length = i) (fun _ _ _ _ => .range) ?_ ?_ ?_
    · exact ⟨rfl, [], rfl, rfl⟩
    · rintro i p outs T hp ⟨rfl, gl, rfl, hgl⟩
      obtain ⟨rfl, hi⟩ := range_get hp
      have hj2 : (T1.set 0 (penMO C (n + 1 + i : Nat) seed))[0]? = some (penMO C (n + 1 + i : Nat) seed) := List.getElem?_set_self hT1l
      obtain ⟨e, he, e0, e4⟩ := c_draw (D := D + 4) hK B hj2 (by omega) (m := 4) (by decide)
      apply Exists.intro
      apply Exists.intro
      apply Exists.intro
      apply And.intro
      · exact SA_name (.inl rfl)
      apply And.intro
      · apply SE_BinOp
        · exact SE_int
        · apply call_law_draw hK B
          · rfl
          · apply SEs_cons
            · (first | exact SE_local rfl rfl | exact SE_cell rfl rfl | exact SE_free rfl rfl)
            · exact SEs_cons SE_int SEs_nil
            · rfl
          · exact he
          · rfl
        · exact SB_add
      apply And.intro
      · exact vle_set rfl
      · refine ⟨?_, gl ++ [1 + e], by simp, by simp [hgl]⟩
        rw [List.set_set]; rfl
    · rintro outs T ⟨rfl, gl, rfl, hgl⟩
      simp at hgl
      exact ⟨by simp; omega, gl, _, rfl, rfl, by omega⟩
  · exact compOK rfl
  · exact .inr ⟨rfl, rfl⟩
  rintro outs T2 ⟨gl, m, rfl, rfl, hg6⟩
  have hQ : TInv 2 T1 rs qs := hQ
  have hget : ∀ (T : St) (j : Nat) (x : MO), Pre (T1.set 0 (penMO C m seed)) T → 0 < j → T1[j]? = some x → T[j]? = some x := fun T j x hp hj e =>
    hp.get (by rw [List.getElem?_set_ne (by omega)]; exact e)
  have hlenG : ∀ {T : St}, SCall W (D + 5) (.builtin "len") [.lst (gl.map .int)] T (.int (gl.length : Int)) T := fun {T} => by
    have := SCall_len (W := W) (D := D + 5) (st := T) (l := gl.map .int) (.lst .lst)
    rw [List.length_map] at this
    exact this
  refine G_for (st₁ := T1.set 0 (penMO C m seed)) (l := (List.range gl.length).map fun i : Nat => PV.int (0 + (i : Int))) (src := .range 0 gl.length) (fun _ T => Pre (T1.set 0 (penMO C m seed)) T) ?_ ?_ ?_ ?_ ?_
  · apply SI_range' (n := (gl.length : Int)) B
    · exact is_range B rfl
    · apply call_len B
      · rfl
      · (first | exact SE_local rfl rfl | exact SE_cell rfl rfl | exact SE_free rfl rfl)
      · exact hlenG
      · rfl
    · exact Int.toNat_natCast _
    · omega
    · omega
    all_goals first | rfl | decide | (rintro ⟨q, h⟩; cases h; done) | (intro _; rfl) | (intro _ _; rfl) | with_unfolding_all rfl | (intro _; with_unfolding_all rfl) | (simp; done)
  · intro _ _ _; exact .range
  · exact Pre.refl _
  · intro k p T hp hT
    obtain ⟨rfl, hk⟩ := range_get hp
    have hrowsT : T[1]? = some (.lst (rs.map RowA.pv)) := hget T 1 _ hT (by omega) hrows1
    have htabsT : T[2]? = some (.lst (qs.map (·.1))) := hget T 2 _ hT (by omega) hQ.found
    apply Exists.intro
    apply Exists.intro
    apply And.intro
    · exact SA_name (.inr ⟨rfl, rfl⟩)
    generalize hdue : (dueI rs gl k).map (fun j : Nat => (10 : Int) + (j : Int)) = dueL
    have hdlen : dueL.length ≤ 5 := by
      rw [← hdue, List.length_map]
      exact Nat.le_trans due_len hr5
    -- due
    apply G_det
    · apply SX_AssignComp (outs := dueL.map .int)
      · apply SI_enum B
        · exact is_enumerate B rfl
        · (first | exact SE_local rfl rfl | exact SE_cell rfl rfl | exact SE_free rfl rfl)
        · exact .mref hrowsT
        all_goals first | rfl | decide | (rintro ⟨q, h⟩; cases h; done) | (intro _; rfl) | (intro _ _; rfl) | with_unfolding_all rfl | (intro _; with_unfolding_all rfl) | (simp; done)
      · apply CL1.loop
        · refine CL1_filterI (l := (rs.map RowA.pv).zipIdx.map fun q => PV.tup [.int (q.2 : Int), q.1]) (fun j => (rs[j]?.map fun r => fitsB r gl k).getD false) (fun j => .int (10 + (j : Int))) (by rw [← hdue, List.map_map, List.length_map, List.length_zipIdx, List.length_map]; rfl) (.enum (.mref hrowsT)) ?_
          intro j p hp
          obtain ⟨r, hrj, rfl⟩ := enum_getA hp
          have hrok := hok r (List.mem_of_getElem? hrj)
          rw [hrj]
          apply Exists.intro
          apply And.intro
          · exact SA_tuple .tup (.cons rfl (SA_name (.inl rfl)) (.cons rfl (SA_name (.inl rfl)) .nil))
          apply And.intro
          · apply ST_val
            · apply call_law_fits hK B
              · rfl
              · apply SEs_cons
                · (first | exact SE_local rfl rfl | exact SE_cell rfl rfl | exact SE_free rfl rfl)
                · apply SEs_cons
                  · (first | exact SE_local rfl rfl | exact SE_cell rfl rfl | exact SE_free rfl rfl)
                  · apply SEs_cons
                    · (first | exact SE_local rfl rfl | exact SE_cell rfl rfl | exact SE_free rfl rfl)
                    · exact SEs_nil
                    · rfl
                  · rfl
                · rfl
              · exact c_law_fits hK B hrok hk (by omega)
              · rfl
            all_goals first | rfl | decide | (rintro ⟨q, h⟩; cases h; done) | (intro _; rfl) | (intro _ _; rfl) | with_unfolding_all rfl | (intro _; with_unfolding_all rfl) | (simp; done)
          apply And.intro
          · intro _
            apply SE_BinOp
            · exact SE_int
            · (first | exact SE_local rfl rfl | exact SE_cell rfl rfl | exact SE_free rfl rfl)
            · exact SB_add
          · exact (vle_set rfl).trans (vle_set rfl)
        · simp; omega
        all_goals first | rfl | decide | (rintro ⟨q, h⟩; cases h; done) | (intro _; rfl) | (intro _ _; rfl) | with_unfolding_all rfl | (intro _; with_unfolding_all rfl) | (simp; done)
      · exact compOK rfl
      · simp; omega
      · exact .inl rfl
      all_goals first | rfl | decide | (rintro ⟨q, h⟩; cases h; done) | (intro _; rfl) | (intro _ _; rfl) | with_unfolding_all rfl | (intro _; with_unfolding_all rfl) | (simp; done)
    -- told
    refine G_assignComp (src := .lst (.mref 2)) (st₁ := T) (Q := fun outs T' => Pre T T' ∧ outs = dueL.map .int) ?_ ?_ ?_ ?_ ?_
    · apply SI_lst
      · (first | exact SE_local rfl rfl | exact SE_cell rfl rfl | exact SE_free rfl rfl)
      · exact .mref htabsT
    · refine loop2_inv (l := qs.map (·.1)) (fun i outs T' => Pre T T' ∧ outs = (((qs.take i).map (·.2)).flatMap (toldT gl k)).map fun r : RowA => PV.int (10 + (r.lap : Int))) ?_ ?_ ?_ ?_
      · rintro i outs T' ⟨hT', _⟩
        exact .lst (.mref (hT'.get htabsT))
      · exact ⟨Pre.refl _, by simp⟩
      · rintro i p outs T' hp ⟨hT', rfl⟩
        rw [List.getElem?_map] at hp
        obtain ⟨q, hqi, rfl⟩ := Option.map_eq_some_iff.mp hp
        have hqm := List.mem_of_getElem? hqi
        have hTab : TabOK 2 T'.length T' q.1 q.2 := (hQ.tabs q hqm).mono (by have := hT.len; have := hT'.len; simp at *; omega) (fun j x h1 h2 e => hT'.get (hget T j x hT (by omega) e))
        have hsub : ∀ r ∈ rowsIn q.2, r ∈ rs := by
          intro r hr
          rw [← tabs_rows rs, hQ.run]
          exact List.mem_flatMap.mpr ⟨q.2, List.mem_map.mpr ⟨q, hqm, rfl⟩, hr⟩
        have htk : qs.take (i + 1) = qs.take i ++ [q] := by rw [List.take_add_one, hqi]; rfl
        have hgk : gl[k]?.getD 0 = gl[k] := by rw [List.getElem?_eq_getElem hk]; rfl
        rw [htk]
        obtain ⟨pv, t⟩ := q
        cases t with
        | G rows =>
          obtain ⟨d, dd, hpv, _, _, hd, hg⟩ := hTab
          simp only at hpv
          subst hpv
          have hx5 : (filt rows gl[k]).length < 500 := by
            have h1 := flat_len (f := rowsIn) (List.mem_map.mpr ⟨_, hqm, rfl⟩ : (Tab.G rows) ∈ qs.map (·.2))
            rw [← hQ.run, tabs_rows] at h1
            have h2 := List.length_filter_le (fun r => rowKey r == gl[k]) rows
            have h3 : (rowsIn (.G rows)).length = rows.length := rfl
            unfold filt
            omega
          have hxok : ∀ r ∈ filt rows gl[k], r.Ok := fun r hr => hok r (hsub r (List.mem_filter.mp hr).1)
          have hAs : AsL T' ((dd.lookup gl[k]).getD (.lst [])) (((filt rows gl[k]).map ruleG).map RuleA.pv) := by
            rw [List.map_map]
            rcases hg gl[k] with ⟨h1, h2⟩ | ⟨li, h1, _, _, h4⟩
            · rw [h1, h2]; exact .lst
            · rw [h1]; exact .mref h4
          have hcallR := c_rules_at_g (D := D + 2) hK B hd hAs (fun r hr => by
            obtain ⟨r', h1, rfl⟩ := List.mem_map.mp hr
            exact ruleG_ok (hxok r' h1)) (by rw [List.length_map]; omega)
          rw [List.map_map] at hcallR
          apply Exists.intro
          apply Exists.intro
          apply Exists.intro
          apply Exists.intro
          refine ⟨((filt rows gl[k]).filter fun r => hitB false r.b.reverse r.i r.a gl k).map fun r : RowA => PV.int (10 + (r.lap : Int)), ?_⟩
          apply Exists.intro
          apply Exists.intro
          apply And.intro
          · exact SA_name (.inl rfl)
          apply And.intro
          · apply SI_lst
            · apply call_rules_at hK B
              · rfl
              · apply SEs_cons
                · (first | exact SE_local rfl rfl | exact SE_cell rfl rfl | exact SE_free rfl rfl)
                · apply SEs_cons
                  · apply SE_subL (l := gl.map .int)
                    · (first | exact SE_local rfl rfl | exact SE_cell rfl rfl | exact SE_free rfl rfl)
                    · (first | exact SE_local rfl rfl | exact SE_cell rfl rfl | exact SE_free rfl rfl)
                    · exact .lst
                    · omega
                    · rw [Int.toNat_natCast, List.getElem?_map, List.getElem?_eq_getElem hk]; rfl
                  · exact SEs_nil
                  · rfl
                · rfl
              · exact hcallR
              · rfl
            · exact .lst
          apply And.intro
          · rintro ⟨q, h⟩; cases h
          apply And.intro
          · refine CL1_filterI (fun j => ((filt rows gl[k])[j]?.map fun r => hitB false r.b.reverse r.i r.a gl k).getD false) (fun j => ((filt rows gl[k])[j]?.map fun r : RowA => PV.int (10 + (r.lap : Int))).getD .none) (by rw [List.length_map]; exact filt_idx _ _ _ _) (.lst .lst) ?_
            intro j p hp
            rw [List.getElem?_map] at hp
            obtain ⟨r, hrj, rfl⟩ := Option.map_eq_some_iff.mp hp
            have hrok := hxok r (List.mem_of_getElem? hrj)
            rw [hrj]
            rw [show (RuleA.tests (Str.ofString "glyph") ∘ ruleG) r = tstsPV false r.b.reverse r.i r.a r.acts from tests_G r]
            apply Exists.intro
            apply And.intro
            · exact SA_name (.inl rfl)
            apply And.intro
            · apply ST_val
              · apply call_law_hit hK B
                · rfl
                · apply SEs_cons
                  · (first | exact SE_local rfl rfl | exact SE_cell rfl rfl | exact SE_free rfl rfl)
                  · apply SEs_cons
                    · (first | exact SE_local rfl rfl | exact SE_cell rfl rfl | exact SE_free rfl rfl)
                    · apply SEs_cons
                      · (first | exact SE_local rfl rfl | exact SE_cell rfl rfl | exact SE_free rfl rfl)
                      · exact SEs_nil
                      · rfl
                    · rfl
                  · rfl
                · exact c_law_hit hK B (by have := hrok.b; simp; omega) (by have := hrok.i; omega) (by have := hrok.a; omega) hk (by omega)
                · rfl
              all_goals first | rfl | decide | (rintro ⟨q, h⟩; cases h; done) | (intro _; rfl) | (intro _ _; rfl) | with_unfolding_all rfl | (intro _; with_unfolding_all rfl) | (simp; done)
            apply And.intro
            · intro _
              apply SE_subT
              · apply SE_subT
                · apply SE_subT
                  · (first | exact SE_local rfl rfl | exact SE_cell rfl rfl | exact SE_free rfl rfl)
                  · exact SE_int
                  · decide
                  · rfl
                · exact SE_int
                · decide
                · rfl
              · exact SE_int
              · decide
              · rfl
            · exact vle_set rfl
          apply And.intro
          · exact vle_set rfl
          · refine ⟨hT', ?_⟩
            rw [List.map_append, List.flatMap_append, List.map_append]
            congr 1
            show _ = List.map _ (toldT gl k (.G rows) ++ [])
            rw [List.append_nil]
            unfold toldT
            rw [hgk]
        | C r =>
          simp only [TabOK] at hTab
          subst hTab
          have hrs' : r ∈ rs := hsub r (by simp [rowsIn])
          have hrok := hok r hrs'
          obtain ⟨c, cs, hic⟩ : ∃ c cs, r.i = c :: cs := by
            cases hi : r.i with
            | nil => exact absurd hi hrok.ne
            | cons c cs => exact ⟨c, cs, rfl⟩
          have hhd : headGl r = c.gl := by unfold headGl; rw [hic]
          have hcallR := c_rules_at_c (D := D + 2) (st := T') (g := gl[k]) (r := ruleC r) (gs := c.gl) (rest := cs.map covOf) hK B (by show r.i.map covOf = _; rw [hic]; rfl) (ruleC_ok hrok) c.sorted (by cases c <;> decide)
          generalize hxs : (if c.gl.any (· == gl[k]) then [r] else []) = xs
          have hL : (if c.gl.any (· == gl[k]) then [(ruleC r).tests (Str.ofString "cover")] else []) = xs.map fun r => tstsPV true r.b.reverse r.i r.a r.acts := by
            rw [← hxs]; split
            · rw [tests_C]; rfl
            · rfl
          rw [hL] at hcallR
          have hxok : ∀ x ∈ xs, x = r := by
            intro x hx; rw [← hxs] at hx; revert hx; split <;> simp
          have hxl : xs.length ≤ 1 := by rw [← hxs]; split <;> simp
          apply Exists.intro
          apply Exists.intro
          apply Exists.intro
          apply Exists.intro
          refine ⟨(xs.filter fun r => hitB true r.b.reverse r.i r.a gl k).map fun r : RowA => PV.int (10 + (r.lap : Int)), ?_⟩
          apply Exists.intro
          apply Exists.intro
          apply And.intro
          · exact SA_name (.inl rfl)
          apply And.intro
          · apply SI_lst
            · apply call_rules_at hK B
              · rfl
              · apply SEs_cons
                · (first | exact SE_local rfl rfl | exact SE_cell rfl rfl | exact SE_free rfl rfl)
                · apply SEs_cons
                  · apply SE_subL (l := gl.map .int)
                    · (first | exact SE_local rfl rfl | exact SE_cell rfl rfl | exact SE_free rfl rfl)
                    · (first | exact SE_local rfl rfl | exact SE_cell rfl rfl | exact SE_free rfl rfl)
                    · exact .lst
                    · omega
                    · rw [Int.toNat_natCast, List.getElem?_map, List.getElem?_eq_getElem hk]; rfl
                  · exact SEs_nil
                  · rfl
                · rfl
              · exact hcallR
              · rfl
            · exact .lst
          apply And.intro
          · rintro ⟨q, h⟩; cases h
          apply And.intro
          · refine CL1_filterI (fun j => (xs[j]?.map fun r => hitB true r.b.reverse r.i r.a gl k).getD false) (fun j => (xs[j]?.map fun r : RowA => PV.int (10 + (r.lap : Int))).getD .none) (by rw [List.length_map]; exact filt_idx _ _ _ _) (.lst .lst) ?_
            intro j p hp
            rw [List.getElem?_map] at hp
            obtain ⟨x, hrj, rfl⟩ := Option.map_eq_some_iff.mp hp
            have := hxok x (List.mem_of_getElem? hrj)
            subst this
            rw [hrj]
            apply Exists.intro
            apply And.intro
            · exact SA_name (.inl rfl)
            apply And.intro
            · apply ST_val
              · apply call_law_hit hK B
                · rfl
                · apply SEs_cons
                  · (first | exact SE_local rfl rfl | exact SE_cell rfl rfl | exact SE_free rfl rfl)
                  · apply SEs_cons
                    · (first | exact SE_local rfl rfl | exact SE_cell rfl rfl | exact SE_free rfl rfl)
                    · apply SEs_cons
                      · (first | exact SE_local rfl rfl | exact SE_cell rfl rfl | exact SE_free rfl rfl)
                      · exact SEs_nil
                      · rfl
                    · rfl
                  · rfl
                · exact c_law_hit hK B (by have := hrok.b; simp; omega) (by have := hrok.i; omega) (by have := hrok.a; omega) hk (by omega)
                · rfl
              all_goals first | rfl | decide | (rintro ⟨q, h⟩; cases h; done) | (intro _; rfl) | (intro _ _; rfl) | with_unfolding_all rfl | (intro _; with_unfolding_all rfl) | (simp; done)
            apply And.intro
            · intro _
              apply SE_subT
              · apply SE_subT
                · apply SE_subT
                  · (first | exact SE_local rfl rfl | exact SE_cell rfl rfl | exact SE_free rfl rfl)
                  · exact SE_int
                  · decide
                  · rfl
                · exact SE_int
                · decide
                · rfl
              · exact SE_int
              · decide
              · rfl
            · exact vle_set rfl
          apply And.intro
          · exact vle_set rfl
          · refine ⟨hT'.app, ?_⟩
            rw [List.map_append, List.flatMap_append, List.map_append]
            congr 1
            show _ = List.map _ (toldT gl k (.C r) ++ [])
            rw [List.append_nil, ← hxs]
            show _ = List.map _ (if (headGl r).any (· == gl[k]?.getD 0) && hitB true r.b.reverse r.i r.a gl k then [r] else [])
            rw [hgk, hhd]
            cases c.gl.any (· == gl[k]) <;> simp [List.filter_cons]
      · rintro outs T' ⟨hT', rfl⟩
        have e0 : qs.take (qs.map (·.1)).length = qs := by rw [List.length_map, List.take_length]
        rw [e0, ← hQ.run, told_all (fun r hr => (hok r hr).ne)]
        have e : (rs.filter fun r => fitsB r gl k).map (fun r : RowA => PV.int (10 + (r.lap : Int))) = dueL.map .int := by
          rw [← hdue, ← due_eq (fun j r h => (hrs j r h).lap), List.map_map]; rfl
        rw [e]
        exact ⟨by rw [List.length_map]; omega, hT', rfl⟩
    · exact compOK rfl
    · exact .inl rfl
    rintro outs T' ⟨hT', rfl⟩
    apply G_end (fl := .next)
    · apply SX_IfF
      · apply ST_BoolOp
        apply Tests.orF
        · have e : false = !decide (dueL.take 1 = dueL.take 1) := by simp
          rw [e]
          apply ST_Compare (pa := .lst ((dueL.take 1).map .int)) (pb := .lst ((dueL.take 1).map .int))
          · rw [List.map_take]
            apply SE_sliceTo
            · (first | exact SE_local rfl rfl | exact SE_cell rfl rfl | exact SE_free rfl rfl)
            · exact .lst
          · rw [List.map_take]
            apply SE_sliceTo
            · (first | exact SE_local rfl rfl | exact SE_cell rfl rfl | exact SE_free rfl rfl)
            · exact .lst
          · exact SC_neInts
          all_goals first | rfl | decide | (rintro ⟨q, h⟩; cases h; done) | (intro _; rfl) | (intro _ _; rfl) | with_unfolding_all rfl | (intro _; with_unfolding_all rfl) | (simp; done)
        apply Tests.orF
        · have e : false = !decide (dueL = dueL) := by simp
          rw [e]
          apply ST_Compare
          · apply call_sorted B
            · rfl
            · (first | exact SE_local rfl rfl | exact SE_cell rfl rfl | exact SE_free rfl rfl)
            · exact SCall_sortedL .lst (by omega) (List.Perm.refl _) (by rw [← hdue]; exact due_sorted)
            · rfl
          · (first | exact SE_local rfl rfl | exact SE_cell rfl rfl | exact SE_free rfl rfl)
          · exact SC_neInts
          all_goals first | rfl | decide | (rintro ⟨q, h⟩; cases h; done) | (intro _; rfl) | (intro _ _; rfl) | with_unfolding_all rfl | (intro _; with_unfolding_all rfl) | (simp; done)
        · exact .orNil
      · exact SS_nil
    · exact ⟨.inl rfl, ((vle_set rfl).trans (vle_set rfl)).trans (vle_set rfl), hT.trans hT'⟩
  · intro T hT
    apply G_end
    · apply SX_Return
      exact SE_bool
    · rfl
end
end Mine

/-! part Fn18 -/
namespace Mine
theorem lookup_of_any {l : List (Str × Addr)} {x : Str} (h : x ∈ l.map (·.1)) : ∃ c, l.lookup x = some c := by
  cases e : l.lookup x with
  | some c => exact ⟨c, rfl⟩
  | none =>
    obtain ⟨p, hp, rfl⟩ := List.mem_map.mp h
    have := List.lookup_eq_none_iff.mp e _ hp
    simp at this
theorem nodup5 (n : Nat) : List.Nodup ([n, n + 1 + 1 + 1 + 1, n + 1 + 1 + 1, n + 1 + 1, n + 1] : List Nat) := by
  simp only [List.nodup_cons, List.mem_cons, List.not_mem_nil, or_false, not_or, not_false_iff, List.nodup_nil, and_true]
  refine ⟨⟨?_, ?_, ?_, ?_⟩, ⟨?_, ?_, ?_⟩, ⟨?_, ?_⟩, ?_⟩ <;> omega
theorem law_frame {W : Wd} {sc : Scope} {name : Str} {fa : Addr} {cd : Value} {h₁ : Heap} {tk : Nat} {m : Str → Option Value} {a : Addr} {x0 x1 x2 x3 : Str} {w0 w1 w2 w3 : Obj}
    (F : Fr W.s₀.heap W.s₀.heap.objs.size h₁ m) (hm : m (Str.ofString "script") = some (.ref a)) (hsc : sc.kind = .function)
    (N : News W.s₀.heap W.s₀.heap.objs.size h₁ [(W.s₀.heap.objs.size + 1 + 1 + 1 + 1, w3), (W.s₀.heap.objs.size + 1 + 1 + 1, w2), (W.s₀.heap.objs.size + 1 + 1, w1), (W.s₀.heap.objs.size + 1, w0)])
    (c0 : ∃ v, w0.data = .cell v) (c1 : ∃ v, w1.data = .cell v) (c2 : ∃ v, w2.data = .cell v) (c3 : ∃ v, w3.data = .cell v)
    (hcells : cellsFrom (W.s₀.heap.objs.size + 1) sc.names [] = [(x3, W.s₀.heap.objs.size + 1 + 1 + 1 + 1), (x2, W.s₀.heap.objs.size + 1 + 1 + 1), (x1, W.s₀.heap.objs.size + 1 + 1), (x0, W.s₀.heap.objs.size + 1)])
    (hnc : sc.names.all (fun y => !(kCell y.2 || kFree y.2) || ([x3, x2, x1, x0].any (· == y.1) && !(y.1 == Str.ofString "script"))) = true) :
    HOK W ⟨W.s₀.heap.get?, []⟩ [] { W.s₀ with heap := h₁, toks := tk } ∧ FrOK W ⟨W.s₀.heap.get?, []⟩ (envOfC name sc W.s₀.heap.objs.size fa cd) ⟨true, sc, [(Str.ofString "script", .raw a)]⟩ { W.s₀ with heap := h₁, toks := tk } := by
  have hin : ∀ p ∈ [(x3, W.s₀.heap.objs.size + 1 + 1 + 1 + 1), (x2, W.s₀.heap.objs.size + 1 + 1 + 1), (x1, W.s₀.heap.objs.size + 1 + 1), (x0, W.s₀.heap.objs.size + 1)], (∃ v, h₁.IsCell p.2 v) ∧ p.2 ≠ W.s₀.heap.objs.size ∧ W.s₀.heap.get? p.2 = none := by
    intro p hp
    simp only [List.mem_cons, List.not_mem_nil, or_false] at hp
    rcases hp with rfl | rfl | rfl | rfl
    · obtain ⟨q1, q2, q3⟩ := N _ (.head _)
      obtain ⟨v, hv⟩ := c3
      exact ⟨⟨v, w3, q1, hv⟩, q2, q3⟩
    · obtain ⟨q1, q2, q3⟩ := N _ (.tail _ (.head _))
      obtain ⟨v, hv⟩ := c2
      exact ⟨⟨v, w2, q1, hv⟩, q2, q3⟩
    · obtain ⟨q1, q2, q3⟩ := N _ (.tail _ (.tail _ (.head _)))
      obtain ⟨v, hv⟩ := c1
      exact ⟨⟨v, w1, q1, hv⟩, q2, q3⟩
    · obtain ⟨q1, q2, q3⟩ := N _ (.tail _ (.tail _ (.tail _ (.head _))))
      obtain ⟨v, hv⟩ := c0
      exact ⟨⟨v, w0, q1, hv⟩, q2, q3⟩
  have hfrm : frm (envOfC name sc W.s₀.heap.objs.size fa cd) = [W.s₀.heap.objs.size, W.s₀.heap.objs.size + 1 + 1 + 1 + 1, W.s₀.heap.objs.size + 1 + 1 + 1, W.s₀.heap.objs.size + 1 + 1, W.s₀.heap.objs.size + 1] := by
    show W.s₀.heap.objs.size :: (cellsFrom (W.s₀.heap.objs.size + 1) sc.names []).map (·.2) = _
    rw [hcells]; rfl
  constructor
  · exact { same := ⟨h₁, tk, rfl⟩, base := fun _ _ e => e, ghost := fun b o e => F.keep b o e, len := rfl, muts := fun i a mo e => by simp at e, nodup := List.nodup_nil, apart := fun a h => by (cases h) }
  · refine { scope := rfl, glob := rfl, bi := rfl, kind := hsc, own := rfl, ns := ⟨m, F.ns, fun x pv hk hv => ?_⟩, cells := fun x hx => ?_, apart := fun b hb => ?_, ex := fun b hb => ?_, inj := ?_ }
    · by_cases e : x = Str.ofString "script"
      · subst e
        simp at hv
        subst hv
        exact ⟨_, hm, .raw a⟩
      · simp only [List.lookup_cons, beq_false_of_ne e, List.lookup_nil] at hv
        cases hv
    · have hmem : ∃ k, (x, k) ∈ sc.names ∧ (kCell k || kFree k) = true := by
        rcases hx with h | h
        · exact ⟨_, lookup_mem h, rfl⟩
        · exact ⟨_, lookup_mem h, rfl⟩
      obtain ⟨k, hk, hkk⟩ := hmem
      have h1 := List.all_eq_true.mp hnc _ hk
      simp only [hkk, Bool.not_true, Bool.false_or, Bool.and_eq_true] at h1
      obtain ⟨h1, h2⟩ := h1
      have hx4 : x ∈ ([(x3, W.s₀.heap.objs.size + 1 + 1 + 1 + 1), (x2, W.s₀.heap.objs.size + 1 + 1 + 1), (x1, W.s₀.heap.objs.size + 1 + 1), (x0, W.s₀.heap.objs.size + 1)] : List (Str × Addr)).map (·.1) := by
        obtain ⟨y, hy, e⟩ := List.any_eq_true.mp h1
        have : y = x := by simpa using e
        subst this
        exact hy
      obtain ⟨c, hc⟩ := lookup_of_any hx4
      obtain ⟨⟨v, hv⟩, _, _⟩ := hin (x, c) (lookup_mem hc)
      refine ⟨c, v, ?_, hv, fun pv hpv => ?_⟩
      · show (cellsFrom (W.s₀.heap.objs.size + 1) sc.names []).lookup x = _
        rw [hcells]; exact hc
      · have e : (x == Str.ofString "script") = false := by simpa using h2
        simp only [List.lookup_cons, e, List.lookup_nil] at hpv
        cases hpv
    · rw [hfrm] at hb
      refine ⟨?_, by simp⟩
      rcases List.mem_cons.mp hb with rfl | hb
      · exact get_size _
      · have : ∃ p ∈ ([(x3, W.s₀.heap.objs.size + 1 + 1 + 1 + 1), (x2, W.s₀.heap.objs.size + 1 + 1 + 1), (x1, W.s₀.heap.objs.size + 1 + 1), (x0, W.s₀.heap.objs.size + 1)] : List (Str × Addr)), p.2 = b := List.mem_map.mp (by exact hb)
        obtain ⟨p, hp, rfl⟩ := this
        exact (hin p hp).2.2
    · rw [hfrm] at hb
      rcases List.mem_cons.mp hb with rfl | hb
      · obtain ⟨o, _, _, ho, _⟩ := F.ns
        exact ⟨o, ho⟩
      · have : ∃ p ∈ ([(x3, W.s₀.heap.objs.size + 1 + 1 + 1 + 1), (x2, W.s₀.heap.objs.size + 1 + 1 + 1), (x1, W.s₀.heap.objs.size + 1 + 1), (x0, W.s₀.heap.objs.size + 1)] : List (Str × Addr)), p.2 = b := List.mem_map.mp (by exact hb)
        obtain ⟨p, hp, rfl⟩ := this
        obtain ⟨⟨v, o, ho, _⟩, _⟩ := hin p hp
        exact ⟨o, ho⟩
    · rw [hfrm]
      exact nodup5 _
theorem room_caller (env : Env) : Room 5 (callerA.deeper env) := room_deeper ⟨rfl, by decide, by decide, rfl⟩ env
end Mine

/-! part Fn19 -/
namespace Mine
theorem law_good {prog : Program} {w : World} {s₁ : Shared} (B : Base ⟨prog, w, s₁, HdT.K39 w.params⟩) {sc : Scope} {body : List Stmt} {name : Str} {fa : Addr} {cd : Value} {h₁ : Heap} {tk : Nat} {m : Str → Option Value} {a : Addr} {x0 x1 x2 x3 : Str} {w0 w1 w2 w3 : Obj}
    (hfd : ∃ oc od osl fd, (HdT.K39 w.params).lookup 332 = some ⟨oc, od, .func fd, osl⟩ ∧ fd.body = .stmts body ∧ fd.scope = sc)
    (F : Fr s₁.heap s₁.heap.objs.size h₁ m) (hm : m (Str.ofString "script") = some (.ref a)) (hsc : sc.kind = .function)
    (N : News s₁.heap s₁.heap.objs.size h₁ [(s₁.heap.objs.size + 1 + 1 + 1 + 1, w3), (s₁.heap.objs.size + 1 + 1 + 1, w2), (s₁.heap.objs.size + 1 + 1, w1), (s₁.heap.objs.size + 1, w0)])
    (c0 : ∃ v, w0.data = .cell v) (c1 : ∃ v, w1.data = .cell v) (c2 : ∃ v, w2.data = .cell v) (c3 : ∃ v, w3.data = .cell v)
    (hcells : cellsFrom (s₁.heap.objs.size + 1) sc.names [] = [(x3, s₁.heap.objs.size + 1 + 1 + 1 + 1), (x2, s₁.heap.objs.size + 1 + 1 + 1), (x1, s₁.heap.objs.size + 1 + 1), (x0, s₁.heap.objs.size + 1)])
    (hnc : sc.names.all (fun y => !(kCell y.2 || kFree y.2) || ([x3, x2, x1, x0].any (· == y.1) && !(y.1 == Str.ofString "script"))) = true)
    {items : List Value} {ns : List Int} (hL : s₁.heap.IsList a items.toArray) (hI : IntsAre items ns) (hlen : ns.length ≤ 63) :
    wpAny (model prog w) (callerA.deeper (envOfC name sc s₁.heap.objs.size fa cd)) (execs body (envOfC name sc s₁.heap.objs.size fa cd))
      (fun f s' => f = .ret (.bool true) ∧ (∀ b o, s₁.heap.get? b = some o → s'.heap.get? b = some o) ∧ s'.os = s₁.os ∧ s'.gens = #[]) noE { s₁ with heap := h₁, toks := tk } := by
  obtain ⟨oc, od, osl, fd, e1, e2, e3⟩ := hfd
  obtain ⟨fd', body', ⟨oc', od', osl', e1'⟩, e2', hG⟩ := law_walk (D := 0) (W := ⟨prog, w, s₁, HdT.K39 w.params⟩) rfl B hL hI hlen
  have e : fd' = fd := by
    have := e1'.symm.trans e1
    injection this with this
    injection this with _ _ this _
    injection this
  subst e
  have eb : body' = body := by
    have := e2'.symm.trans e2
    injection this
  subst eb e3
  obtain ⟨fl, V₂, st₂, hS, hR⟩ := hG
  have hR : fl = .ret (.bool true) := hR
  subst hR
  obtain ⟨hH, hF⟩ := law_frame (W := ⟨prog, w, s₁, HdT.K39 w.params⟩) (name := name) (fa := fa) (cd := cd) (tk := tk) F hm hsc N c0 c1 c2 c3 hcells hnc
  refine wpAny_mono (hS _ _ _ _ (room_caller _) hH hF) (fun f s' ⟨C', _, h', _, r⟩ => ?_) fun _ _ e => e
  refine ⟨?_, h'.keep0, ?_, ?_⟩
  · cases r with | ret r => cases r; rfl
  · obtain ⟨h, t, e⟩ := h'.same; rw [e]
  · obtain ⟨h, t, e⟩ := h'.same; rw [e]; exact B.gens
end Mine

/-! part Fn20 -/
namespace Mine
theorem bnames_free : ∀ x ∈ Mine.bnames, x ∉ namesW HdT.q0 HdT.loose0 ∧ x ∉ bootMainNames := by
  intro x hx
  have h : (Mine.bnames.all fun x => !(namesW HdT.q0 HdT.loose0).contains x && !bootMainNames.contains x) = true := by kernel_rfl
  have := List.all_eq_true.mp h x hx
  simpa using this
end Mine
theorem PySem.Challenge.cw_pb0185_01_holds : PySem.Challenge.rw_pb0185_01.Holds := by
  w_on
  o_law
  refine holds_open (r := PySem.Challenge.rw_pb0185_01.row) (q := HdT.q0) (loose := HdT.loose0) (XP := XL HdT.q0 []) (YP := Hook.says (kHook HdT.K39 HdT.as39 HdT.as_ok)) HdT.left0 (Hook.of (kHook HdT.K39 HdT.as39 HdT.as_ok)) (Hook.keeps (kHook HdT.K39 HdT.as39 HdT.as_ok))
    (fun s e => xl_of s (Bool.and_eq_true_iff.mp e).1) XL.keeps (by rfl) (by rfl) (by rfl) (fun s e => recFacts_of (Bool.and_eq_true_iff.mp e).2) (by rfl) (by first | assumption | decide +kernel) (by decide +kernel) ⟨rfl, rfl, rfl, rfl, rfl, by decide +kernel⟩ ?hw ?hc
  case hw => w_witness2
  case hc =>
    k_go0
    rename_i hL ra q1 r0 hI hr hc1 hc0 K0 hD h1 tk1 F w3 w2 w1 w0 e3 e2 e1 e0 N0 X0
    rename World => w
    rename Frag.In _ _ => KX
    rename Glob _ _ _ _ _ _ _ _ => GL
    rename (Shared.gens _ = #[]) => hg
    have B : Mine.Base ⟨PySem.Challenge.rw_pb0185_01.row.prog, w, _, HdT.K39 w.params⟩ := { kx := KX, glob := ⟨_, _, GL.g, GL.b, fun x hx => GL.free x (Mine.bnames_free x hx).1 (Mine.bnames_free x hx).2, GL.builtins⟩, nolimit := GL.nolimit, digits := GL.digits, gens := hg }
    refine wpAny_mono (Mine.law_good B ⟨_, _, _, _, rfl, rfl, rfl⟩ F rfl rfl N0 ⟨_, e0⟩ ⟨_, e1⟩ ⟨_, e2⟩ ⟨_, e3⟩ rfl rfl hL hI (by simp at hc1; omega)) ?_ ?_
    · rintro f s' ⟨rfl, hk, ho, hg'⟩
      refine ⟨.inl ⟨.bool true, .bool true, [], rfl, fun _ => rfl, .bool true, ?_, unshared_nil⟩, hk, ho, hg'⟩
      first | kernel_rfl | (with_unfolding_all rfl) | (simp [ClaimW.post]; done) | w_fin
    · intro e s' h
      exact h.elim
