import PyProof.Rows.All
import Wide.All
import OpenK.AllK
import Wide.FinOn
import PyProof.InstStoreFacts
import PyProof.Rows.SortStr
import Wide.BytesRules
import KE.KLam
import KE.KDictSum
import KE.KIsAll
import PySem.Challenge.RW_og0165_01
set_option Elab.async false
set_option maxRecDepth 100000
namespace Mine
open PySem PySem.W PySem.Calls PyProof.Rows
/-! HdA -/
abbrev Pg : Program := PySem.Challenge.rw_og0165_01.row.prog
def topS (i : Nat) : Stmt := (Pg.main.body[i]?).getD (.Pass ⟨0, 0, 0, 0⟩)
def clsBody : Stmt → List Stmt
  | .ClassDef (body := b) .. => b
  | _ => []
def inS (i j : Nat) : Stmt := ((clsBody (topS i))[j]?).getD (.Pass ⟨0, 0, 0, 0⟩)
abbrev zs (k : String) (t : Nat) : Value := .str (Str.ofString k) t
abbrev ze (P : Params) (k : String) (t : Nat) (v : Value) : DictEntry := ⟨PyData.keyHash P (Str.ofString k), .str (Str.ofString k) t, v⟩
abbrev zf {st : Stmt} {nm : Str} {ar : Arguments} {bd : List Stmt} {ds : List Expr} {rt : Option Expr} {tp : List TypeParam} {sc : Scope} {ts : Option Scope} {bi : Str} {ps : Pos}
    (_ : st = .FunctionDef nm ar bd ds rt tp sc ts bi ps) (qual : String) (gl : Addr) (cl : List (Str × Addr)) (dV kV doc pm : Value) (an : Option Addr) (cd ct : Value) (bl : Addr) : Data :=
  .func { name := nm, qualname := Str.ofString qual, params := ar, body := .stmts bd, scope := sc, globals := gl, closure := cl, defaults := dV, kwdefaults := kV, doc := doc, pyModule := pm, annotations := an, code := cd, closureTuple := ct, builtins := bl }
noncomputable def ob11 (P : Params) : Obj := ⟨(.type "tuple"), none, (.seq #[] 0), #[]⟩
noncomputable def ob12 (P : Params) : Obj := ⟨.none, none, (.fields #[]), #[]⟩
noncomputable def ob13 (P : Params) : Obj := ⟨(.type "code"), none, (.fields #[(zs "<module>" 182), (zs "<module>" 183), (zs "/claim/cut.py" 184), (.int 1 0), (.int 0 0), (.int 0 0), (.int 0 0), (.int 0 0), (.ref 11), (.bool false), (.int 181 0), (.ref 12), .none, .none, .none, .none, (.int 185 0), (.int 1 0), (zs "/claim/cut.py" 186)]), #[]⟩
noncomputable def ob14 (P : Params) : Obj := ⟨(.type "frame"), none, .plain, #[(some (.ref 13)), (some (.ref 3)), (some (.ref 3)), none, (some (zs "__main__" 164)), none, (some (.ref 0))]⟩
noncomputable def ob2 (P : Params) : Obj := ⟨.none, none, (.dict #[ze P "type.__subclasses__.Exception.0" 232 (.int 46 0), ze P "type.__subclasses__.Exception.n" 233 (.int 1 0)] 2), #[]⟩
noncomputable def ob3 (P : Params) : Obj := ⟨(.type "dict"), none, (.dict #[ze P "__name__" 165 (zs "paperhold.decimals" 252), ze P "__doc__" 166 .none, ze P "__package__" 167 .none, ze P "__loader__" 168 (.builtin "__main__.__loader__#opaque"), ze P "__spec__" 169 .none, ze P "__annotations__" 170 (.ref 6), ze P "__builtins__" 171 (.ref 4), ze P "__file__" 173 (zs "/claim/cut.py" 172), ze P "__cached__" 174 .none, ze P "_wall" 193 (.ref 21), ze P "PaperError" 235 (.ref 46), ze P "CrossFault" 251 (.ref 59), ze P "Decimal" 367 (.ref 155)] 13), #[]⟩
noncomputable def ob12_1 (P : Params) : Obj := ⟨.none, none, (.fields #[(.int 1 0), (.int 0 0), (.ref 20), (.int 5 0), (.int 0 0), (.ref 27), (.int 14 0), (.int 0 0), (.ref 55), (.int 17 0), (.int 0 0), (.ref 67)]), #[]⟩
noncomputable def ob15 (P : Params) : Obj := ⟨(.type "tuple"), none, (.seq #[] 0), #[]⟩
noncomputable def ob16 (P : Params) : Obj := ⟨.none, none, (.fields #[]), #[]⟩
noncomputable def ob17 (P : Params) : Obj := ⟨(.type "tuple"), none, (.seq #[(zs "k" 190)] 0), #[]⟩
noncomputable def ob18 (P : Params) : Obj := ⟨(.type "tuple"), none, (.seq #[] 0), #[]⟩
noncomputable def ob19 (P : Params) : Obj := ⟨.none, none, (zf (st := (topS 0)) rfl "_wall" 0 [] .none .none .none .none none .none .none 0), #[]⟩
noncomputable def ob20 (P : Params) : Obj := ⟨(.type "code"), none, (.fields #[(zs "_wall" 187), (zs "_wall" 188), (zs "/claim/cut.py" 189), (.int 1 0), (.int 1 0), (.int 0 0), (.int 0 0), (.int 3 0), (.ref 15), (.bool true), (.int 181 0), (.ref 16), .none, (.ref 17), (.ref 18), (.ref 19), (.int 191 0), (.int 1 0), (zs "/claim/cut.py" 192)]), #[]⟩
noncomputable def ob21 (P : Params) : Obj := ⟨(.type "function"), none, (zf (st := (topS 0)) rfl "_wall" 3 [] .none .none .none (zs "__main__" 164) none (.ref 20) .none 0), #[]⟩
noncomputable def ob22 (P : Params) : Obj := ⟨(.type "tuple"), none, (.seq #[(.type "Exception")] 0), #[]⟩
noncomputable def ob23 (P : Params) : Obj := ⟨(.type "builtin_function_or_method"), none, (.fields #[(.builtin "type.__prepare__"), (.type "type")]), #[]⟩
noncomputable def ob24 (P : Params) : Obj := ⟨(.type "dict"), none, (.dict #[ze P "__module__" 203 (zs "paperhold.errors" 194), ze P "__qualname__" 205 (zs "PaperError" 204), ze P "__firstlineno__" 207 (.int 5 206), ze P "__init__" 218 (.ref 36), ze P "told" 225 (.ref 43), ze P "__static_attributes__" 228 (.ref 44)] 6), #[]⟩
noncomputable def ob25 (P : Params) : Obj := ⟨(.type "tuple"), none, (.seq #[] 0), #[]⟩
noncomputable def ob26 (P : Params) : Obj := ⟨.none, none, (.fields #[(.int 7 0), (.int 4 0), (.ref 35), (.int 12 0), (.int 4 0), (.ref 42)]), #[]⟩
noncomputable def ob27 (P : Params) : Obj := ⟨(.type "code"), none, (.fields #[(zs "PaperError" 198), (zs "PaperError" 199), (zs "/claim/cut.py" 200), (.int 5 0), (.int 0 0), (.int 0 0), (.int 0 0), (.int 0 0), (.ref 25), (.bool false), (.int 181 0), (.ref 26), .none, .none, .none, .none, (.int 201 0), (.int 5 0), (zs "/claim/cut.py" 202)]), #[]⟩
noncomputable def ob28 (P : Params) : Obj := ⟨(.type "frame"), none, .plain, #[(some (.ref 27)), (some (.ref 3)), (some (.ref 24)), none, (some (zs "paperhold.errors" 194)), none, (some (.ref 0))]⟩
noncomputable def ob29 (P : Params) : Obj := ⟨(.type "tuple"), none, (.seq #[(.int (-1) 209)] 0), #[]⟩
noncomputable def ob30 (P : Params) : Obj := ⟨(.type "tuple"), none, (.seq #[] 0), #[]⟩
noncomputable def ob31 (P : Params) : Obj := ⟨.none, none, (.fields #[]), #[]⟩
noncomputable def ob32 (P : Params) : Obj := ⟨(.type "tuple"), none, (.seq #[(zs "self" 213), (zs "what" 214), (zs "at" 215)] 0), #[]⟩
noncomputable def ob33 (P : Params) : Obj := ⟨(.type "tuple"), none, (.seq #[] 0), #[]⟩
noncomputable def ob34 (P : Params) : Obj := ⟨.none, none, (zf (st := (inS 2 0)) rfl "PaperError.__init__" 0 [] .none .none .none .none none .none .none 0), #[]⟩
noncomputable def ob35 (P : Params) : Obj := ⟨(.type "code"), none, (.fields #[(zs "__init__" 210), (zs "PaperError.__init__" 211), (zs "/claim/cut.py" 212), (.int 7 0), (.int 3 0), (.int 0 0), (.int 0 0), (.int 3 0), (.ref 30), (.bool true), (.int 181 0), (.ref 31), .none, (.ref 32), (.ref 33), (.ref 34), (.int 216 0), (.int 7 0), (zs "/claim/cut.py" 217)]), #[]⟩
noncomputable def ob36 (P : Params) : Obj := ⟨(.type "function"), none, (zf (st := (inS 2 0)) rfl "PaperError.__init__" 3 [] (.ref 29) .none .none (zs "paperhold.errors" 194) none (.ref 35) .none 0), #[]⟩
noncomputable def ob37 (P : Params) : Obj := ⟨(.type "tuple"), none, (.seq #[] 0), #[]⟩
noncomputable def ob38 (P : Params) : Obj := ⟨.none, none, (.fields #[]), #[]⟩
noncomputable def ob39 (P : Params) : Obj := ⟨(.type "tuple"), none, (.seq #[(zs "self" 222)] 0), #[]⟩
noncomputable def ob40 (P : Params) : Obj := ⟨(.type "tuple"), none, (.seq #[] 0), #[]⟩
noncomputable def ob41 (P : Params) : Obj := ⟨.none, none, (zf (st := (inS 2 1)) rfl "PaperError.told" 0 [] .none .none .none .none none .none .none 0), #[]⟩
noncomputable def ob42 (P : Params) : Obj := ⟨(.type "code"), none, (.fields #[(zs "told" 219), (zs "PaperError.told" 220), (zs "/claim/cut.py" 221), (.int 12 0), (.int 1 0), (.int 0 0), (.int 0 0), (.int 3 0), (.ref 37), (.bool true), (.int 181 0), (.ref 38), .none, (.ref 39), (.ref 40), (.ref 41), (.int 223 0), (.int 12 0), (zs "/claim/cut.py" 224)]), #[]⟩
noncomputable def ob43 (P : Params) : Obj := ⟨(.type "function"), none, (zf (st := (inS 2 1)) rfl "PaperError.told" 3 [] .none .none .none (zs "paperhold.errors" 194) none (.ref 42) .none 0), #[]⟩
noncomputable def ob44 (P : Params) : Obj := ⟨(.type "tuple"), none, (.seq #[(zs "at" 226), (zs "what" 227)] 0), #[]⟩
noncomputable def ob45 (P : Params) : Obj := ⟨(.type "dict"), none, (.dict #[ze P "__module__" 203 (zs "paperhold.errors" 194), ze P "__firstlineno__" 207 (.int 5 206), ze P "__init__" 218 (.ref 36), ze P "told" 225 (.ref 43), ze P "__static_attributes__" 228 (.ref 44), ze P "__weakref__" 230 (.ref 47), ze P "__doc__" 231 .none] 3), #[]⟩
noncomputable def ob46 (P : Params) : Obj := ⟨(.type "type"), none, (.cls ⟨Str.ofString "PaperError", [(.type "Exception")], [(.ref 46), (.type "Exception"), (.type "BaseException"), (.type "object")], 45, Str.ofString "PaperError", true, [], [(.ref 59)], false, none, false⟩), #[(some (.ref 22)), none, (some (zs "PaperError" 196)), (some (zs "PaperError" 204)), (some (.builtin "Exception.__new__")), (some (.bool true))]⟩
noncomputable def ob47 (P : Params) : Obj := ⟨(.type "getset_descriptor"), none, (.fields #[(zs "__weakref__" 229), (.ref 46), (.builtin "ExceptionGroup.__weakref__"), .none]), #[]⟩
noncomputable def ob48 (P : Params) : Obj := ⟨(.type "super"), none, (.fields #[(.ref 46), (.ref 46), (.ref 46)]), #[]⟩
noncomputable def ob49 (P : Params) : Obj := ⟨(.type "builtin_function_or_method"), none, (.fields #[(.builtin "object.__init_subclass__"), (.ref 46)]), #[]⟩
noncomputable def ob50 (P : Params) : Obj := ⟨(.type "tuple"), none, (.seq #[(.ref 46)] 0), #[]⟩
noncomputable def ob51 (P : Params) : Obj := ⟨(.type "builtin_function_or_method"), none, (.fields #[(.builtin "type.__prepare__"), (.type "type")]), #[]⟩
noncomputable def ob52 (P : Params) : Obj := ⟨(.type "dict"), none, (.dict #[ze P "__module__" 243 (zs "paperhold.errors" 194), ze P "__qualname__" 245 (zs "CrossFault" 244), ze P "__firstlineno__" 247 (.int 14 246), ze P "__static_attributes__" 248 (.ref 57)] 4), #[]⟩
noncomputable def ob53 (P : Params) : Obj := ⟨(.type "tuple"), none, (.seq #[] 0), #[]⟩
noncomputable def ob54 (P : Params) : Obj := ⟨.none, none, (.fields #[]), #[]⟩
noncomputable def ob55 (P : Params) : Obj := ⟨(.type "code"), none, (.fields #[(zs "CrossFault" 238), (zs "CrossFault" 239), (zs "/claim/cut.py" 240), (.int 14 0), (.int 0 0), (.int 0 0), (.int 0 0), (.int 0 0), (.ref 53), (.bool false), (.int 181 0), (.ref 54), .none, .none, .none, .none, (.int 241 0), (.int 14 0), (zs "/claim/cut.py" 242)]), #[]⟩
noncomputable def ob56 (P : Params) : Obj := ⟨(.type "frame"), none, .plain, #[(some (.ref 55)), (some (.ref 3)), (some (.ref 52)), none, (some (zs "paperhold.errors" 194)), none, (some (.ref 0))]⟩
noncomputable def ob57 (P : Params) : Obj := ⟨(.type "tuple"), none, (.seq #[] 0), #[]⟩
noncomputable def ob58 (P : Params) : Obj := ⟨(.type "dict"), none, (.dict #[ze P "__module__" 243 (zs "paperhold.errors" 194), ze P "__firstlineno__" 247 (.int 14 246), ze P "__static_attributes__" 248 (.ref 57), ze P "__doc__" 249 .none] 2), #[]⟩
noncomputable def ob59 (P : Params) : Obj := ⟨(.type "type"), none, (.cls ⟨Str.ofString "CrossFault", [(.ref 46)], [(.ref 59), (.ref 46), (.type "Exception"), (.type "BaseException"), (.type "object")], 58, Str.ofString "CrossFault", true, [], [], false, none, false⟩), #[(some (.ref 50)), none, (some (zs "CrossFault" 236)), (some (zs "CrossFault" 244)), (some (.builtin "Exception.__new__")), (some (.bool true))]⟩
noncomputable def ob60 (P : Params) : Obj := ⟨(.type "super"), none, (.fields #[(.ref 59), (.ref 59), (.ref 59)]), #[]⟩
noncomputable def ob61 (P : Params) : Obj := ⟨(.type "builtin_function_or_method"), none, (.fields #[(.builtin "object.__init_subclass__"), (.ref 59)]), #[]⟩
noncomputable def ob62 (P : Params) : Obj := ⟨(.type "tuple"), none, (.seq #[] 0), #[]⟩
noncomputable def ob63 (P : Params) : Obj := ⟨(.type "builtin_function_or_method"), none, (.fields #[(.builtin "type.__prepare__"), (.type "type")]), #[]⟩
noncomputable def ob64 (P : Params) : Obj := ⟨(.type "dict"), none, (.dict #[ze P "__module__" 261 (zs "paperhold.decimals" 252), ze P "__qualname__" 263 (zs "Decimal" 262), ze P "__firstlineno__" 265 (.int 17 264), ze P "__init__" 274 (.ref 75), ze P "plus" 282 (.ref 82), ze P "minus" 290 (.ref 89), ze P "times" 298 (.ref 96), ze P "negated" 305 (.ref 103), ze P "compared" 313 (.ref 110), ze P "is_whole" 320 (.ref 117), ze P "floor" 327 (.ref 124), ze P "rounded" 335 (.ref 131), ze P "told" 342 (.ref 138), ze P "text" 350 (.ref 145), ze P "least_text" 357 (.ref 152), ze P "__static_attributes__" 360 (.ref 153)] 16), #[]⟩
noncomputable def ob65 (P : Params) : Obj := ⟨(.type "tuple"), none, (.seq #[] 0), #[]⟩
noncomputable def ob66 (P : Params) : Obj := ⟨.none, none, (.fields #[(.int 19 0), (.int 4 0), (.ref 74), (.int 26 0), (.int 4 0), (.ref 81), (.int 29 0), (.int 4 0), (.ref 88), (.int 32 0), (.int 4 0), (.ref 95), (.int 35 0), (.int 4 0), (.ref 102), (.int 38 0), (.int 4 0), (.ref 109), (.int 41 0), (.int 4 0), (.ref 116), (.int 44 0), (.int 4 0), (.ref 123), (.int 47 0), (.int 4 0), (.ref 130), (.int 50 0), (.int 4 0), (.ref 137), (.int 53 0), (.int 4 0), (.ref 144), (.int 60 0), (.int 4 0), (.ref 151)]), #[]⟩
noncomputable def ob67 (P : Params) : Obj := ⟨(.type "code"), none, (.fields #[(zs "Decimal" 256), (zs "Decimal" 257), (zs "/claim/cut.py" 258), (.int 17 0), (.int 0 0), (.int 0 0), (.int 0 0), (.int 0 0), (.ref 65), (.bool false), (.int 181 0), (.ref 66), .none, .none, .none, .none, (.int 259 0), (.int 17 0), (zs "/claim/cut.py" 260)]), #[]⟩
noncomputable def ob68 (P : Params) : Obj := ⟨(.type "frame"), none, .plain, #[(some (.ref 67)), (some (.ref 3)), (some (.ref 64)), none, (some (zs "paperhold.decimals" 252)), none, (some (.ref 0))]⟩
noncomputable def ob69 (P : Params) : Obj := ⟨(.type "tuple"), none, (.seq #[] 0), #[]⟩
noncomputable def ob70 (P : Params) : Obj := ⟨.none, none, (.fields #[]), #[]⟩
noncomputable def ob71 (P : Params) : Obj := ⟨(.type "tuple"), none, (.seq #[(zs "self" 269), (zs "top" 270), (zs "places" 271)] 0), #[]⟩
noncomputable def ob72 (P : Params) : Obj := ⟨(.type "tuple"), none, (.seq #[] 0), #[]⟩
noncomputable def ob73 (P : Params) : Obj := ⟨.none, none, (zf (st := (inS 5 0)) rfl "Decimal.__init__" 0 [] .none .none .none .none none .none .none 0), #[]⟩
noncomputable def ob74 (P : Params) : Obj := ⟨(.type "code"), none, (.fields #[(zs "__init__" 266), (zs "Decimal.__init__" 267), (zs "/claim/cut.py" 268), (.int 19 0), (.int 3 0), (.int 0 0), (.int 0 0), (.int 3 0), (.ref 69), (.bool true), (.int 181 0), (.ref 70), .none, (.ref 71), (.ref 72), (.ref 73), (.int 272 0), (.int 19 0), (zs "/claim/cut.py" 273)]), #[]⟩
noncomputable def ob75 (P : Params) : Obj := ⟨(.type "function"), none, (zf (st := (inS 5 0)) rfl "Decimal.__init__" 3 [] .none .none .none (zs "paperhold.decimals" 252) none (.ref 74) .none 0), #[]⟩
noncomputable def ob76 (P : Params) : Obj := ⟨(.type "tuple"), none, (.seq #[] 0), #[]⟩
noncomputable def ob77 (P : Params) : Obj := ⟨.none, none, (.fields #[]), #[]⟩
noncomputable def ob78 (P : Params) : Obj := ⟨(.type "tuple"), none, (.seq #[(zs "self" 278), (zs "other" 279)] 0), #[]⟩
noncomputable def ob79 (P : Params) : Obj := ⟨(.type "tuple"), none, (.seq #[] 0), #[]⟩
noncomputable def ob80 (P : Params) : Obj := ⟨.none, none, (zf (st := (inS 5 1)) rfl "Decimal.plus" 0 [] .none .none .none .none none .none .none 0), #[]⟩
noncomputable def ob81 (P : Params) : Obj := ⟨(.type "code"), none, (.fields #[(zs "plus" 275), (zs "Decimal.plus" 276), (zs "/claim/cut.py" 277), (.int 26 0), (.int 2 0), (.int 0 0), (.int 0 0), (.int 3 0), (.ref 76), (.bool true), (.int 181 0), (.ref 77), .none, (.ref 78), (.ref 79), (.ref 80), (.int 280 0), (.int 26 0), (zs "/claim/cut.py" 281)]), #[]⟩
noncomputable def ob82 (P : Params) : Obj := ⟨(.type "function"), none, (zf (st := (inS 5 1)) rfl "Decimal.plus" 3 [] .none .none .none (zs "paperhold.decimals" 252) none (.ref 81) .none 0), #[]⟩
noncomputable def ob83 (P : Params) : Obj := ⟨(.type "tuple"), none, (.seq #[] 0), #[]⟩
noncomputable def ob84 (P : Params) : Obj := ⟨.none, none, (.fields #[]), #[]⟩
noncomputable def ob85 (P : Params) : Obj := ⟨(.type "tuple"), none, (.seq #[(zs "self" 286), (zs "other" 287)] 0), #[]⟩
noncomputable def ob86 (P : Params) : Obj := ⟨(.type "tuple"), none, (.seq #[] 0), #[]⟩
noncomputable def ob87 (P : Params) : Obj := ⟨.none, none, (zf (st := (inS 5 2)) rfl "Decimal.minus" 0 [] .none .none .none .none none .none .none 0), #[]⟩
noncomputable def ob88 (P : Params) : Obj := ⟨(.type "code"), none, (.fields #[(zs "minus" 283), (zs "Decimal.minus" 284), (zs "/claim/cut.py" 285), (.int 29 0), (.int 2 0), (.int 0 0), (.int 0 0), (.int 3 0), (.ref 83), (.bool true), (.int 181 0), (.ref 84), .none, (.ref 85), (.ref 86), (.ref 87), (.int 288 0), (.int 29 0), (zs "/claim/cut.py" 289)]), #[]⟩
noncomputable def ob89 (P : Params) : Obj := ⟨(.type "function"), none, (zf (st := (inS 5 2)) rfl "Decimal.minus" 3 [] .none .none .none (zs "paperhold.decimals" 252) none (.ref 88) .none 0), #[]⟩
noncomputable def ob90 (P : Params) : Obj := ⟨(.type "tuple"), none, (.seq #[] 0), #[]⟩
noncomputable def ob91 (P : Params) : Obj := ⟨.none, none, (.fields #[]), #[]⟩
noncomputable def ob92 (P : Params) : Obj := ⟨(.type "tuple"), none, (.seq #[(zs "self" 294), (zs "other" 295)] 0), #[]⟩
noncomputable def ob93 (P : Params) : Obj := ⟨(.type "tuple"), none, (.seq #[] 0), #[]⟩
noncomputable def ob94 (P : Params) : Obj := ⟨.none, none, (zf (st := (inS 5 3)) rfl "Decimal.times" 0 [] .none .none .none .none none .none .none 0), #[]⟩
noncomputable def ob95 (P : Params) : Obj := ⟨(.type "code"), none, (.fields #[(zs "times" 291), (zs "Decimal.times" 292), (zs "/claim/cut.py" 293), (.int 32 0), (.int 2 0), (.int 0 0), (.int 0 0), (.int 3 0), (.ref 90), (.bool true), (.int 181 0), (.ref 91), .none, (.ref 92), (.ref 93), (.ref 94), (.int 296 0), (.int 32 0), (zs "/claim/cut.py" 297)]), #[]⟩
noncomputable def ob96 (P : Params) : Obj := ⟨(.type "function"), none, (zf (st := (inS 5 3)) rfl "Decimal.times" 3 [] .none .none .none (zs "paperhold.decimals" 252) none (.ref 95) .none 0), #[]⟩
noncomputable def ob97 (P : Params) : Obj := ⟨(.type "tuple"), none, (.seq #[] 0), #[]⟩
noncomputable def ob98 (P : Params) : Obj := ⟨.none, none, (.fields #[]), #[]⟩
noncomputable def ob99 (P : Params) : Obj := ⟨(.type "tuple"), none, (.seq #[(zs "self" 302)] 0), #[]⟩
noncomputable def ob100 (P : Params) : Obj := ⟨(.type "tuple"), none, (.seq #[] 0), #[]⟩
noncomputable def ob101 (P : Params) : Obj := ⟨.none, none, (zf (st := (inS 5 4)) rfl "Decimal.negated" 0 [] .none .none .none .none none .none .none 0), #[]⟩
noncomputable def ob102 (P : Params) : Obj := ⟨(.type "code"), none, (.fields #[(zs "negated" 299), (zs "Decimal.negated" 300), (zs "/claim/cut.py" 301), (.int 35 0), (.int 1 0), (.int 0 0), (.int 0 0), (.int 3 0), (.ref 97), (.bool true), (.int 181 0), (.ref 98), .none, (.ref 99), (.ref 100), (.ref 101), (.int 303 0), (.int 35 0), (zs "/claim/cut.py" 304)]), #[]⟩
noncomputable def ob103 (P : Params) : Obj := ⟨(.type "function"), none, (zf (st := (inS 5 4)) rfl "Decimal.negated" 3 [] .none .none .none (zs "paperhold.decimals" 252) none (.ref 102) .none 0), #[]⟩
noncomputable def ob104 (P : Params) : Obj := ⟨(.type "tuple"), none, (.seq #[] 0), #[]⟩
noncomputable def ob105 (P : Params) : Obj := ⟨.none, none, (.fields #[]), #[]⟩
noncomputable def ob106 (P : Params) : Obj := ⟨(.type "tuple"), none, (.seq #[(zs "self" 309), (zs "other" 310)] 0), #[]⟩
noncomputable def ob107 (P : Params) : Obj := ⟨(.type "tuple"), none, (.seq #[] 0), #[]⟩
noncomputable def ob108 (P : Params) : Obj := ⟨.none, none, (zf (st := (inS 5 5)) rfl "Decimal.compared" 0 [] .none .none .none .none none .none .none 0), #[]⟩
noncomputable def ob109 (P : Params) : Obj := ⟨(.type "code"), none, (.fields #[(zs "compared" 306), (zs "Decimal.compared" 307), (zs "/claim/cut.py" 308), (.int 38 0), (.int 2 0), (.int 0 0), (.int 0 0), (.int 3 0), (.ref 104), (.bool true), (.int 181 0), (.ref 105), .none, (.ref 106), (.ref 107), (.ref 108), (.int 311 0), (.int 38 0), (zs "/claim/cut.py" 312)]), #[]⟩
noncomputable def ob110 (P : Params) : Obj := ⟨(.type "function"), none, (zf (st := (inS 5 5)) rfl "Decimal.compared" 3 [] .none .none .none (zs "paperhold.decimals" 252) none (.ref 109) .none 0), #[]⟩
noncomputable def ob111 (P : Params) : Obj := ⟨(.type "tuple"), none, (.seq #[] 0), #[]⟩
noncomputable def ob112 (P : Params) : Obj := ⟨.none, none, (.fields #[]), #[]⟩
noncomputable def ob113 (P : Params) : Obj := ⟨(.type "tuple"), none, (.seq #[(zs "self" 317)] 0), #[]⟩
noncomputable def ob114 (P : Params) : Obj := ⟨(.type "tuple"), none, (.seq #[] 0), #[]⟩
noncomputable def ob115 (P : Params) : Obj := ⟨.none, none, (zf (st := (inS 5 6)) rfl "Decimal.is_whole" 0 [] .none .none .none .none none .none .none 0), #[]⟩
noncomputable def ob116 (P : Params) : Obj := ⟨(.type "code"), none, (.fields #[(zs "is_whole" 314), (zs "Decimal.is_whole" 315), (zs "/claim/cut.py" 316), (.int 41 0), (.int 1 0), (.int 0 0), (.int 0 0), (.int 3 0), (.ref 111), (.bool true), (.int 181 0), (.ref 112), .none, (.ref 113), (.ref 114), (.ref 115), (.int 318 0), (.int 41 0), (zs "/claim/cut.py" 319)]), #[]⟩
noncomputable def ob117 (P : Params) : Obj := ⟨(.type "function"), none, (zf (st := (inS 5 6)) rfl "Decimal.is_whole" 3 [] .none .none .none (zs "paperhold.decimals" 252) none (.ref 116) .none 0), #[]⟩
noncomputable def ob118 (P : Params) : Obj := ⟨(.type "tuple"), none, (.seq #[] 0), #[]⟩
noncomputable def ob119 (P : Params) : Obj := ⟨.none, none, (.fields #[]), #[]⟩
noncomputable def ob120 (P : Params) : Obj := ⟨(.type "tuple"), none, (.seq #[(zs "self" 324)] 0), #[]⟩
noncomputable def ob121 (P : Params) : Obj := ⟨(.type "tuple"), none, (.seq #[] 0), #[]⟩
noncomputable def ob122 (P : Params) : Obj := ⟨.none, none, (zf (st := (inS 5 7)) rfl "Decimal.floor" 0 [] .none .none .none .none none .none .none 0), #[]⟩
noncomputable def ob123 (P : Params) : Obj := ⟨(.type "code"), none, (.fields #[(zs "floor" 321), (zs "Decimal.floor" 322), (zs "/claim/cut.py" 323), (.int 44 0), (.int 1 0), (.int 0 0), (.int 0 0), (.int 3 0), (.ref 118), (.bool true), (.int 181 0), (.ref 119), .none, (.ref 120), (.ref 121), (.ref 122), (.int 325 0), (.int 44 0), (zs "/claim/cut.py" 326)]), #[]⟩
noncomputable def ob124 (P : Params) : Obj := ⟨(.type "function"), none, (zf (st := (inS 5 7)) rfl "Decimal.floor" 3 [] .none .none .none (zs "paperhold.decimals" 252) none (.ref 123) .none 0), #[]⟩
noncomputable def ob125 (P : Params) : Obj := ⟨(.type "tuple"), none, (.seq #[] 0), #[]⟩
noncomputable def ob126 (P : Params) : Obj := ⟨.none, none, (.fields #[]), #[]⟩
noncomputable def ob127 (P : Params) : Obj := ⟨(.type "tuple"), none, (.seq #[(zs "self" 331), (zs "places" 332)] 0), #[]⟩
noncomputable def ob128 (P : Params) : Obj := ⟨(.type "tuple"), none, (.seq #[] 0), #[]⟩
noncomputable def ob129 (P : Params) : Obj := ⟨.none, none, (zf (st := (inS 5 8)) rfl "Decimal.rounded" 0 [] .none .none .none .none none .none .none 0), #[]⟩
noncomputable def ob130 (P : Params) : Obj := ⟨(.type "code"), none, (.fields #[(zs "rounded" 328), (zs "Decimal.rounded" 329), (zs "/claim/cut.py" 330), (.int 47 0), (.int 2 0), (.int 0 0), (.int 0 0), (.int 3 0), (.ref 125), (.bool true), (.int 181 0), (.ref 126), .none, (.ref 127), (.ref 128), (.ref 129), (.int 333 0), (.int 47 0), (zs "/claim/cut.py" 334)]), #[]⟩
noncomputable def ob131 (P : Params) : Obj := ⟨(.type "function"), none, (zf (st := (inS 5 8)) rfl "Decimal.rounded" 3 [] .none .none .none (zs "paperhold.decimals" 252) none (.ref 130) .none 0), #[]⟩
noncomputable def ob132 (P : Params) : Obj := ⟨(.type "tuple"), none, (.seq #[] 0), #[]⟩
noncomputable def ob133 (P : Params) : Obj := ⟨.none, none, (.fields #[]), #[]⟩
noncomputable def ob134 (P : Params) : Obj := ⟨(.type "tuple"), none, (.seq #[(zs "self" 339)] 0), #[]⟩
noncomputable def ob135 (P : Params) : Obj := ⟨(.type "tuple"), none, (.seq #[] 0), #[]⟩
noncomputable def ob136 (P : Params) : Obj := ⟨.none, none, (zf (st := (inS 5 9)) rfl "Decimal.told" 0 [] .none .none .none .none none .none .none 0), #[]⟩
noncomputable def ob137 (P : Params) : Obj := ⟨(.type "code"), none, (.fields #[(zs "told" 336), (zs "Decimal.told" 337), (zs "/claim/cut.py" 338), (.int 50 0), (.int 1 0), (.int 0 0), (.int 0 0), (.int 3 0), (.ref 132), (.bool true), (.int 181 0), (.ref 133), .none, (.ref 134), (.ref 135), (.ref 136), (.int 340 0), (.int 50 0), (zs "/claim/cut.py" 341)]), #[]⟩
noncomputable def ob138 (P : Params) : Obj := ⟨(.type "function"), none, (zf (st := (inS 5 9)) rfl "Decimal.told" 3 [] .none .none .none (zs "paperhold.decimals" 252) none (.ref 137) .none 0), #[]⟩
noncomputable def ob139 (P : Params) : Obj := ⟨(.type "tuple"), none, (.seq #[] 0), #[]⟩
noncomputable def ob140 (P : Params) : Obj := ⟨.none, none, (.fields #[]), #[]⟩
noncomputable def ob141 (P : Params) : Obj := ⟨(.type "tuple"), none, (.seq #[(zs "self" 346), (zs "numerals" 347)] 0), #[]⟩
noncomputable def ob142 (P : Params) : Obj := ⟨(.type "tuple"), none, (.seq #[] 0), #[]⟩
noncomputable def ob143 (P : Params) : Obj := ⟨.none, none, (zf (st := (inS 5 10)) rfl "Decimal.text" 0 [] .none .none .none .none none .none .none 0), #[]⟩
noncomputable def ob144 (P : Params) : Obj := ⟨(.type "code"), none, (.fields #[(zs "text" 343), (zs "Decimal.text" 344), (zs "/claim/cut.py" 345), (.int 53 0), (.int 1 0), (.int 0 0), (.int 0 0), (.int 3 0), (.ref 139), (.bool true), (.int 181 0), (.ref 140), .none, (.ref 141), (.ref 142), (.ref 143), (.int 348 0), (.int 53 0), (zs "/claim/cut.py" 349)]), #[]⟩
noncomputable def ob145 (P : Params) : Obj := ⟨(.type "function"), none, (zf (st := (inS 5 10)) rfl "Decimal.text" 3 [] .none .none .none (zs "paperhold.decimals" 252) none (.ref 144) .none 0), #[]⟩
noncomputable def ob146 (P : Params) : Obj := ⟨(.type "tuple"), none, (.seq #[] 0), #[]⟩
noncomputable def ob147 (P : Params) : Obj := ⟨.none, none, (.fields #[]), #[]⟩
noncomputable def ob148 (P : Params) : Obj := ⟨(.type "tuple"), none, (.seq #[(zs "self" 354)] 0), #[]⟩
noncomputable def ob149 (P : Params) : Obj := ⟨(.type "tuple"), none, (.seq #[] 0), #[]⟩
noncomputable def ob150 (P : Params) : Obj := ⟨.none, none, (zf (st := (inS 5 11)) rfl "Decimal.least_text" 0 [] .none .none .none .none none .none .none 0), #[]⟩
noncomputable def ob151 (P : Params) : Obj := ⟨(.type "code"), none, (.fields #[(zs "least_text" 351), (zs "Decimal.least_text" 352), (zs "/claim/cut.py" 353), (.int 60 0), (.int 1 0), (.int 0 0), (.int 0 0), (.int 3 0), (.ref 146), (.bool true), (.int 181 0), (.ref 147), .none, (.ref 148), (.ref 149), (.ref 150), (.int 355 0), (.int 60 0), (zs "/claim/cut.py" 356)]), #[]⟩
noncomputable def ob152 (P : Params) : Obj := ⟨(.type "function"), none, (zf (st := (inS 5 11)) rfl "Decimal.least_text" 3 [] .none .none .none (zs "paperhold.decimals" 252) none (.ref 151) .none 0), #[]⟩
noncomputable def ob153 (P : Params) : Obj := ⟨(.type "tuple"), none, (.seq #[(zs "places" 358), (zs "top" 359)] 0), #[]⟩
noncomputable def ob154 (P : Params) : Obj := ⟨(.type "dict"), none, (.dict #[ze P "__module__" 261 (zs "paperhold.decimals" 252), ze P "__firstlineno__" 265 (.int 17 264), ze P "__init__" 274 (.ref 75), ze P "plus" 282 (.ref 82), ze P "minus" 290 (.ref 89), ze P "times" 298 (.ref 96), ze P "negated" 305 (.ref 103), ze P "compared" 313 (.ref 110), ze P "is_whole" 320 (.ref 117), ze P "floor" 327 (.ref 124), ze P "rounded" 335 (.ref 131), ze P "told" 342 (.ref 138), ze P "text" 350 (.ref 145), ze P "least_text" 357 (.ref 152), ze P "__static_attributes__" 360 (.ref 153), ze P "__dict__" 362 (.ref 156), ze P "__weakref__" 364 (.ref 157), ze P "__doc__" 365 .none] 4), #[]⟩
noncomputable def ob155 (P : Params) : Obj := ⟨(.type "type"), none, (.cls ⟨Str.ofString "Decimal", [(.type "object")], [(.ref 155), (.type "object")], 154, Str.ofString "Decimal", true, [], [], false, none, false⟩), #[none, none, (some (zs "Decimal" 254)), (some (zs "Decimal" 262)), (some (.builtin "object.__new__")), (some (.bool true))]⟩
noncomputable def ob156 (P : Params) : Obj := ⟨(.type "getset_descriptor"), none, (.fields #[(zs "__dict__" 361), (.ref 155), (.builtin "function.__dict__"), (.builtin "function.__dict__#set")]), #[]⟩
noncomputable def ob157 (P : Params) : Obj := ⟨(.type "getset_descriptor"), none, (.fields #[(zs "__weakref__" 363), (.ref 155), (.builtin "ExceptionGroup.__weakref__"), .none]), #[]⟩
noncomputable def ob158 (P : Params) : Obj := ⟨(.type "super"), none, (.fields #[(.ref 155), (.ref 155), (.ref 155)]), #[]⟩
noncomputable def ob159 (P : Params) : Obj := ⟨(.type "builtin_function_or_method"), none, (.fields #[(.builtin "object.__init_subclass__"), (.ref 155)]), #[]⟩
noncomputable def ob3_1 (P : Params) : Obj := ⟨(.type "dict"), none, (.dict #[ze P "__name__" 165 (zs "paperhold.objects" 375), ze P "__doc__" 166 .none, ze P "__package__" 167 .none, ze P "__loader__" 168 (.builtin "__main__.__loader__#opaque"), ze P "__spec__" 169 .none, ze P "__annotations__" 170 (.ref 6), ze P "__builtins__" 171 (.ref 4), ze P "__file__" 173 (zs "/claim/cut.py" 172), ze P "__cached__" 174 .none, ze P "_wall" 193 (.ref 21), ze P "PaperError" 235 (.ref 46), ze P "CrossFault" 251 (.ref 59), ze P "Decimal" 367 (.ref 155), ze P "sign_text" 374 (.ref 166), ze P "MOST_HOPS" 378 (.int 30 377), ze P "Name" 407 (.ref 183), ze P "String" 438 (.ref 205), ze P "Stream" 469 (.ref 226), ze P "Reference" 507 (.ref 254)] 19), #[]⟩
noncomputable def ob12_2 (P : Params) : Obj := ⟨.none, none, (.fields #[(.int 1 0), (.int 0 0), (.ref 20), (.int 5 0), (.int 0 0), (.ref 27), (.int 14 0), (.int 0 0), (.ref 55), (.int 17 0), (.int 0 0), (.ref 67), (.int 62 0), (.int 0 0), (.ref 165), (.int 66 0), (.int 0 0), (.ref 172), (.int 70 0), (.int 0 0), (.ref 193), (.int 75 0), (.int 0 0), (.ref 215), (.int 80 0), (.int 0 0), (.ref 236)]), #[]⟩
noncomputable def ob160 (P : Params) : Obj := ⟨(.type "tuple"), none, (.seq #[] 0), #[]⟩
noncomputable def ob161 (P : Params) : Obj := ⟨.none, none, (.fields #[]), #[]⟩
noncomputable def ob162 (P : Params) : Obj := ⟨(.type "tuple"), none, (.seq #[(zs "number" 371)] 0), #[]⟩
noncomputable def ob163 (P : Params) : Obj := ⟨(.type "tuple"), none, (.seq #[] 0), #[]⟩
noncomputable def ob164 (P : Params) : Obj := ⟨.none, none, (zf (st := (topS 6)) rfl "sign_text" 0 [] .none .none .none .none none .none .none 0), #[]⟩
noncomputable def ob165 (P : Params) : Obj := ⟨(.type "code"), none, (.fields #[(zs "sign_text" 368), (zs "sign_text" 369), (zs "/claim/cut.py" 370), (.int 62 0), (.int 1 0), (.int 0 0), (.int 0 0), (.int 3 0), (.ref 160), (.bool true), (.int 181 0), (.ref 161), .none, (.ref 162), (.ref 163), (.ref 164), (.int 372 0), (.int 62 0), (zs "/claim/cut.py" 373)]), #[]⟩
noncomputable def ob166 (P : Params) : Obj := ⟨(.type "function"), none, (zf (st := (topS 6)) rfl "sign_text" 3 [] .none .none .none (zs "paperhold.decimals" 252) none (.ref 165) .none 0), #[]⟩
noncomputable def ob167 (P : Params) : Obj := ⟨(.type "tuple"), none, (.seq #[] 0), #[]⟩
noncomputable def ob168 (P : Params) : Obj := ⟨(.type "builtin_function_or_method"), none, (.fields #[(.builtin "type.__prepare__"), (.type "type")]), #[]⟩
noncomputable def ob169 (P : Params) : Obj := ⟨(.type "dict"), none, (.dict #[ze P "__module__" 386 (zs "paperhold.objects" 375), ze P "__qualname__" 388 (zs "Name" 387), ze P "__firstlineno__" 390 (.int 66 389), ze P "__init__" 398 (.ref 180), ze P "__static_attributes__" 400 (.ref 181)] 5), #[]⟩
noncomputable def ob170 (P : Params) : Obj := ⟨(.type "tuple"), none, (.seq #[] 0), #[]⟩
noncomputable def ob171 (P : Params) : Obj := ⟨.none, none, (.fields #[(.int 68 0), (.int 4 0), (.ref 179)]), #[]⟩
noncomputable def ob172 (P : Params) : Obj := ⟨(.type "code"), none, (.fields #[(zs "Name" 381), (zs "Name" 382), (zs "/claim/cut.py" 383), (.int 66 0), (.int 0 0), (.int 0 0), (.int 0 0), (.int 0 0), (.ref 170), (.bool false), (.int 181 0), (.ref 171), .none, .none, .none, .none, (.int 384 0), (.int 66 0), (zs "/claim/cut.py" 385)]), #[]⟩
noncomputable def ob173 (P : Params) : Obj := ⟨(.type "frame"), none, .plain, #[(some (.ref 172)), (some (.ref 3)), (some (.ref 169)), none, (some (zs "paperhold.objects" 375)), none, (some (.ref 0))]⟩
noncomputable def ob174 (P : Params) : Obj := ⟨(.type "tuple"), none, (.seq #[] 0), #[]⟩
noncomputable def ob175 (P : Params) : Obj := ⟨.none, none, (.fields #[]), #[]⟩
noncomputable def ob176 (P : Params) : Obj := ⟨(.type "tuple"), none, (.seq #[(zs "self" 394), (zs "text" 395)] 0), #[]⟩
noncomputable def ob177 (P : Params) : Obj := ⟨(.type "tuple"), none, (.seq #[] 0), #[]⟩
noncomputable def ob178 (P : Params) : Obj := ⟨.none, none, (zf (st := (inS 9 0)) rfl "Name.__init__" 0 [] .none .none .none .none none .none .none 0), #[]⟩
noncomputable def ob179 (P : Params) : Obj := ⟨(.type "code"), none, (.fields #[(zs "__init__" 391), (zs "Name.__init__" 392), (zs "/claim/cut.py" 393), (.int 68 0), (.int 2 0), (.int 0 0), (.int 0 0), (.int 3 0), (.ref 174), (.bool true), (.int 181 0), (.ref 175), .none, (.ref 176), (.ref 177), (.ref 178), (.int 396 0), (.int 68 0), (zs "/claim/cut.py" 397)]), #[]⟩
noncomputable def ob180 (P : Params) : Obj := ⟨(.type "function"), none, (zf (st := (inS 9 0)) rfl "Name.__init__" 3 [] .none .none .none (zs "paperhold.objects" 375) none (.ref 179) .none 0), #[]⟩
noncomputable def ob181 (P : Params) : Obj := ⟨(.type "tuple"), none, (.seq #[(zs "text" 399)] 0), #[]⟩
noncomputable def ob182 (P : Params) : Obj := ⟨(.type "dict"), none, (.dict #[ze P "__module__" 386 (zs "paperhold.objects" 375), ze P "__firstlineno__" 390 (.int 66 389), ze P "__init__" 398 (.ref 180), ze P "__static_attributes__" 400 (.ref 181), ze P "__dict__" 402 (.ref 184), ze P "__weakref__" 404 (.ref 185), ze P "__doc__" 405 .none] 4), #[]⟩
noncomputable def ob183 (P : Params) : Obj := ⟨(.type "type"), none, (.cls ⟨Str.ofString "Name", [(.type "object")], [(.ref 183), (.type "object")], 182, Str.ofString "Name", true, [], [], false, none, false⟩), #[none, none, (some (zs "Name" 379)), (some (zs "Name" 387)), (some (.builtin "object.__new__")), (some (.bool true))]⟩
noncomputable def ob184 (P : Params) : Obj := ⟨(.type "getset_descriptor"), none, (.fields #[(zs "__dict__" 401), (.ref 183), (.builtin "function.__dict__"), (.builtin "function.__dict__#set")]), #[]⟩
noncomputable def ob185 (P : Params) : Obj := ⟨(.type "getset_descriptor"), none, (.fields #[(zs "__weakref__" 403), (.ref 183), (.builtin "ExceptionGroup.__weakref__"), .none]), #[]⟩
noncomputable def ob186 (P : Params) : Obj := ⟨(.type "super"), none, (.fields #[(.ref 183), (.ref 183), (.ref 183)]), #[]⟩
noncomputable def ob187 (P : Params) : Obj := ⟨(.type "builtin_function_or_method"), none, (.fields #[(.builtin "object.__init_subclass__"), (.ref 183)]), #[]⟩
noncomputable def ob188 (P : Params) : Obj := ⟨(.type "tuple"), none, (.seq #[] 0), #[]⟩
noncomputable def ob189 (P : Params) : Obj := ⟨(.type "builtin_function_or_method"), none, (.fields #[(.builtin "type.__prepare__"), (.type "type")]), #[]⟩
noncomputable def ob190 (P : Params) : Obj := ⟨(.type "dict"), none, (.dict #[ze P "__module__" 415 (zs "paperhold.objects" 375), ze P "__qualname__" 417 (zs "String" 416), ze P "__firstlineno__" 419 (.int 70 418), ze P "__init__" 428 (.ref 202), ze P "__static_attributes__" 431 (.ref 203)] 5), #[]⟩
noncomputable def ob191 (P : Params) : Obj := ⟨(.type "tuple"), none, (.seq #[] 0), #[]⟩
noncomputable def ob192 (P : Params) : Obj := ⟨.none, none, (.fields #[(.int 72 0), (.int 4 0), (.ref 201)]), #[]⟩
noncomputable def ob193 (P : Params) : Obj := ⟨(.type "code"), none, (.fields #[(zs "String" 410), (zs "String" 411), (zs "/claim/cut.py" 412), (.int 70 0), (.int 0 0), (.int 0 0), (.int 0 0), (.int 0 0), (.ref 191), (.bool false), (.int 181 0), (.ref 192), .none, .none, .none, .none, (.int 413 0), (.int 70 0), (zs "/claim/cut.py" 414)]), #[]⟩
noncomputable def ob194 (P : Params) : Obj := ⟨(.type "frame"), none, .plain, #[(some (.ref 193)), (some (.ref 3)), (some (.ref 190)), none, (some (zs "paperhold.objects" 375)), none, (some (.ref 0))]⟩
noncomputable def ob195 (P : Params) : Obj := ⟨(.type "tuple"), none, (.seq #[(.bool false)] 0), #[]⟩
noncomputable def ob196 (P : Params) : Obj := ⟨(.type "tuple"), none, (.seq #[] 0), #[]⟩
noncomputable def ob197 (P : Params) : Obj := ⟨.none, none, (.fields #[]), #[]⟩
noncomputable def ob198 (P : Params) : Obj := ⟨(.type "tuple"), none, (.seq #[(zs "self" 423), (zs "octets" 424), (zs "is_hex" 425)] 0), #[]⟩
noncomputable def ob199 (P : Params) : Obj := ⟨(.type "tuple"), none, (.seq #[] 0), #[]⟩
noncomputable def ob200 (P : Params) : Obj := ⟨.none, none, (zf (st := (inS 10 0)) rfl "String.__init__" 0 [] .none .none .none .none none .none .none 0), #[]⟩
noncomputable def ob201 (P : Params) : Obj := ⟨(.type "code"), none, (.fields #[(zs "__init__" 420), (zs "String.__init__" 421), (zs "/claim/cut.py" 422), (.int 72 0), (.int 3 0), (.int 0 0), (.int 0 0), (.int 3 0), (.ref 196), (.bool true), (.int 181 0), (.ref 197), .none, (.ref 198), (.ref 199), (.ref 200), (.int 426 0), (.int 72 0), (zs "/claim/cut.py" 427)]), #[]⟩
noncomputable def ob202 (P : Params) : Obj := ⟨(.type "function"), none, (zf (st := (inS 10 0)) rfl "String.__init__" 3 [] (.ref 195) .none .none (zs "paperhold.objects" 375) none (.ref 201) .none 0), #[]⟩
noncomputable def ob203 (P : Params) : Obj := ⟨(.type "tuple"), none, (.seq #[(zs "is_hex" 429), (zs "octets" 430)] 0), #[]⟩
noncomputable def ob204 (P : Params) : Obj := ⟨(.type "dict"), none, (.dict #[ze P "__module__" 415 (zs "paperhold.objects" 375), ze P "__firstlineno__" 419 (.int 70 418), ze P "__init__" 428 (.ref 202), ze P "__static_attributes__" 431 (.ref 203), ze P "__dict__" 433 (.ref 206), ze P "__weakref__" 435 (.ref 207), ze P "__doc__" 436 .none] 4), #[]⟩
noncomputable def ob205 (P : Params) : Obj := ⟨(.type "type"), none, (.cls ⟨Str.ofString "String", [(.type "object")], [(.ref 205), (.type "object")], 204, Str.ofString "String", true, [], [], false, none, false⟩), #[none, none, (some (zs "String" 408)), (some (zs "String" 416)), (some (.builtin "object.__new__")), (some (.bool true))]⟩
noncomputable def ob206 (P : Params) : Obj := ⟨(.type "getset_descriptor"), none, (.fields #[(zs "__dict__" 432), (.ref 205), (.builtin "function.__dict__"), (.builtin "function.__dict__#set")]), #[]⟩
noncomputable def ob207 (P : Params) : Obj := ⟨(.type "getset_descriptor"), none, (.fields #[(zs "__weakref__" 434), (.ref 205), (.builtin "ExceptionGroup.__weakref__"), .none]), #[]⟩
noncomputable def ob208 (P : Params) : Obj := ⟨(.type "super"), none, (.fields #[(.ref 205), (.ref 205), (.ref 205)]), #[]⟩
noncomputable def ob209 (P : Params) : Obj := ⟨(.type "builtin_function_or_method"), none, (.fields #[(.builtin "object.__init_subclass__"), (.ref 205)]), #[]⟩
noncomputable def ob210 (P : Params) : Obj := ⟨(.type "tuple"), none, (.seq #[] 0), #[]⟩
noncomputable def ob211 (P : Params) : Obj := ⟨(.type "builtin_function_or_method"), none, (.fields #[(.builtin "type.__prepare__"), (.type "type")]), #[]⟩
noncomputable def ob212 (P : Params) : Obj := ⟨(.type "dict"), none, (.dict #[ze P "__module__" 446 (zs "paperhold.objects" 375), ze P "__qualname__" 448 (zs "Stream" 447), ze P "__firstlineno__" 450 (.int 75 449), ze P "__init__" 459 (.ref 223), ze P "__static_attributes__" 462 (.ref 224)] 5), #[]⟩
noncomputable def ob213 (P : Params) : Obj := ⟨(.type "tuple"), none, (.seq #[] 0), #[]⟩
noncomputable def ob214 (P : Params) : Obj := ⟨.none, none, (.fields #[(.int 77 0), (.int 4 0), (.ref 222)]), #[]⟩
noncomputable def ob215 (P : Params) : Obj := ⟨(.type "code"), none, (.fields #[(zs "Stream" 441), (zs "Stream" 442), (zs "/claim/cut.py" 443), (.int 75 0), (.int 0 0), (.int 0 0), (.int 0 0), (.int 0 0), (.ref 213), (.bool false), (.int 181 0), (.ref 214), .none, .none, .none, .none, (.int 444 0), (.int 75 0), (zs "/claim/cut.py" 445)]), #[]⟩
noncomputable def ob216 (P : Params) : Obj := ⟨(.type "frame"), none, .plain, #[(some (.ref 215)), (some (.ref 3)), (some (.ref 212)), none, (some (zs "paperhold.objects" 375)), none, (some (.ref 0))]⟩
noncomputable def ob217 (P : Params) : Obj := ⟨(.type "tuple"), none, (.seq #[] 0), #[]⟩
noncomputable def ob218 (P : Params) : Obj := ⟨.none, none, (.fields #[]), #[]⟩
noncomputable def ob219 (P : Params) : Obj := ⟨(.type "tuple"), none, (.seq #[(zs "self" 454), (zs "head" 455), (zs "octets" 456)] 0), #[]⟩
noncomputable def ob220 (P : Params) : Obj := ⟨(.type "tuple"), none, (.seq #[] 0), #[]⟩
noncomputable def ob221 (P : Params) : Obj := ⟨.none, none, (zf (st := (inS 11 0)) rfl "Stream.__init__" 0 [] .none .none .none .none none .none .none 0), #[]⟩
noncomputable def ob222 (P : Params) : Obj := ⟨(.type "code"), none, (.fields #[(zs "__init__" 451), (zs "Stream.__init__" 452), (zs "/claim/cut.py" 453), (.int 77 0), (.int 3 0), (.int 0 0), (.int 0 0), (.int 3 0), (.ref 217), (.bool true), (.int 181 0), (.ref 218), .none, (.ref 219), (.ref 220), (.ref 221), (.int 457 0), (.int 77 0), (zs "/claim/cut.py" 458)]), #[]⟩
noncomputable def ob223 (P : Params) : Obj := ⟨(.type "function"), none, (zf (st := (inS 11 0)) rfl "Stream.__init__" 3 [] .none .none .none (zs "paperhold.objects" 375) none (.ref 222) .none 0), #[]⟩
noncomputable def ob224 (P : Params) : Obj := ⟨(.type "tuple"), none, (.seq #[(zs "head" 460), (zs "octets" 461)] 0), #[]⟩
noncomputable def ob225 (P : Params) : Obj := ⟨(.type "dict"), none, (.dict #[ze P "__module__" 446 (zs "paperhold.objects" 375), ze P "__firstlineno__" 450 (.int 75 449), ze P "__init__" 459 (.ref 223), ze P "__static_attributes__" 462 (.ref 224), ze P "__dict__" 464 (.ref 227), ze P "__weakref__" 466 (.ref 228), ze P "__doc__" 467 .none] 4), #[]⟩
noncomputable def ob226 (P : Params) : Obj := ⟨(.type "type"), none, (.cls ⟨Str.ofString "Stream", [(.type "object")], [(.ref 226), (.type "object")], 225, Str.ofString "Stream", true, [], [], false, none, false⟩), #[none, none, (some (zs "Stream" 439)), (some (zs "Stream" 447)), (some (.builtin "object.__new__")), (some (.bool true))]⟩
noncomputable def ob227 (P : Params) : Obj := ⟨(.type "getset_descriptor"), none, (.fields #[(zs "__dict__" 463), (.ref 226), (.builtin "function.__dict__"), (.builtin "function.__dict__#set")]), #[]⟩
noncomputable def ob228 (P : Params) : Obj := ⟨(.type "getset_descriptor"), none, (.fields #[(zs "__weakref__" 465), (.ref 226), (.builtin "ExceptionGroup.__weakref__"), .none]), #[]⟩
noncomputable def ob229 (P : Params) : Obj := ⟨(.type "super"), none, (.fields #[(.ref 226), (.ref 226), (.ref 226)]), #[]⟩
noncomputable def ob230 (P : Params) : Obj := ⟨(.type "builtin_function_or_method"), none, (.fields #[(.builtin "object.__init_subclass__"), (.ref 226)]), #[]⟩
noncomputable def ob231 (P : Params) : Obj := ⟨(.type "tuple"), none, (.seq #[] 0), #[]⟩
noncomputable def ob232 (P : Params) : Obj := ⟨(.type "builtin_function_or_method"), none, (.fields #[(.builtin "type.__prepare__"), (.type "type")]), #[]⟩
noncomputable def ob233 (P : Params) : Obj := ⟨(.type "dict"), none, (.dict #[ze P "__module__" 477 (zs "paperhold.objects" 375), ze P "__qualname__" 479 (zs "Reference" 478), ze P "__firstlineno__" 481 (.int 80 480), ze P "__init__" 490 (.ref 244), ze P "pair" 497 (.ref 251), ze P "__static_attributes__" 500 (.ref 252)] 6), #[]⟩
noncomputable def ob234 (P : Params) : Obj := ⟨(.type "tuple"), none, (.seq #[] 0), #[]⟩
noncomputable def ob235 (P : Params) : Obj := ⟨.none, none, (.fields #[(.int 82 0), (.int 4 0), (.ref 243), (.int 86 0), (.int 4 0), (.ref 250)]), #[]⟩
noncomputable def ob236 (P : Params) : Obj := ⟨(.type "code"), none, (.fields #[(zs "Reference" 472), (zs "Reference" 473), (zs "/claim/cut.py" 474), (.int 80 0), (.int 0 0), (.int 0 0), (.int 0 0), (.int 0 0), (.ref 234), (.bool false), (.int 181 0), (.ref 235), .none, .none, .none, .none, (.int 475 0), (.int 80 0), (zs "/claim/cut.py" 476)]), #[]⟩
noncomputable def ob237 (P : Params) : Obj := ⟨(.type "frame"), none, .plain, #[(some (.ref 236)), (some (.ref 3)), (some (.ref 233)), none, (some (zs "paperhold.objects" 375)), none, (some (.ref 0))]⟩
noncomputable def ob238 (P : Params) : Obj := ⟨(.type "tuple"), none, (.seq #[] 0), #[]⟩
noncomputable def ob239 (P : Params) : Obj := ⟨.none, none, (.fields #[]), #[]⟩
noncomputable def ob240 (P : Params) : Obj := ⟨(.type "tuple"), none, (.seq #[(zs "self" 485), (zs "number" 486), (zs "generation" 487)] 0), #[]⟩
noncomputable def ob241 (P : Params) : Obj := ⟨(.type "tuple"), none, (.seq #[] 0), #[]⟩
noncomputable def ob242 (P : Params) : Obj := ⟨.none, none, (zf (st := (inS 12 0)) rfl "Reference.__init__" 0 [] .none .none .none .none none .none .none 0), #[]⟩
noncomputable def ob243 (P : Params) : Obj := ⟨(.type "code"), none, (.fields #[(zs "__init__" 482), (zs "Reference.__init__" 483), (zs "/claim/cut.py" 484), (.int 82 0), (.int 3 0), (.int 0 0), (.int 0 0), (.int 3 0), (.ref 238), (.bool true), (.int 181 0), (.ref 239), .none, (.ref 240), (.ref 241), (.ref 242), (.int 488 0), (.int 82 0), (zs "/claim/cut.py" 489)]), #[]⟩
noncomputable def ob244 (P : Params) : Obj := ⟨(.type "function"), none, (zf (st := (inS 12 0)) rfl "Reference.__init__" 3 [] .none .none .none (zs "paperhold.objects" 375) none (.ref 243) .none 0), #[]⟩
noncomputable def ob245 (P : Params) : Obj := ⟨(.type "tuple"), none, (.seq #[] 0), #[]⟩
noncomputable def ob246 (P : Params) : Obj := ⟨.none, none, (.fields #[]), #[]⟩
noncomputable def ob247 (P : Params) : Obj := ⟨(.type "tuple"), none, (.seq #[(zs "self" 494)] 0), #[]⟩
noncomputable def ob248 (P : Params) : Obj := ⟨(.type "tuple"), none, (.seq #[] 0), #[]⟩
noncomputable def ob249 (P : Params) : Obj := ⟨.none, none, (zf (st := (inS 12 1)) rfl "Reference.pair" 0 [] .none .none .none .none none .none .none 0), #[]⟩
noncomputable def ob250 (P : Params) : Obj := ⟨(.type "code"), none, (.fields #[(zs "pair" 491), (zs "Reference.pair" 492), (zs "/claim/cut.py" 493), (.int 86 0), (.int 1 0), (.int 0 0), (.int 0 0), (.int 3 0), (.ref 245), (.bool true), (.int 181 0), (.ref 246), .none, (.ref 247), (.ref 248), (.ref 249), (.int 495 0), (.int 86 0), (zs "/claim/cut.py" 496)]), #[]⟩
noncomputable def ob251 (P : Params) : Obj := ⟨(.type "function"), none, (zf (st := (inS 12 1)) rfl "Reference.pair" 3 [] .none .none .none (zs "paperhold.objects" 375) none (.ref 250) .none 0), #[]⟩
noncomputable def ob252 (P : Params) : Obj := ⟨(.type "tuple"), none, (.seq #[(zs "generation" 498), (zs "number" 499)] 0), #[]⟩
noncomputable def ob253 (P : Params) : Obj := ⟨(.type "dict"), none, (.dict #[ze P "__module__" 477 (zs "paperhold.objects" 375), ze P "__firstlineno__" 481 (.int 80 480), ze P "__init__" 490 (.ref 244), ze P "pair" 497 (.ref 251), ze P "__static_attributes__" 500 (.ref 252), ze P "__dict__" 502 (.ref 255), ze P "__weakref__" 504 (.ref 256), ze P "__doc__" 505 .none] 4), #[]⟩
noncomputable def ob254 (P : Params) : Obj := ⟨(.type "type"), none, (.cls ⟨Str.ofString "Reference", [(.type "object")], [(.ref 254), (.type "object")], 253, Str.ofString "Reference", true, [], [], false, none, false⟩), #[none, none, (some (zs "Reference" 470)), (some (zs "Reference" 478)), (some (.builtin "object.__new__")), (some (.bool true))]⟩
noncomputable def ob255 (P : Params) : Obj := ⟨(.type "getset_descriptor"), none, (.fields #[(zs "__dict__" 501), (.ref 254), (.builtin "function.__dict__"), (.builtin "function.__dict__#set")]), #[]⟩
noncomputable def ob256 (P : Params) : Obj := ⟨(.type "getset_descriptor"), none, (.fields #[(zs "__weakref__" 503), (.ref 254), (.builtin "ExceptionGroup.__weakref__"), .none]), #[]⟩
noncomputable def ob257 (P : Params) : Obj := ⟨(.type "super"), none, (.fields #[(.ref 254), (.ref 254), (.ref 254)]), #[]⟩
noncomputable def ob258 (P : Params) : Obj := ⟨(.type "builtin_function_or_method"), none, (.fields #[(.builtin "object.__init_subclass__"), (.ref 254)]), #[]⟩
noncomputable def ob3_2 (P : Params) : Obj := ⟨(.type "dict"), none, (.dict #[ze P "__name__" 165 (zs "paperhold.objects" 375), ze P "__doc__" 166 .none, ze P "__package__" 167 .none, ze P "__loader__" 168 (.builtin "__main__.__loader__#opaque"), ze P "__spec__" 169 .none, ze P "__annotations__" 170 (.ref 6), ze P "__builtins__" 171 (.ref 4), ze P "__file__" 173 (zs "/claim/cut.py" 172), ze P "__cached__" 174 .none, ze P "_wall" 193 (.ref 21), ze P "PaperError" 235 (.ref 46), ze P "CrossFault" 251 (.ref 59), ze P "Decimal" 367 (.ref 155), ze P "sign_text" 374 (.ref 166), ze P "MOST_HOPS" 378 (.int 30 377), ze P "Name" 407 (.ref 183), ze P "String" 438 (.ref 205), ze P "Stream" 469 (.ref 226), ze P "Reference" 507 (.ref 254), ze P "kind_of" 514 (.ref 265), ze P "told_plain" 522 (.ref 272), ze P "told" 528 (.ref 277), ze P "told_objects" 529 (.ref 277), ze P "Lookup" 581 (.ref 309)] 24), #[]⟩
noncomputable def ob12_3 (P : Params) : Obj := ⟨.none, none, (.fields #[(.int 1 0), (.int 0 0), (.ref 20), (.int 5 0), (.int 0 0), (.ref 27), (.int 14 0), (.int 0 0), (.ref 55), (.int 17 0), (.int 0 0), (.ref 67), (.int 62 0), (.int 0 0), (.ref 165), (.int 66 0), (.int 0 0), (.ref 172), (.int 70 0), (.int 0 0), (.ref 193), (.int 75 0), (.int 0 0), (.ref 215), (.int 80 0), (.int 0 0), (.ref 236), (.int 88 0), (.int 0 0), (.ref 264), (.int 110 0), (.int 0 0), (.ref 271), (.int 124 0), (.int 0 0), (.ref 276), (.int 134 0), (.int 0 0), (.ref 283)]), #[]⟩
noncomputable def ob259 (P : Params) : Obj := ⟨(.type "tuple"), none, (.seq #[] 0), #[]⟩
noncomputable def ob260 (P : Params) : Obj := ⟨.none, none, (.fields #[]), #[]⟩
noncomputable def ob261 (P : Params) : Obj := ⟨(.type "tuple"), none, (.seq #[(zs "value" 511)] 0), #[]⟩
noncomputable def ob262 (P : Params) : Obj := ⟨(.type "tuple"), none, (.seq #[] 0), #[]⟩
noncomputable def ob263 (P : Params) : Obj := ⟨.none, none, (zf (st := (topS 13)) rfl "kind_of" 0 [] .none .none .none .none none .none .none 0), #[]⟩
noncomputable def ob264 (P : Params) : Obj := ⟨(.type "code"), none, (.fields #[(zs "kind_of" 508), (zs "kind_of" 509), (zs "/claim/cut.py" 510), (.int 88 0), (.int 1 0), (.int 0 0), (.int 0 0), (.int 3 0), (.ref 259), (.bool true), (.int 181 0), (.ref 260), .none, (.ref 261), (.ref 262), (.ref 263), (.int 512 0), (.int 88 0), (zs "/claim/cut.py" 513)]), #[]⟩
noncomputable def ob265 (P : Params) : Obj := ⟨(.type "function"), none, (zf (st := (topS 13)) rfl "kind_of" 3 [] .none .none .none (zs "paperhold.objects" 375) none (.ref 264) .none 0), #[]⟩
noncomputable def ob266 (P : Params) : Obj := ⟨(.type "tuple"), none, (.seq #[] 0), #[]⟩
noncomputable def ob267 (P : Params) : Obj := ⟨.none, none, (.fields #[]), #[]⟩
noncomputable def ob268 (P : Params) : Obj := ⟨(.type "tuple"), none, (.seq #[(zs "kind" 518), (zs "value" 519)] 0), #[]⟩
noncomputable def ob269 (P : Params) : Obj := ⟨(.type "tuple"), none, (.seq #[] 0), #[]⟩
noncomputable def ob270 (P : Params) : Obj := ⟨.none, none, (zf (st := (topS 14)) rfl "told_plain" 0 [] .none .none .none .none none .none .none 0), #[]⟩
noncomputable def ob271 (P : Params) : Obj := ⟨(.type "code"), none, (.fields #[(zs "told_plain" 515), (zs "told_plain" 516), (zs "/claim/cut.py" 517), (.int 110 0), (.int 2 0), (.int 0 0), (.int 0 0), (.int 3 0), (.ref 266), (.bool true), (.int 181 0), (.ref 267), .none, (.ref 268), (.ref 269), (.ref 270), (.int 520 0), (.int 110 0), (zs "/claim/cut.py" 521)]), #[]⟩
noncomputable def ob272 (P : Params) : Obj := ⟨(.type "function"), none, (zf (st := (topS 14)) rfl "told_plain" 3 [] .none .none .none (zs "paperhold.objects" 375) none (.ref 271) .none 0), #[]⟩
noncomputable def ob273 (P : Params) : Obj := ⟨(.type "tuple"), none, (.seq #[] 0), #[]⟩
noncomputable def ob274 (P : Params) : Obj := ⟨.none, none, (.fields #[]), #[]⟩
noncomputable def ob275 (P : Params) : Obj := ⟨.none, none, (zf (st := (topS 15)) rfl "told" 0 [] .none .none .none .none none .none .none 0), #[]⟩
noncomputable def ob276 (P : Params) : Obj := ⟨(.type "code"), none, (.fields #[(zs "told" 523), (zs "told" 524), (zs "/claim/cut.py" 525), (.int 124 0), (.int 1 0), (.int 0 0), (.int 0 0), (.int 3 0), (.ref 273), (.bool true), (.int 181 0), (.ref 274), .none, .none, .none, (.ref 275), (.int 526 0), (.int 124 0), (zs "/claim/cut.py" 527)]), #[]⟩
noncomputable def ob277 (P : Params) : Obj := ⟨(.type "function"), none, (zf (st := (topS 15)) rfl "told" 3 [] .none .none .none (zs "paperhold.objects" 375) none (.ref 276) .none 0), #[]⟩
noncomputable def ob278 (P : Params) : Obj := ⟨(.type "tuple"), none, (.seq #[] 0), #[]⟩
noncomputable def ob279 (P : Params) : Obj := ⟨(.type "builtin_function_or_method"), none, (.fields #[(.builtin "type.__prepare__"), (.type "type")]), #[]⟩
noncomputable def ob280 (P : Params) : Obj := ⟨(.type "dict"), none, (.dict #[ze P "__module__" 537 (zs "paperhold.objects" 375), ze P "__qualname__" 539 (zs "Lookup" 538), ze P "__firstlineno__" 541 (.int 134 540), ze P "__init__" 550 (.ref 292), ze P "fetch" 562 (.ref 299), ze P "get" 571 (.ref 306), ze P "__static_attributes__" 574 (.ref 307)] 7), #[]⟩
noncomputable def ob281 (P : Params) : Obj := ⟨(.type "tuple"), none, (.seq #[] 0), #[]⟩
noncomputable def ob282 (P : Params) : Obj := ⟨.none, none, (.fields #[(.int 136 0), (.int 4 0), (.ref 291), (.int 140 0), (.int 4 0), (.ref 298), (.int 151 0), (.int 4 0), (.ref 305)]), #[]⟩
noncomputable def ob283 (P : Params) : Obj := ⟨(.type "code"), none, (.fields #[(zs "Lookup" 532), (zs "Lookup" 533), (zs "/claim/cut.py" 534), (.int 134 0), (.int 0 0), (.int 0 0), (.int 0 0), (.int 0 0), (.ref 281), (.bool false), (.int 181 0), (.ref 282), .none, .none, .none, .none, (.int 535 0), (.int 134 0), (zs "/claim/cut.py" 536)]), #[]⟩
noncomputable def ob284 (P : Params) : Obj := ⟨(.type "frame"), none, .plain, #[(some (.ref 283)), (some (.ref 3)), (some (.ref 280)), none, (some (zs "paperhold.objects" 375)), none, (some (.ref 0))]⟩
noncomputable def ob285 (P : Params) : Obj := ⟨(.type "tuple"), none, (.seq #[.none, .none] 0), #[]⟩
noncomputable def ob286 (P : Params) : Obj := ⟨(.type "tuple"), none, (.seq #[] 0), #[]⟩
noncomputable def ob287 (P : Params) : Obj := ⟨.none, none, (.fields #[]), #[]⟩
noncomputable def ob288 (P : Params) : Obj := ⟨(.type "tuple"), none, (.seq #[(zs "self" 545), (zs "table" 546), (zs "trailer" 547)] 0), #[]⟩
noncomputable def ob289 (P : Params) : Obj := ⟨(.type "tuple"), none, (.seq #[] 0), #[]⟩
noncomputable def ob290 (P : Params) : Obj := ⟨.none, none, (zf (st := (inS 17 0)) rfl "Lookup.__init__" 0 [] .none .none .none .none none .none .none 0), #[]⟩
noncomputable def ob291 (P : Params) : Obj := ⟨(.type "code"), none, (.fields #[(zs "__init__" 542), (zs "Lookup.__init__" 543), (zs "/claim/cut.py" 544), (.int 136 0), (.int 3 0), (.int 0 0), (.int 0 0), (.int 3 0), (.ref 286), (.bool true), (.int 181 0), (.ref 287), .none, (.ref 288), (.ref 289), (.ref 290), (.int 548 0), (.int 136 0), (zs "/claim/cut.py" 549)]), #[]⟩
noncomputable def ob292 (P : Params) : Obj := ⟨(.type "function"), none, (zf (st := (inS 17 0)) rfl "Lookup.__init__" 3 [] (.ref 285) .none .none (zs "paperhold.objects" 375) none (.ref 291) .none 0), #[]⟩
noncomputable def ob293 (P : Params) : Obj := ⟨(.type "tuple"), none, (.seq #[] 0), #[]⟩
noncomputable def ob294 (P : Params) : Obj := ⟨.none, none, (.fields #[]), #[]⟩
noncomputable def ob295 (P : Params) : Obj := ⟨(.type "tuple"), none, (.seq #[(zs "self" 554), (zs "value" 555), (zs "here" 556), (zs "hop" 557), (zs "generation" 558), (zs "found" 559)] 0), #[]⟩
noncomputable def ob296 (P : Params) : Obj := ⟨(.type "tuple"), none, (.seq #[] 0), #[]⟩
noncomputable def ob297 (P : Params) : Obj := ⟨.none, none, (zf (st := (inS 17 1)) rfl "Lookup.fetch" 0 [] .none .none .none .none none .none .none 0), #[]⟩
noncomputable def ob298 (P : Params) : Obj := ⟨(.type "code"), none, (.fields #[(zs "fetch" 551), (zs "Lookup.fetch" 552), (zs "/claim/cut.py" 553), (.int 140 0), (.int 2 0), (.int 0 0), (.int 0 0), (.int 3 0), (.ref 293), (.bool true), (.int 181 0), (.ref 294), .none, (.ref 295), (.ref 296), (.ref 297), (.int 560 0), (.int 140 0), (zs "/claim/cut.py" 561)]), #[]⟩
noncomputable def ob299 (P : Params) : Obj := ⟨(.type "function"), none, (zf (st := (inS 17 1)) rfl "Lookup.fetch" 3 [] .none .none .none (zs "paperhold.objects" 375) none (.ref 298) .none 0), #[]⟩
noncomputable def ob300 (P : Params) : Obj := ⟨(.type "tuple"), none, (.seq #[] 0), #[]⟩
noncomputable def ob301 (P : Params) : Obj := ⟨.none, none, (.fields #[]), #[]⟩
noncomputable def ob302 (P : Params) : Obj := ⟨(.type "tuple"), none, (.seq #[(zs "self" 566), (zs "head" 567), (zs "key" 568)] 0), #[]⟩
noncomputable def ob303 (P : Params) : Obj := ⟨(.type "tuple"), none, (.seq #[] 0), #[]⟩
noncomputable def ob304 (P : Params) : Obj := ⟨.none, none, (zf (st := (inS 17 2)) rfl "Lookup.get" 0 [] .none .none .none .none none .none .none 0), #[]⟩
noncomputable def ob305 (P : Params) : Obj := ⟨(.type "code"), none, (.fields #[(zs "get" 563), (zs "Lookup.get" 564), (zs "/claim/cut.py" 565), (.int 151 0), (.int 3 0), (.int 0 0), (.int 0 0), (.int 3 0), (.ref 300), (.bool true), (.int 181 0), (.ref 301), .none, (.ref 302), (.ref 303), (.ref 304), (.int 569 0), (.int 151 0), (zs "/claim/cut.py" 570)]), #[]⟩
noncomputable def ob306 (P : Params) : Obj := ⟨(.type "function"), none, (zf (st := (inS 17 2)) rfl "Lookup.get" 3 [] .none .none .none (zs "paperhold.objects" 375) none (.ref 305) .none 0), #[]⟩
noncomputable def ob307 (P : Params) : Obj := ⟨(.type "tuple"), none, (.seq #[(zs "table" 572), (zs "trailer" 573)] 0), #[]⟩
noncomputable def ob308 (P : Params) : Obj := ⟨(.type "dict"), none, (.dict #[ze P "__module__" 537 (zs "paperhold.objects" 375), ze P "__firstlineno__" 541 (.int 134 540), ze P "__init__" 550 (.ref 292), ze P "fetch" 562 (.ref 299), ze P "get" 571 (.ref 306), ze P "__static_attributes__" 574 (.ref 307), ze P "__dict__" 576 (.ref 310), ze P "__weakref__" 578 (.ref 311), ze P "__doc__" 579 .none] 4), #[]⟩
noncomputable def ob309 (P : Params) : Obj := ⟨(.type "type"), none, (.cls ⟨Str.ofString "Lookup", [(.type "object")], [(.ref 309), (.type "object")], 308, Str.ofString "Lookup", true, [], [], false, none, false⟩), #[none, none, (some (zs "Lookup" 530)), (some (zs "Lookup" 538)), (some (.builtin "object.__new__")), (some (.bool true))]⟩
noncomputable def ob310 (P : Params) : Obj := ⟨(.type "getset_descriptor"), none, (.fields #[(zs "__dict__" 575), (.ref 309), (.builtin "function.__dict__"), (.builtin "function.__dict__#set")]), #[]⟩
noncomputable def ob311 (P : Params) : Obj := ⟨(.type "getset_descriptor"), none, (.fields #[(zs "__weakref__" 577), (.ref 309), (.builtin "ExceptionGroup.__weakref__"), .none]), #[]⟩
noncomputable def ob312 (P : Params) : Obj := ⟨(.type "super"), none, (.fields #[(.ref 309), (.ref 309), (.ref 309)]), #[]⟩
noncomputable def ob313 (P : Params) : Obj := ⟨(.type "builtin_function_or_method"), none, (.fields #[(.builtin "object.__init_subclass__"), (.ref 309)]), #[]⟩
noncomputable def ob3_3 (P : Params) : Obj := ⟨(.type "dict"), none, (.dict #[ze P "__name__" 165 (zs "paperhold.packed" 644), ze P "__doc__" 166 .none, ze P "__package__" 167 .none, ze P "__loader__" 168 (.builtin "__main__.__loader__#opaque"), ze P "__spec__" 169 .none, ze P "__annotations__" 170 (.ref 6), ze P "__builtins__" 171 (.ref 4), ze P "__file__" 173 (zs "/claim/cut.py" 172), ze P "__cached__" 174 .none, ze P "_wall" 193 (.ref 21), ze P "PaperError" 235 (.ref 46), ze P "CrossFault" 251 (.ref 59), ze P "Decimal" 367 (.ref 155), ze P "sign_text" 374 (.ref 166), ze P "MOST_HOPS" 378 (.int 30 377), ze P "Name" 407 (.ref 183), ze P "String" 438 (.ref 205), ze P "Stream" 469 (.ref 226), ze P "Reference" 507 (.ref 254), ze P "kind_of" 514 (.ref 265), ze P "told_plain" 522 (.ref 272), ze P "told" 528 (.ref 277), ze P "told_objects" 529 (.ref 277), ze P "Lookup" 581 (.ref 309), ze P "Shelf" 643 (.ref 363), ze P "MOST_STREAMS" 647 (.int 60 646), ze P "is_object_stream" 656 (.ref 372), ze P "extends_chain" 662 (.ref 377), ze P "read_chain" 675 (.ref 384)] 29), #[]⟩
noncomputable def ob12_4 (P : Params) : Obj := ⟨.none, none, (.fields #[(.int 1 0), (.int 0 0), (.ref 20), (.int 5 0), (.int 0 0), (.ref 27), (.int 14 0), (.int 0 0), (.ref 55), (.int 17 0), (.int 0 0), (.ref 67), (.int 62 0), (.int 0 0), (.ref 165), (.int 66 0), (.int 0 0), (.ref 172), (.int 70 0), (.int 0 0), (.ref 193), (.int 75 0), (.int 0 0), (.ref 215), (.int 80 0), (.int 0 0), (.ref 236), (.int 88 0), (.int 0 0), (.ref 264), (.int 110 0), (.int 0 0), (.ref 271), (.int 124 0), (.int 0 0), (.ref 276), (.int 134 0), (.int 0 0), (.ref 283), (.int 153 0), (.int 0 0), (.ref 319), (.int 175 0), (.int 0 0), (.ref 371), (.int 180 0), (.int 0 0), (.ref 376), (.int 191 0), (.int 0 0), (.ref 383)]), #[]⟩
noncomputable def ob309_1 (P : Params) : Obj := ⟨(.type "type"), none, (.cls ⟨Str.ofString "Lookup", [(.type "object")], [(.ref 309), (.type "object")], 308, Str.ofString "Lookup", true, [], [(.ref 363)], false, none, false⟩), #[none, none, (some (zs "Lookup" 530)), (some (zs "Lookup" 538)), (some (.builtin "object.__new__")), (some (.bool true))]⟩
noncomputable def ob314 (P : Params) : Obj := ⟨(.type "tuple"), none, (.seq #[(.ref 309)] 0), #[]⟩
noncomputable def ob315 (P : Params) : Obj := ⟨(.type "builtin_function_or_method"), none, (.fields #[(.builtin "type.__prepare__"), (.type "type")]), #[]⟩
noncomputable def ob316 (P : Params) : Obj := ⟨(.type "dict"), none, (.dict #[ze P "__module__" 589 (zs "paperhold.objects" 375), ze P "__qualname__" 591 (zs "Shelf" 590), ze P "__firstlineno__" 593 (.int 153 592), ze P "put" 603 (.ref 327), ze P "add" 611 (.ref 334), ze P "drop" 619 (.ref 341), ze P "numbers" 626 (.ref 348), ze P "root" 633 (.ref 355), ze P "told" 639 (.ref 360), ze P "__static_attributes__" 640 (.ref 361)] 10), #[]⟩
noncomputable def ob317 (P : Params) : Obj := ⟨(.type "tuple"), none, (.seq #[] 0), #[]⟩
noncomputable def ob318 (P : Params) : Obj := ⟨.none, none, (.fields #[(.int 155 0), (.int 4 0), (.ref 326), (.int 158 0), (.int 4 0), (.ref 333), (.int 161 0), (.int 4 0), (.ref 340), (.int 164 0), (.int 4 0), (.ref 347), (.int 167 0), (.int 4 0), (.ref 354), (.int 170 0), (.int 4 0), (.ref 359)]), #[]⟩
noncomputable def ob319 (P : Params) : Obj := ⟨(.type "code"), none, (.fields #[(zs "Shelf" 584), (zs "Shelf" 585), (zs "/claim/cut.py" 586), (.int 153 0), (.int 0 0), (.int 0 0), (.int 0 0), (.int 0 0), (.ref 317), (.bool false), (.int 181 0), (.ref 318), .none, .none, .none, .none, (.int 587 0), (.int 153 0), (zs "/claim/cut.py" 588)]), #[]⟩
noncomputable def ob320 (P : Params) : Obj := ⟨(.type "frame"), none, .plain, #[(some (.ref 319)), (some (.ref 3)), (some (.ref 316)), none, (some (zs "paperhold.objects" 375)), none, (some (.ref 0))]⟩
noncomputable def ob321 (P : Params) : Obj := ⟨(.type "tuple"), none, (.seq #[] 0), #[]⟩
noncomputable def ob322 (P : Params) : Obj := ⟨.none, none, (.fields #[]), #[]⟩
noncomputable def ob323 (P : Params) : Obj := ⟨(.type "tuple"), none, (.seq #[(zs "self" 597), (zs "number" 598), (zs "generation" 599), (zs "value" 600)] 0), #[]⟩
noncomputable def ob324 (P : Params) : Obj := ⟨(.type "tuple"), none, (.seq #[] 0), #[]⟩
noncomputable def ob325 (P : Params) : Obj := ⟨.none, none, (zf (st := (inS 18 0)) rfl "Shelf.put" 0 [] .none .none .none .none none .none .none 0), #[]⟩
noncomputable def ob326 (P : Params) : Obj := ⟨(.type "code"), none, (.fields #[(zs "put" 594), (zs "Shelf.put" 595), (zs "/claim/cut.py" 596), (.int 155 0), (.int 4 0), (.int 0 0), (.int 0 0), (.int 3 0), (.ref 321), (.bool true), (.int 181 0), (.ref 322), .none, (.ref 323), (.ref 324), (.ref 325), (.int 601 0), (.int 155 0), (zs "/claim/cut.py" 602)]), #[]⟩
noncomputable def ob327 (P : Params) : Obj := ⟨(.type "function"), none, (zf (st := (inS 18 0)) rfl "Shelf.put" 3 [] .none .none .none (zs "paperhold.objects" 375) none (.ref 326) .none 0), #[]⟩
noncomputable def ob328 (P : Params) : Obj := ⟨(.type "tuple"), none, (.seq #[] 0), #[]⟩
noncomputable def ob329 (P : Params) : Obj := ⟨.none, none, (.fields #[]), #[]⟩
noncomputable def ob330 (P : Params) : Obj := ⟨(.type "tuple"), none, (.seq #[(zs "self" 607), (zs "value" 608)] 0), #[]⟩
noncomputable def ob331 (P : Params) : Obj := ⟨(.type "tuple"), none, (.seq #[] 0), #[]⟩
noncomputable def ob332 (P : Params) : Obj := ⟨.none, none, (zf (st := (inS 18 1)) rfl "Shelf.add" 0 [] .none .none .none .none none .none .none 0), #[]⟩
noncomputable def ob333 (P : Params) : Obj := ⟨(.type "code"), none, (.fields #[(zs "add" 604), (zs "Shelf.add" 605), (zs "/claim/cut.py" 606), (.int 158 0), (.int 2 0), (.int 0 0), (.int 0 0), (.int 3 0), (.ref 328), (.bool true), (.int 181 0), (.ref 329), .none, (.ref 330), (.ref 331), (.ref 332), (.int 609 0), (.int 158 0), (zs "/claim/cut.py" 610)]), #[]⟩
noncomputable def ob334 (P : Params) : Obj := ⟨(.type "function"), none, (zf (st := (inS 18 1)) rfl "Shelf.add" 3 [] .none .none .none (zs "paperhold.objects" 375) none (.ref 333) .none 0), #[]⟩
noncomputable def ob335 (P : Params) : Obj := ⟨(.type "tuple"), none, (.seq #[] 0), #[]⟩
noncomputable def ob336 (P : Params) : Obj := ⟨.none, none, (.fields #[]), #[]⟩
noncomputable def ob337 (P : Params) : Obj := ⟨(.type "tuple"), none, (.seq #[(zs "self" 615), (zs "number" 616)] 0), #[]⟩
noncomputable def ob338 (P : Params) : Obj := ⟨(.type "tuple"), none, (.seq #[] 0), #[]⟩
noncomputable def ob339 (P : Params) : Obj := ⟨.none, none, (zf (st := (inS 18 2)) rfl "Shelf.drop" 0 [] .none .none .none .none none .none .none 0), #[]⟩
noncomputable def ob340 (P : Params) : Obj := ⟨(.type "code"), none, (.fields #[(zs "drop" 612), (zs "Shelf.drop" 613), (zs "/claim/cut.py" 614), (.int 161 0), (.int 2 0), (.int 0 0), (.int 0 0), (.int 3 0), (.ref 335), (.bool true), (.int 181 0), (.ref 336), .none, (.ref 337), (.ref 338), (.ref 339), (.int 617 0), (.int 161 0), (zs "/claim/cut.py" 618)]), #[]⟩
noncomputable def ob341 (P : Params) : Obj := ⟨(.type "function"), none, (zf (st := (inS 18 2)) rfl "Shelf.drop" 3 [] .none .none .none (zs "paperhold.objects" 375) none (.ref 340) .none 0), #[]⟩
noncomputable def ob342 (P : Params) : Obj := ⟨(.type "tuple"), none, (.seq #[] 0), #[]⟩
noncomputable def ob343 (P : Params) : Obj := ⟨.none, none, (.fields #[]), #[]⟩
noncomputable def ob344 (P : Params) : Obj := ⟨(.type "tuple"), none, (.seq #[(zs "self" 623)] 0), #[]⟩
noncomputable def ob345 (P : Params) : Obj := ⟨(.type "tuple"), none, (.seq #[] 0), #[]⟩
noncomputable def ob346 (P : Params) : Obj := ⟨.none, none, (zf (st := (inS 18 3)) rfl "Shelf.numbers" 0 [] .none .none .none .none none .none .none 0), #[]⟩
noncomputable def ob347 (P : Params) : Obj := ⟨(.type "code"), none, (.fields #[(zs "numbers" 620), (zs "Shelf.numbers" 621), (zs "/claim/cut.py" 622), (.int 164 0), (.int 1 0), (.int 0 0), (.int 0 0), (.int 3 0), (.ref 342), (.bool true), (.int 181 0), (.ref 343), .none, (.ref 344), (.ref 345), (.ref 346), (.int 624 0), (.int 164 0), (zs "/claim/cut.py" 625)]), #[]⟩
noncomputable def ob348 (P : Params) : Obj := ⟨(.type "function"), none, (zf (st := (inS 18 3)) rfl "Shelf.numbers" 3 [] .none .none .none (zs "paperhold.objects" 375) none (.ref 347) .none 0), #[]⟩
noncomputable def ob349 (P : Params) : Obj := ⟨(.type "tuple"), none, (.seq #[] 0), #[]⟩
noncomputable def ob350 (P : Params) : Obj := ⟨.none, none, (.fields #[]), #[]⟩
noncomputable def ob351 (P : Params) : Obj := ⟨(.type "tuple"), none, (.seq #[(zs "self" 630)] 0), #[]⟩
noncomputable def ob352 (P : Params) : Obj := ⟨(.type "tuple"), none, (.seq #[] 0), #[]⟩
noncomputable def ob353 (P : Params) : Obj := ⟨.none, none, (zf (st := (inS 18 4)) rfl "Shelf.root" 0 [] .none .none .none .none none .none .none 0), #[]⟩
noncomputable def ob354 (P : Params) : Obj := ⟨(.type "code"), none, (.fields #[(zs "root" 627), (zs "Shelf.root" 628), (zs "/claim/cut.py" 629), (.int 167 0), (.int 1 0), (.int 0 0), (.int 0 0), (.int 3 0), (.ref 349), (.bool true), (.int 181 0), (.ref 350), .none, (.ref 351), (.ref 352), (.ref 353), (.int 631 0), (.int 167 0), (zs "/claim/cut.py" 632)]), #[]⟩
noncomputable def ob355 (P : Params) : Obj := ⟨(.type "function"), none, (zf (st := (inS 18 4)) rfl "Shelf.root" 3 [] .none .none .none (zs "paperhold.objects" 375) none (.ref 354) .none 0), #[]⟩
noncomputable def ob356 (P : Params) : Obj := ⟨(.type "tuple"), none, (.seq #[] 0), #[]⟩
noncomputable def ob357 (P : Params) : Obj := ⟨.none, none, (.fields #[]), #[]⟩
noncomputable def ob358 (P : Params) : Obj := ⟨.none, none, (zf (st := (inS 18 5)) rfl "Shelf.told" 0 [] .none .none .none .none none .none .none 0), #[]⟩
noncomputable def ob359 (P : Params) : Obj := ⟨(.type "code"), none, (.fields #[(zs "told" 634), (zs "Shelf.told" 635), (zs "/claim/cut.py" 636), (.int 170 0), (.int 1 0), (.int 0 0), (.int 0 0), (.int 3 0), (.ref 356), (.bool true), (.int 181 0), (.ref 357), .none, .none, .none, (.ref 358), (.int 637 0), (.int 170 0), (zs "/claim/cut.py" 638)]), #[]⟩
noncomputable def ob360 (P : Params) : Obj := ⟨(.type "function"), none, (zf (st := (inS 18 5)) rfl "Shelf.told" 3 [] .none .none .none (zs "paperhold.objects" 375) none (.ref 359) .none 0), #[]⟩
noncomputable def ob361 (P : Params) : Obj := ⟨(.type "tuple"), none, (.seq #[] 0), #[]⟩
noncomputable def ob362 (P : Params) : Obj := ⟨(.type "dict"), none, (.dict #[ze P "__module__" 589 (zs "paperhold.objects" 375), ze P "__firstlineno__" 593 (.int 153 592), ze P "put" 603 (.ref 327), ze P "add" 611 (.ref 334), ze P "drop" 619 (.ref 341), ze P "numbers" 626 (.ref 348), ze P "root" 633 (.ref 355), ze P "told" 639 (.ref 360), ze P "__static_attributes__" 640 (.ref 361), ze P "__doc__" 641 .none] 2), #[]⟩
noncomputable def ob363 (P : Params) : Obj := ⟨(.type "type"), none, (.cls ⟨Str.ofString "Shelf", [(.ref 309)], [(.ref 363), (.ref 309), (.type "object")], 362, Str.ofString "Shelf", true, [], [], false, none, false⟩), #[(some (.ref 314)), none, (some (zs "Shelf" 582)), (some (zs "Shelf" 590)), (some (.builtin "object.__new__")), (some (.bool true))]⟩
noncomputable def ob364 (P : Params) : Obj := ⟨(.type "super"), none, (.fields #[(.ref 363), (.ref 363), (.ref 363)]), #[]⟩
noncomputable def ob365 (P : Params) : Obj := ⟨(.type "builtin_function_or_method"), none, (.fields #[(.builtin "object.__init_subclass__"), (.ref 363)]), #[]⟩
noncomputable def ob366 (P : Params) : Obj := ⟨(.type "tuple"), none, (.seq #[] 0), #[]⟩
noncomputable def ob367 (P : Params) : Obj := ⟨.none, none, (.fields #[]), #[]⟩
noncomputable def ob368 (P : Params) : Obj := ⟨(.type "tuple"), none, (.seq #[(zs "shelf" 651), (zs "value" 652), (zs "word" 653)] 0), #[]⟩
noncomputable def ob369 (P : Params) : Obj := ⟨(.type "tuple"), none, (.seq #[] 0), #[]⟩
noncomputable def ob370 (P : Params) : Obj := ⟨.none, none, (zf (st := (topS 21)) rfl "is_object_stream" 0 [] .none .none .none .none none .none .none 0), #[]⟩
noncomputable def ob371 (P : Params) : Obj := ⟨(.type "code"), none, (.fields #[(zs "is_object_stream" 648), (zs "is_object_stream" 649), (zs "/claim/cut.py" 650), (.int 175 0), (.int 2 0), (.int 0 0), (.int 0 0), (.int 3 0), (.ref 366), (.bool true), (.int 181 0), (.ref 367), .none, (.ref 368), (.ref 369), (.ref 370), (.int 654 0), (.int 175 0), (zs "/claim/cut.py" 655)]), #[]⟩
noncomputable def ob372 (P : Params) : Obj := ⟨(.type "function"), none, (zf (st := (topS 21)) rfl "is_object_stream" 3 [] .none .none .none (zs "paperhold.packed" 644) none (.ref 371) .none 0), #[]⟩
noncomputable def ob373 (P : Params) : Obj := ⟨(.type "tuple"), none, (.seq #[] 0), #[]⟩
noncomputable def ob374 (P : Params) : Obj := ⟨.none, none, (.fields #[]), #[]⟩
noncomputable def ob375 (P : Params) : Obj := ⟨.none, none, (zf (st := (topS 22)) rfl "extends_chain" 0 [] .none .none .none .none none .none .none 0), #[]⟩
noncomputable def ob376 (P : Params) : Obj := ⟨(.type "code"), none, (.fields #[(zs "extends_chain" 657), (zs "extends_chain" 658), (zs "/claim/cut.py" 659), (.int 180 0), (.int 2 0), (.int 0 0), (.int 0 0), (.int 3 0), (.ref 373), (.bool true), (.int 181 0), (.ref 374), .none, .none, .none, (.ref 375), (.int 660 0), (.int 180 0), (zs "/claim/cut.py" 661)]), #[]⟩
noncomputable def ob377 (P : Params) : Obj := ⟨(.type "function"), none, (zf (st := (topS 22)) rfl "extends_chain" 3 [] .none .none .none (zs "paperhold.packed" 644) none (.ref 376) .none 0), #[]⟩
noncomputable def ob378 (P : Params) : Obj := ⟨(.type "tuple"), none, (.seq #[] 0), #[]⟩
noncomputable def ob379 (P : Params) : Obj := ⟨.none, none, (.fields #[]), #[]⟩
noncomputable def ob380 (P : Params) : Obj := ⟨(.type "tuple"), none, (.seq #[(zs "shelf" 666), (zs "reference" 667), (zs "read" 668), (zs "found" 669), (zs "one" 670), (zs "number" 671), (zs "value" 672)] 0), #[]⟩
noncomputable def ob381 (P : Params) : Obj := ⟨(.type "tuple"), none, (.seq #[] 0), #[]⟩
noncomputable def ob382 (P : Params) : Obj := ⟨.none, none, (zf (st := (topS 23)) rfl "read_chain" 0 [] .none .none .none .none none .none .none 0), #[]⟩
noncomputable def ob383 (P : Params) : Obj := ⟨(.type "code"), none, (.fields #[(zs "read_chain" 663), (zs "read_chain" 664), (zs "/claim/cut.py" 665), (.int 191 0), (.int 3 0), (.int 0 0), (.int 0 0), (.int 3 0), (.ref 378), (.bool true), (.int 181 0), (.ref 379), .none, (.ref 380), (.ref 381), (.ref 382), (.int 673 0), (.int 191 0), (zs "/claim/cut.py" 674)]), #[]⟩
noncomputable def ob384 (P : Params) : Obj := ⟨(.type "function"), none, (zf (st := (topS 23)) rfl "read_chain" 3 [] .none .none .none (zs "paperhold.packed" 644) none (.ref 383) .none 0), #[]⟩
noncomputable def ob3_4 (P : Params) : Obj := ⟨(.type "dict"), none, (.dict #[ze P "__name__" 165 (zs "law_og0165_01" 676), ze P "__doc__" 166 .none, ze P "__package__" 167 .none, ze P "__loader__" 168 (.builtin "__main__.__loader__#opaque"), ze P "__spec__" 169 .none, ze P "__annotations__" 170 (.ref 6), ze P "__builtins__" 171 (.ref 4), ze P "__file__" 173 (zs "/claim/cut.py" 172), ze P "__cached__" 174 .none, ze P "_wall" 193 (.ref 21), ze P "PaperError" 235 (.ref 46), ze P "CrossFault" 251 (.ref 59), ze P "Decimal" 367 (.ref 155), ze P "sign_text" 374 (.ref 166), ze P "MOST_HOPS" 378 (.int 30 377), ze P "Name" 407 (.ref 183), ze P "String" 438 (.ref 205), ze P "Stream" 469 (.ref 226), ze P "Reference" 507 (.ref 254), ze P "kind_of" 514 (.ref 265), ze P "told_plain" 522 (.ref 272), ze P "told" 528 (.ref 277), ze P "told_objects" 529 (.ref 277), ze P "Lookup" 581 (.ref 309), ze P "Shelf" 643 (.ref 363), ze P "MOST_STREAMS" 647 (.int 60 646), ze P "is_object_stream" 656 (.ref 372), ze P "extends_chain" 662 (.ref 377), ze P "read_chain" 675 (.ref 384), ze P "_law_pen" 683 (.ref 389), ze P "_law_draw" 693 (.ref 396), ze P "_law_links" 704 (.ref 403), ze P "_law_shelf" 716 (.ref 410), ze P "_law_walk" 727 (.ref 417), ze P "_law_heard" 734 (.ref 424), ze P "law" 740 (.ref 429)] 36), #[]⟩
noncomputable def ob385 (P : Params) : Obj := ⟨(.type "tuple"), none, (.seq #[] 0), #[]⟩
noncomputable def ob388 (P : Params) : Obj := ⟨(.type "code"), none, (.fields #[(zs "_law_pen" 678), (zs "_law_pen" 679), (zs "/claim/cut.py" 680), (.int 199 0), (.int 1 0), (.int 0 0), (.int 0 0), (.int 3 0), (.ref 385), (.bool true), (.int 181 0), (.ref 386), .none, .none, .none, (.ref 387), (.int 681 0), (.int 199 0), (zs "/claim/cut.py" 682)]), #[]⟩
noncomputable def ob389 (P : Params) : Obj := ⟨(.type "function"), none, (zf (st := (topS 25)) rfl "_law_pen" 3 [] .none .none .none (zs "law_og0165_01" 676) none (.ref 388) .none 0), #[]⟩
noncomputable def ob390 (P : Params) : Obj := ⟨(.type "tuple"), none, (.seq #[] 0), #[]⟩
noncomputable def ob392 (P : Params) : Obj := ⟨(.type "tuple"), none, (.seq #[(zs "pen" 687), (zs "limit" 688), (zs "place" 689), (zs "digit" 690)] 0), #[]⟩
noncomputable def ob393 (P : Params) : Obj := ⟨(.type "tuple"), none, (.seq #[] 0), #[]⟩
noncomputable def ob395 (P : Params) : Obj := ⟨(.type "code"), none, (.fields #[(zs "_law_draw" 684), (zs "_law_draw" 685), (zs "/claim/cut.py" 686), (.int 208 0), (.int 2 0), (.int 0 0), (.int 0 0), (.int 3 0), (.ref 390), (.bool true), (.int 181 0), (.ref 391), .none, (.ref 392), (.ref 393), (.ref 394), (.int 691 0), (.int 208 0), (zs "/claim/cut.py" 692)]), #[]⟩
noncomputable def ob396 (P : Params) : Obj := ⟨(.type "function"), none, (zf (st := (topS 26)) rfl "_law_draw" 3 [] .none .none .none (zs "law_og0165_01" 676) none (.ref 395) .none 0), #[]⟩
noncomputable def ob397 (P : Params) : Obj := ⟨(.type "tuple"), none, (.seq #[] 0), #[]⟩
noncomputable def ob399 (P : Params) : Obj := ⟨(.type "tuple"), none, (.seq #[(zs "pen" 697), (zs "count" 698), (zs "links" 699), (zs "number" 700), (zs "way" 701)] 0), #[]⟩
noncomputable def ob400 (P : Params) : Obj := ⟨(.type "tuple"), none, (.seq #[] 0), #[]⟩
noncomputable def ob402 (P : Params) : Obj := ⟨(.type "code"), none, (.fields #[(zs "_law_links" 694), (zs "_law_links" 695), (zs "/claim/cut.py" 696), (.int 219 0), (.int 2 0), (.int 0 0), (.int 0 0), (.int 3 0), (.ref 397), (.bool true), (.int 181 0), (.ref 398), .none, (.ref 399), (.ref 400), (.ref 401), (.int 702 0), (.int 219 0), (zs "/claim/cut.py" 703)]), #[]⟩
noncomputable def ob403 (P : Params) : Obj := ⟨(.type "function"), none, (zf (st := (topS 27)) rfl "_law_links" 3 [] .none .none .none (zs "law_og0165_01" 676) none (.ref 402) .none 0), #[]⟩
noncomputable def ob404 (P : Params) : Obj := ⟨(.type "tuple"), none, (.seq #[] 0), #[]⟩
noncomputable def ob406 (P : Params) : Obj := ⟨(.type "tuple"), none, (.seq #[(zs "pen" 708), (zs "links" 709), (zs "kinds" 710), (zs "table" 711), (zs "place" 712), (zs "head" 713)] 0), #[]⟩
noncomputable def ob407 (P : Params) : Obj := ⟨(.type "tuple"), none, (.seq #[] 0), #[]⟩
noncomputable def ob409 (P : Params) : Obj := ⟨(.type "code"), none, (.fields #[(zs "_law_shelf" 705), (zs "_law_shelf" 706), (zs "/claim/cut.py" 707), (.int 228 0), (.int 3 0), (.int 0 0), (.int 0 0), (.int 3 0), (.ref 404), (.bool true), (.int 181 0), (.ref 405), .none, (.ref 406), (.ref 407), (.ref 408), (.int 714 0), (.int 228 0), (zs "/claim/cut.py" 715)]), #[]⟩
noncomputable def ob410 (P : Params) : Obj := ⟨(.type "function"), none, (zf (st := (topS 28)) rfl "_law_shelf" 3 [] .none .none .none (zs "law_og0165_01" 676) none (.ref 409) .none 0), #[]⟩
noncomputable def ob411 (P : Params) : Obj := ⟨(.type "tuple"), none, (.seq #[] 0), #[]⟩
noncomputable def ob413 (P : Params) : Obj := ⟨(.type "tuple"), none, (.seq #[(zs "links" 720), (zs "kinds" 721), (zs "begin" 722), (zs "line" 723), (zs "here" 724)] 0), #[]⟩
noncomputable def ob414 (P : Params) : Obj := ⟨(.type "tuple"), none, (.seq #[] 0), #[]⟩
noncomputable def ob416 (P : Params) : Obj := ⟨(.type "code"), none, (.fields #[(zs "_law_walk" 717), (zs "_law_walk" 718), (zs "/claim/cut.py" 719), (.int 237 0), (.int 3 0), (.int 0 0), (.int 0 0), (.int 3 0), (.ref 411), (.bool true), (.int 181 0), (.ref 412), .none, (.ref 413), (.ref 414), (.ref 415), (.int 725 0), (.int 237 0), (zs "/claim/cut.py" 726)]), #[]⟩
noncomputable def ob417 (P : Params) : Obj := ⟨(.type "function"), none, (zf (st := (topS 29)) rfl "_law_walk" 3 [] .none .none .none (zs "law_og0165_01" 676) none (.ref 416) .none 0), #[]⟩
noncomputable def ob418 (P : Params) : Obj := ⟨(.type "tuple"), none, (.seq #[] 0), #[]⟩
noncomputable def ob420 (P : Params) : Obj := ⟨(.type "tuple"), none, (.seq #[(zs "ask" 731)] 0), #[]⟩
noncomputable def ob421 (P : Params) : Obj := ⟨(.type "tuple"), none, (.seq #[] 0), #[]⟩
noncomputable def ob423 (P : Params) : Obj := ⟨(.type "code"), none, (.fields #[(zs "_law_heard" 728), (zs "_law_heard" 729), (zs "/claim/cut.py" 730), (.int 246 0), (.int 1 0), (.int 0 0), (.int 0 0), (.int 3 0), (.ref 418), (.bool true), (.int 181 0), (.ref 419), .none, (.ref 420), (.ref 421), (.ref 422), (.int 732 0), (.int 246 0), (zs "/claim/cut.py" 733)]), #[]⟩
noncomputable def ob424 (P : Params) : Obj := ⟨(.type "function"), none, (zf (st := (topS 30)) rfl "_law_heard" 3 [] .none .none .none (zs "law_og0165_01" 676) none (.ref 423) .none 0), #[]⟩
noncomputable def ob425 (P : Params) : Obj := ⟨(.type "tuple"), none, (.seq #[] 0), #[]⟩
noncomputable def ob428 (P : Params) : Obj := ⟨(.type "code"), none, (.fields #[(zs "law" 735), (zs "law" 736), (zs "/claim/cut.py" 737), (.int 251 0), (.int 1 0), (.int 0 0), (.int 0 0), (.int 3 0), (.ref 425), (.bool true), (.int 181 0), (.ref 426), .none, .none, .none, (.ref 427), (.int 738 0), (.int 251 0), (zs "/claim/cut.py" 739)]), #[]⟩
noncomputable def ob429 (P : Params) : Obj := ⟨(.type "function"), none, (zf (st := (topS 31)) rfl "law" 3 [] .none .none .none (zs "law_og0165_01" 676) none (.ref 428) .none 0), #[]⟩
noncomputable def tree0 (P : Params) : BT := (.node (boot_o_0 P) (.node (boot_o_1 P) (.node (boot_o_3 P) (.node (boot_o_7 P) .nil .nil) (.node (ob11 P) .nil .nil)) (.node (boot_o_5 P) (.node (boot_o_9 P) .nil .nil) (.node (ob13 P) .nil .nil))) (.node (boot_o_2 P) (.node (boot_o_4 P) (.node (boot_o_8 P) .nil .nil) (.node (ob12 P) .nil .nil)) (.node (boot_o_6 P) (.node (boot_o_10 P) .nil .nil) (.node (ob14 P) .nil .nil))))
noncomputable def tree1 (P : Params) : BT := (.node (boot_o_0 P) (.node (boot_o_1 P) (.node (ob3 P) (.node (boot_o_7 P) (.node (ob15 P) (.node (ob31 P) (.node (ob63 P) (.node (ob127 P) .nil .nil) .nil) (.node (ob95 P) (.node (ob159 P) .nil .nil) .nil)) (.node (ob47 P) (.node (ob79 P) (.node (ob143 P) .nil .nil) .nil) (.node (ob111 P) .nil .nil))) (.node (ob23 P) (.node (ob39 P) (.node (ob71 P) (.node (ob135 P) .nil .nil) .nil) (.node (ob103 P) .nil .nil)) (.node (ob55 P) (.node (ob87 P) (.node (ob151 P) .nil .nil) .nil) (.node (ob119 P) .nil .nil)))) (.node (ob11 P) (.node (ob19 P) (.node (ob35 P) (.node (ob67 P) (.node (ob131 P) .nil .nil) .nil) (.node (ob99 P) .nil .nil)) (.node (ob51 P) (.node (ob83 P) (.node (ob147 P) .nil .nil) .nil) (.node (ob115 P) .nil .nil))) (.node (ob27 P) (.node (ob43 P) (.node (ob75 P) (.node (ob139 P) .nil .nil) .nil) (.node (ob107 P) .nil .nil)) (.node (ob59 P) (.node (ob91 P) (.node (ob155 P) .nil .nil) .nil) (.node (ob123 P) .nil .nil))))) (.node (boot_o_5 P) (.node (boot_o_9 P) (.node (ob17 P) (.node (ob33 P) (.node (ob65 P) (.node (ob129 P) .nil .nil) .nil) (.node (ob97 P) .nil .nil)) (.node (ob49 P) (.node (ob81 P) (.node (ob145 P) .nil .nil) .nil) (.node (ob113 P) .nil .nil))) (.node (ob25 P) (.node (ob41 P) (.node (ob73 P) (.node (ob137 P) .nil .nil) .nil) (.node (ob105 P) .nil .nil)) (.node (ob57 P) (.node (ob89 P) (.node (ob153 P) .nil .nil) .nil) (.node (ob121 P) .nil .nil)))) (.node (ob13 P) (.node (ob21 P) (.node (ob37 P) (.node (ob69 P) (.node (ob133 P) .nil .nil) .nil) (.node (ob101 P) .nil .nil)) (.node (ob53 P) (.node (ob85 P) (.node (ob149 P) .nil .nil) .nil) (.node (ob117 P) .nil .nil))) (.node (ob29 P) (.node (ob45 P) (.node (ob77 P) (.node (ob141 P) .nil .nil) .nil) (.node (ob109 P) .nil .nil)) (.node (ob61 P) (.node (ob93 P) (.node (ob157 P) .nil .nil) .nil) (.node (ob125 P) .nil .nil)))))) (.node (ob2 P) (.node (boot_o_4 P) (.node (boot_o_8 P) (.node (ob16 P) (.node (ob32 P) (.node (ob64 P) (.node (ob128 P) .nil .nil) .nil) (.node (ob96 P) .nil .nil)) (.node (ob48 P) (.node (ob80 P) (.node (ob144 P) .nil .nil) .nil) (.node (ob112 P) .nil .nil))) (.node (ob24 P) (.node (ob40 P) (.node (ob72 P) (.node (ob136 P) .nil .nil) .nil) (.node (ob104 P) .nil .nil)) (.node (ob56 P) (.node (ob88 P) (.node (ob152 P) .nil .nil) .nil) (.node (ob120 P) .nil .nil)))) (.node (ob12_1 P) (.node (ob20 P) (.node (ob36 P) (.node (ob68 P) (.node (ob132 P) .nil .nil) .nil) (.node (ob100 P) .nil .nil)) (.node (ob52 P) (.node (ob84 P) (.node (ob148 P) .nil .nil) .nil) (.node (ob116 P) .nil .nil))) (.node (ob28 P) (.node (ob44 P) (.node (ob76 P) (.node (ob140 P) .nil .nil) .nil) (.node (ob108 P) .nil .nil)) (.node (ob60 P) (.node (ob92 P) (.node (ob156 P) .nil .nil) .nil) (.node (ob124 P) .nil .nil))))) (.node (boot_o_6 P) (.node (boot_o_10 P) (.node (ob18 P) (.node (ob34 P) (.node (ob66 P) (.node (ob130 P) .nil .nil) .nil) (.node (ob98 P) .nil .nil)) (.node (ob50 P) (.node (ob82 P) (.node (ob146 P) .nil .nil) .nil) (.node (ob114 P) .nil .nil))) (.node (ob26 P) (.node (ob42 P) (.node (ob74 P) (.node (ob138 P) .nil .nil) .nil) (.node (ob106 P) .nil .nil)) (.node (ob58 P) (.node (ob90 P) (.node (ob154 P) .nil .nil) .nil) (.node (ob122 P) .nil .nil)))) (.node (ob14 P) (.node (ob22 P) (.node (ob38 P) (.node (ob70 P) (.node (ob134 P) .nil .nil) .nil) (.node (ob102 P) .nil .nil)) (.node (ob54 P) (.node (ob86 P) (.node (ob150 P) .nil .nil) .nil) (.node (ob118 P) .nil .nil))) (.node (ob30 P) (.node (ob46 P) (.node (ob78 P) (.node (ob142 P) .nil .nil) .nil) (.node (ob110 P) .nil .nil)) (.node (ob62 P) (.node (ob94 P) (.node (ob158 P) .nil .nil) .nil) (.node (ob126 P) .nil .nil)))))))
noncomputable def tree2 (P : Params) : BT := (.node (boot_o_0 P) (.node (boot_o_1 P) (.node (ob3_1 P) (.node (boot_o_7 P) (.node (ob15 P) (.node (ob31 P) (.node (ob63 P) (.node (ob127 P) (.node (ob255 P) .nil .nil) .nil) (.node (ob191 P) .nil .nil)) (.node (ob95 P) (.node (ob159 P) .nil .nil) (.node (ob223 P) .nil .nil))) (.node (ob47 P) (.node (ob79 P) (.node (ob143 P) .nil .nil) (.node (ob207 P) .nil .nil)) (.node (ob111 P) (.node (ob175 P) .nil .nil) (.node (ob239 P) .nil .nil)))) (.node (ob23 P) (.node (ob39 P) (.node (ob71 P) (.node (ob135 P) .nil .nil) (.node (ob199 P) .nil .nil)) (.node (ob103 P) (.node (ob167 P) .nil .nil) (.node (ob231 P) .nil .nil))) (.node (ob55 P) (.node (ob87 P) (.node (ob151 P) .nil .nil) (.node (ob215 P) .nil .nil)) (.node (ob119 P) (.node (ob183 P) .nil .nil) (.node (ob247 P) .nil .nil))))) (.node (ob11 P) (.node (ob19 P) (.node (ob35 P) (.node (ob67 P) (.node (ob131 P) .nil .nil) (.node (ob195 P) .nil .nil)) (.node (ob99 P) (.node (ob163 P) .nil .nil) (.node (ob227 P) .nil .nil))) (.node (ob51 P) (.node (ob83 P) (.node (ob147 P) .nil .nil) (.node (ob211 P) .nil .nil)) (.node (ob115 P) (.node (ob179 P) .nil .nil) (.node (ob243 P) .nil .nil)))) (.node (ob27 P) (.node (ob43 P) (.node (ob75 P) (.node (ob139 P) .nil .nil) (.node (ob203 P) .nil .nil)) (.node (ob107 P) (.node (ob171 P) .nil .nil) (.node (ob235 P) .nil .nil))) (.node (ob59 P) (.node (ob91 P) (.node (ob155 P) .nil .nil) (.node (ob219 P) .nil .nil)) (.node (ob123 P) (.node (ob187 P) .nil .nil) (.node (ob251 P) .nil .nil)))))) (.node (boot_o_5 P) (.node (boot_o_9 P) (.node (ob17 P) (.node (ob33 P) (.node (ob65 P) (.node (ob129 P) (.node (ob257 P) .nil .nil) .nil) (.node (ob193 P) .nil .nil)) (.node (ob97 P) (.node (ob161 P) .nil .nil) (.node (ob225 P) .nil .nil))) (.node (ob49 P) (.node (ob81 P) (.node (ob145 P) .nil .nil) (.node (ob209 P) .nil .nil)) (.node (ob113 P) (.node (ob177 P) .nil .nil) (.node (ob241 P) .nil .nil)))) (.node (ob25 P) (.node (ob41 P) (.node (ob73 P) (.node (ob137 P) .nil .nil) (.node (ob201 P) .nil .nil)) (.node (ob105 P) (.node (ob169 P) .nil .nil) (.node (ob233 P) .nil .nil))) (.node (ob57 P) (.node (ob89 P) (.node (ob153 P) .nil .nil) (.node (ob217 P) .nil .nil)) (.node (ob121 P) (.node (ob185 P) .nil .nil) (.node (ob249 P) .nil .nil))))) (.node (ob13 P) (.node (ob21 P) (.node (ob37 P) (.node (ob69 P) (.node (ob133 P) .nil .nil) (.node (ob197 P) .nil .nil)) (.node (ob101 P) (.node (ob165 P) .nil .nil) (.node (ob229 P) .nil .nil))) (.node (ob53 P) (.node (ob85 P) (.node (ob149 P) .nil .nil) (.node (ob213 P) .nil .nil)) (.node (ob117 P) (.node (ob181 P) .nil .nil) (.node (ob245 P) .nil .nil)))) (.node (ob29 P) (.node (ob45 P) (.node (ob77 P) (.node (ob141 P) .nil .nil) (.node (ob205 P) .nil .nil)) (.node (ob109 P) (.node (ob173 P) .nil .nil) (.node (ob237 P) .nil .nil))) (.node (ob61 P) (.node (ob93 P) (.node (ob157 P) .nil .nil) (.node (ob221 P) .nil .nil)) (.node (ob125 P) (.node (ob189 P) .nil .nil) (.node (ob253 P) .nil .nil))))))) (.node (ob2 P) (.node (boot_o_4 P) (.node (boot_o_8 P) (.node (ob16 P) (.node (ob32 P) (.node (ob64 P) (.node (ob128 P) (.node (ob256 P) .nil .nil) .nil) (.node (ob192 P) .nil .nil)) (.node (ob96 P) (.node (ob160 P) .nil .nil) (.node (ob224 P) .nil .nil))) (.node (ob48 P) (.node (ob80 P) (.node (ob144 P) .nil .nil) (.node (ob208 P) .nil .nil)) (.node (ob112 P) (.node (ob176 P) .nil .nil) (.node (ob240 P) .nil .nil)))) (.node (ob24 P) (.node (ob40 P) (.node (ob72 P) (.node (ob136 P) .nil .nil) (.node (ob200 P) .nil .nil)) (.node (ob104 P) (.node (ob168 P) .nil .nil) (.node (ob232 P) .nil .nil))) (.node (ob56 P) (.node (ob88 P) (.node (ob152 P) .nil .nil) (.node (ob216 P) .nil .nil)) (.node (ob120 P) (.node (ob184 P) .nil .nil) (.node (ob248 P) .nil .nil))))) (.node (ob12_2 P) (.node (ob20 P) (.node (ob36 P) (.node (ob68 P) (.node (ob132 P) .nil .nil) (.node (ob196 P) .nil .nil)) (.node (ob100 P) (.node (ob164 P) .nil .nil) (.node (ob228 P) .nil .nil))) (.node (ob52 P) (.node (ob84 P) (.node (ob148 P) .nil .nil) (.node (ob212 P) .nil .nil)) (.node (ob116 P) (.node (ob180 P) .nil .nil) (.node (ob244 P) .nil .nil)))) (.node (ob28 P) (.node (ob44 P) (.node (ob76 P) (.node (ob140 P) .nil .nil) (.node (ob204 P) .nil .nil)) (.node (ob108 P) (.node (ob172 P) .nil .nil) (.node (ob236 P) .nil .nil))) (.node (ob60 P) (.node (ob92 P) (.node (ob156 P) .nil .nil) (.node (ob220 P) .nil .nil)) (.node (ob124 P) (.node (ob188 P) .nil .nil) (.node (ob252 P) .nil .nil)))))) (.node (boot_o_6 P) (.node (boot_o_10 P) (.node (ob18 P) (.node (ob34 P) (.node (ob66 P) (.node (ob130 P) (.node (ob258 P) .nil .nil) .nil) (.node (ob194 P) .nil .nil)) (.node (ob98 P) (.node (ob162 P) .nil .nil) (.node (ob226 P) .nil .nil))) (.node (ob50 P) (.node (ob82 P) (.node (ob146 P) .nil .nil) (.node (ob210 P) .nil .nil)) (.node (ob114 P) (.node (ob178 P) .nil .nil) (.node (ob242 P) .nil .nil)))) (.node (ob26 P) (.node (ob42 P) (.node (ob74 P) (.node (ob138 P) .nil .nil) (.node (ob202 P) .nil .nil)) (.node (ob106 P) (.node (ob170 P) .nil .nil) (.node (ob234 P) .nil .nil))) (.node (ob58 P) (.node (ob90 P) (.node (ob154 P) .nil .nil) (.node (ob218 P) .nil .nil)) (.node (ob122 P) (.node (ob186 P) .nil .nil) (.node (ob250 P) .nil .nil))))) (.node (ob14 P) (.node (ob22 P) (.node (ob38 P) (.node (ob70 P) (.node (ob134 P) .nil .nil) (.node (ob198 P) .nil .nil)) (.node (ob102 P) (.node (ob166 P) .nil .nil) (.node (ob230 P) .nil .nil))) (.node (ob54 P) (.node (ob86 P) (.node (ob150 P) .nil .nil) (.node (ob214 P) .nil .nil)) (.node (ob118 P) (.node (ob182 P) .nil .nil) (.node (ob246 P) .nil .nil)))) (.node (ob30 P) (.node (ob46 P) (.node (ob78 P) (.node (ob142 P) .nil .nil) (.node (ob206 P) .nil .nil)) (.node (ob110 P) (.node (ob174 P) .nil .nil) (.node (ob238 P) .nil .nil))) (.node (ob62 P) (.node (ob94 P) (.node (ob158 P) .nil .nil) (.node (ob222 P) .nil .nil)) (.node (ob126 P) (.node (ob190 P) .nil .nil) (.node (ob254 P) .nil .nil))))))))
noncomputable def tree3 (P : Params) : BT := (.node (boot_o_0 P) (.node (boot_o_1 P) (.node (ob3_2 P) (.node (boot_o_7 P) (.node (ob15 P) (.node (ob31 P) (.node (ob63 P) (.node (ob127 P) (.node (ob255 P) .nil .nil) .nil) (.node (ob191 P) .nil .nil)) (.node (ob95 P) (.node (ob159 P) (.node (ob287 P) .nil .nil) .nil) (.node (ob223 P) .nil .nil))) (.node (ob47 P) (.node (ob79 P) (.node (ob143 P) (.node (ob271 P) .nil .nil) .nil) (.node (ob207 P) .nil .nil)) (.node (ob111 P) (.node (ob175 P) (.node (ob303 P) .nil .nil) .nil) (.node (ob239 P) .nil .nil)))) (.node (ob23 P) (.node (ob39 P) (.node (ob71 P) (.node (ob135 P) (.node (ob263 P) .nil .nil) .nil) (.node (ob199 P) .nil .nil)) (.node (ob103 P) (.node (ob167 P) (.node (ob295 P) .nil .nil) .nil) (.node (ob231 P) .nil .nil))) (.node (ob55 P) (.node (ob87 P) (.node (ob151 P) (.node (ob279 P) .nil .nil) .nil) (.node (ob215 P) .nil .nil)) (.node (ob119 P) (.node (ob183 P) (.node (ob311 P) .nil .nil) .nil) (.node (ob247 P) .nil .nil))))) (.node (ob11 P) (.node (ob19 P) (.node (ob35 P) (.node (ob67 P) (.node (ob131 P) (.node (ob259 P) .nil .nil) .nil) (.node (ob195 P) .nil .nil)) (.node (ob99 P) (.node (ob163 P) (.node (ob291 P) .nil .nil) .nil) (.node (ob227 P) .nil .nil))) (.node (ob51 P) (.node (ob83 P) (.node (ob147 P) (.node (ob275 P) .nil .nil) .nil) (.node (ob211 P) .nil .nil)) (.node (ob115 P) (.node (ob179 P) (.node (ob307 P) .nil .nil) .nil) (.node (ob243 P) .nil .nil)))) (.node (ob27 P) (.node (ob43 P) (.node (ob75 P) (.node (ob139 P) (.node (ob267 P) .nil .nil) .nil) (.node (ob203 P) .nil .nil)) (.node (ob107 P) (.node (ob171 P) (.node (ob299 P) .nil .nil) .nil) (.node (ob235 P) .nil .nil))) (.node (ob59 P) (.node (ob91 P) (.node (ob155 P) (.node (ob283 P) .nil .nil) .nil) (.node (ob219 P) .nil .nil)) (.node (ob123 P) (.node (ob187 P) .nil .nil) (.node (ob251 P) .nil .nil)))))) (.node (boot_o_5 P) (.node (boot_o_9 P) (.node (ob17 P) (.node (ob33 P) (.node (ob65 P) (.node (ob129 P) (.node (ob257 P) .nil .nil) .nil) (.node (ob193 P) .nil .nil)) (.node (ob97 P) (.node (ob161 P) (.node (ob289 P) .nil .nil) .nil) (.node (ob225 P) .nil .nil))) (.node (ob49 P) (.node (ob81 P) (.node (ob145 P) (.node (ob273 P) .nil .nil) .nil) (.node (ob209 P) .nil .nil)) (.node (ob113 P) (.node (ob177 P) (.node (ob305 P) .nil .nil) .nil) (.node (ob241 P) .nil .nil)))) (.node (ob25 P) (.node (ob41 P) (.node (ob73 P) (.node (ob137 P) (.node (ob265 P) .nil .nil) .nil) (.node (ob201 P) .nil .nil)) (.node (ob105 P) (.node (ob169 P) (.node (ob297 P) .nil .nil) .nil) (.node (ob233 P) .nil .nil))) (.node (ob57 P) (.node (ob89 P) (.node (ob153 P) (.node (ob281 P) .nil .nil) .nil) (.node (ob217 P) .nil .nil)) (.node (ob121 P) (.node (ob185 P) (.node (ob313 P) .nil .nil) .nil) (.node (ob249 P) .nil .nil))))) (.node (ob13 P) (.node (ob21 P) (.node (ob37 P) (.node (ob69 P) (.node (ob133 P) (.node (ob261 P) .nil .nil) .nil) (.node (ob197 P) .nil .nil)) (.node (ob101 P) (.node (ob165 P) (.node (ob293 P) .nil .nil) .nil) (.node (ob229 P) .nil .nil))) (.node (ob53 P) (.node (ob85 P) (.node (ob149 P) (.node (ob277 P) .nil .nil) .nil) (.node (ob213 P) .nil .nil)) (.node (ob117 P) (.node (ob181 P) (.node (ob309 P) .nil .nil) .nil) (.node (ob245 P) .nil .nil)))) (.node (ob29 P) (.node (ob45 P) (.node (ob77 P) (.node (ob141 P) (.node (ob269 P) .nil .nil) .nil) (.node (ob205 P) .nil .nil)) (.node (ob109 P) (.node (ob173 P) (.node (ob301 P) .nil .nil) .nil) (.node (ob237 P) .nil .nil))) (.node (ob61 P) (.node (ob93 P) (.node (ob157 P) (.node (ob285 P) .nil .nil) .nil) (.node (ob221 P) .nil .nil)) (.node (ob125 P) (.node (ob189 P) .nil .nil) (.node (ob253 P) .nil .nil))))))) (.node (ob2 P) (.node (boot_o_4 P) (.node (boot_o_8 P) (.node (ob16 P) (.node (ob32 P) (.node (ob64 P) (.node (ob128 P) (.node (ob256 P) .nil .nil) .nil) (.node (ob192 P) .nil .nil)) (.node (ob96 P) (.node (ob160 P) (.node (ob288 P) .nil .nil) .nil) (.node (ob224 P) .nil .nil))) (.node (ob48 P) (.node (ob80 P) (.node (ob144 P) (.node (ob272 P) .nil .nil) .nil) (.node (ob208 P) .nil .nil)) (.node (ob112 P) (.node (ob176 P) (.node (ob304 P) .nil .nil) .nil) (.node (ob240 P) .nil .nil)))) (.node (ob24 P) (.node (ob40 P) (.node (ob72 P) (.node (ob136 P) (.node (ob264 P) .nil .nil) .nil) (.node (ob200 P) .nil .nil)) (.node (ob104 P) (.node (ob168 P) (.node (ob296 P) .nil .nil) .nil) (.node (ob232 P) .nil .nil))) (.node (ob56 P) (.node (ob88 P) (.node (ob152 P) (.node (ob280 P) .nil .nil) .nil) (.node (ob216 P) .nil .nil)) (.node (ob120 P) (.node (ob184 P) (.node (ob312 P) .nil .nil) .nil) (.node (ob248 P) .nil .nil))))) (.node (ob12_3 P) (.node (ob20 P) (.node (ob36 P) (.node (ob68 P) (.node (ob132 P) (.node (ob260 P) .nil .nil) .nil) (.node (ob196 P) .nil .nil)) (.node (ob100 P) (.node (ob164 P) (.node (ob292 P) .nil .nil) .nil) (.node (ob228 P) .nil .nil))) (.node (ob52 P) (.node (ob84 P) (.node (ob148 P) (.node (ob276 P) .nil .nil) .nil) (.node (ob212 P) .nil .nil)) (.node (ob116 P) (.node (ob180 P) (.node (ob308 P) .nil .nil) .nil) (.node (ob244 P) .nil .nil)))) (.node (ob28 P) (.node (ob44 P) (.node (ob76 P) (.node (ob140 P) (.node (ob268 P) .nil .nil) .nil) (.node (ob204 P) .nil .nil)) (.node (ob108 P) (.node (ob172 P) (.node (ob300 P) .nil .nil) .nil) (.node (ob236 P) .nil .nil))) (.node (ob60 P) (.node (ob92 P) (.node (ob156 P) (.node (ob284 P) .nil .nil) .nil) (.node (ob220 P) .nil .nil)) (.node (ob124 P) (.node (ob188 P) .nil .nil) (.node (ob252 P) .nil .nil)))))) (.node (boot_o_6 P) (.node (boot_o_10 P) (.node (ob18 P) (.node (ob34 P) (.node (ob66 P) (.node (ob130 P) (.node (ob258 P) .nil .nil) .nil) (.node (ob194 P) .nil .nil)) (.node (ob98 P) (.node (ob162 P) (.node (ob290 P) .nil .nil) .nil) (.node (ob226 P) .nil .nil))) (.node (ob50 P) (.node (ob82 P) (.node (ob146 P) (.node (ob274 P) .nil .nil) .nil) (.node (ob210 P) .nil .nil)) (.node (ob114 P) (.node (ob178 P) (.node (ob306 P) .nil .nil) .nil) (.node (ob242 P) .nil .nil)))) (.node (ob26 P) (.node (ob42 P) (.node (ob74 P) (.node (ob138 P) (.node (ob266 P) .nil .nil) .nil) (.node (ob202 P) .nil .nil)) (.node (ob106 P) (.node (ob170 P) (.node (ob298 P) .nil .nil) .nil) (.node (ob234 P) .nil .nil))) (.node (ob58 P) (.node (ob90 P) (.node (ob154 P) (.node (ob282 P) .nil .nil) .nil) (.node (ob218 P) .nil .nil)) (.node (ob122 P) (.node (ob186 P) .nil .nil) (.node (ob250 P) .nil .nil))))) (.node (ob14 P) (.node (ob22 P) (.node (ob38 P) (.node (ob70 P) (.node (ob134 P) (.node (ob262 P) .nil .nil) .nil) (.node (ob198 P) .nil .nil)) (.node (ob102 P) (.node (ob166 P) (.node (ob294 P) .nil .nil) .nil) (.node (ob230 P) .nil .nil))) (.node (ob54 P) (.node (ob86 P) (.node (ob150 P) (.node (ob278 P) .nil .nil) .nil) (.node (ob214 P) .nil .nil)) (.node (ob118 P) (.node (ob182 P) (.node (ob310 P) .nil .nil) .nil) (.node (ob246 P) .nil .nil)))) (.node (ob30 P) (.node (ob46 P) (.node (ob78 P) (.node (ob142 P) (.node (ob270 P) .nil .nil) .nil) (.node (ob206 P) .nil .nil)) (.node (ob110 P) (.node (ob174 P) (.node (ob302 P) .nil .nil) .nil) (.node (ob238 P) .nil .nil))) (.node (ob62 P) (.node (ob94 P) (.node (ob158 P) (.node (ob286 P) .nil .nil) .nil) (.node (ob222 P) .nil .nil)) (.node (ob126 P) (.node (ob190 P) .nil .nil) (.node (ob254 P) .nil .nil))))))))
noncomputable def tree4 (P : Params) : BT := (.node (boot_o_0 P) (.node (boot_o_1 P) (.node (ob3_3 P) (.node (boot_o_7 P) (.node (ob15 P) (.node (ob31 P) (.node (ob63 P) (.node (ob127 P) (.node (ob255 P) .nil .nil) (.node (ob383 P) .nil .nil)) (.node (ob191 P) (.node (ob319 P) .nil .nil) .nil)) (.node (ob95 P) (.node (ob159 P) (.node (ob287 P) .nil .nil) .nil) (.node (ob223 P) (.node (ob351 P) .nil .nil) .nil))) (.node (ob47 P) (.node (ob79 P) (.node (ob143 P) (.node (ob271 P) .nil .nil) .nil) (.node (ob207 P) (.node (ob335 P) .nil .nil) .nil)) (.node (ob111 P) (.node (ob175 P) (.node (ob303 P) .nil .nil) .nil) (.node (ob239 P) (.node (ob367 P) .nil .nil) .nil)))) (.node (ob23 P) (.node (ob39 P) (.node (ob71 P) (.node (ob135 P) (.node (ob263 P) .nil .nil) .nil) (.node (ob199 P) (.node (ob327 P) .nil .nil) .nil)) (.node (ob103 P) (.node (ob167 P) (.node (ob295 P) .nil .nil) .nil) (.node (ob231 P) (.node (ob359 P) .nil .nil) .nil))) (.node (ob55 P) (.node (ob87 P) (.node (ob151 P) (.node (ob279 P) .nil .nil) .nil) (.node (ob215 P) (.node (ob343 P) .nil .nil) .nil)) (.node (ob119 P) (.node (ob183 P) (.node (ob311 P) .nil .nil) .nil) (.node (ob247 P) (.node (ob375 P) .nil .nil) .nil))))) (.node (ob11 P) (.node (ob19 P) (.node (ob35 P) (.node (ob67 P) (.node (ob131 P) (.node (ob259 P) .nil .nil) .nil) (.node (ob195 P) (.node (ob323 P) .nil .nil) .nil)) (.node (ob99 P) (.node (ob163 P) (.node (ob291 P) .nil .nil) .nil) (.node (ob227 P) (.node (ob355 P) .nil .nil) .nil))) (.node (ob51 P) (.node (ob83 P) (.node (ob147 P) (.node (ob275 P) .nil .nil) .nil) (.node (ob211 P) (.node (ob339 P) .nil .nil) .nil)) (.node (ob115 P) (.node (ob179 P) (.node (ob307 P) .nil .nil) .nil) (.node (ob243 P) (.node (ob371 P) .nil .nil) .nil)))) (.node (ob27 P) (.node (ob43 P) (.node (ob75 P) (.node (ob139 P) (.node (ob267 P) .nil .nil) .nil) (.node (ob203 P) (.node (ob331 P) .nil .nil) .nil)) (.node (ob107 P) (.node (ob171 P) (.node (ob299 P) .nil .nil) .nil) (.node (ob235 P) (.node (ob363 P) .nil .nil) .nil))) (.node (ob59 P) (.node (ob91 P) (.node (ob155 P) (.node (ob283 P) .nil .nil) .nil) (.node (ob219 P) (.node (ob347 P) .nil .nil) .nil)) (.node (ob123 P) (.node (ob187 P) (.node (ob315 P) .nil .nil) .nil) (.node (ob251 P) (.node (ob379 P) .nil .nil) .nil)))))) (.node (boot_o_5 P) (.node (boot_o_9 P) (.node (ob17 P) (.node (ob33 P) (.node (ob65 P) (.node (ob129 P) (.node (ob257 P) .nil .nil) .nil) (.node (ob193 P) (.node (ob321 P) .nil .nil) .nil)) (.node (ob97 P) (.node (ob161 P) (.node (ob289 P) .nil .nil) .nil) (.node (ob225 P) (.node (ob353 P) .nil .nil) .nil))) (.node (ob49 P) (.node (ob81 P) (.node (ob145 P) (.node (ob273 P) .nil .nil) .nil) (.node (ob209 P) (.node (ob337 P) .nil .nil) .nil)) (.node (ob113 P) (.node (ob177 P) (.node (ob305 P) .nil .nil) .nil) (.node (ob241 P) (.node (ob369 P) .nil .nil) .nil)))) (.node (ob25 P) (.node (ob41 P) (.node (ob73 P) (.node (ob137 P) (.node (ob265 P) .nil .nil) .nil) (.node (ob201 P) (.node (ob329 P) .nil .nil) .nil)) (.node (ob105 P) (.node (ob169 P) (.node (ob297 P) .nil .nil) .nil) (.node (ob233 P) (.node (ob361 P) .nil .nil) .nil))) (.node (ob57 P) (.node (ob89 P) (.node (ob153 P) (.node (ob281 P) .nil .nil) .nil) (.node (ob217 P) (.node (ob345 P) .nil .nil) .nil)) (.node (ob121 P) (.node (ob185 P) (.node (ob313 P) .nil .nil) .nil) (.node (ob249 P) (.node (ob377 P) .nil .nil) .nil))))) (.node (ob13 P) (.node (ob21 P) (.node (ob37 P) (.node (ob69 P) (.node (ob133 P) (.node (ob261 P) .nil .nil) .nil) (.node (ob197 P) (.node (ob325 P) .nil .nil) .nil)) (.node (ob101 P) (.node (ob165 P) (.node (ob293 P) .nil .nil) .nil) (.node (ob229 P) (.node (ob357 P) .nil .nil) .nil))) (.node (ob53 P) (.node (ob85 P) (.node (ob149 P) (.node (ob277 P) .nil .nil) .nil) (.node (ob213 P) (.node (ob341 P) .nil .nil) .nil)) (.node (ob117 P) (.node (ob181 P) (.node (ob309_1 P) .nil .nil) .nil) (.node (ob245 P) (.node (ob373 P) .nil .nil) .nil)))) (.node (ob29 P) (.node (ob45 P) (.node (ob77 P) (.node (ob141 P) (.node (ob269 P) .nil .nil) .nil) (.node (ob205 P) (.node (ob333 P) .nil .nil) .nil)) (.node (ob109 P) (.node (ob173 P) (.node (ob301 P) .nil .nil) .nil) (.node (ob237 P) (.node (ob365 P) .nil .nil) .nil))) (.node (ob61 P) (.node (ob93 P) (.node (ob157 P) (.node (ob285 P) .nil .nil) .nil) (.node (ob221 P) (.node (ob349 P) .nil .nil) .nil)) (.node (ob125 P) (.node (ob189 P) (.node (ob317 P) .nil .nil) .nil) (.node (ob253 P) (.node (ob381 P) .nil .nil) .nil))))))) (.node (ob2 P) (.node (boot_o_4 P) (.node (boot_o_8 P) (.node (ob16 P) (.node (ob32 P) (.node (ob64 P) (.node (ob128 P) (.node (ob256 P) .nil .nil) (.node (ob384 P) .nil .nil)) (.node (ob192 P) (.node (ob320 P) .nil .nil) .nil)) (.node (ob96 P) (.node (ob160 P) (.node (ob288 P) .nil .nil) .nil) (.node (ob224 P) (.node (ob352 P) .nil .nil) .nil))) (.node (ob48 P) (.node (ob80 P) (.node (ob144 P) (.node (ob272 P) .nil .nil) .nil) (.node (ob208 P) (.node (ob336 P) .nil .nil) .nil)) (.node (ob112 P) (.node (ob176 P) (.node (ob304 P) .nil .nil) .nil) (.node (ob240 P) (.node (ob368 P) .nil .nil) .nil)))) (.node (ob24 P) (.node (ob40 P) (.node (ob72 P) (.node (ob136 P) (.node (ob264 P) .nil .nil) .nil) (.node (ob200 P) (.node (ob328 P) .nil .nil) .nil)) (.node (ob104 P) (.node (ob168 P) (.node (ob296 P) .nil .nil) .nil) (.node (ob232 P) (.node (ob360 P) .nil .nil) .nil))) (.node (ob56 P) (.node (ob88 P) (.node (ob152 P) (.node (ob280 P) .nil .nil) .nil) (.node (ob216 P) (.node (ob344 P) .nil .nil) .nil)) (.node (ob120 P) (.node (ob184 P) (.node (ob312 P) .nil .nil) .nil) (.node (ob248 P) (.node (ob376 P) .nil .nil) .nil))))) (.node (ob12_4 P) (.node (ob20 P) (.node (ob36 P) (.node (ob68 P) (.node (ob132 P) (.node (ob260 P) .nil .nil) .nil) (.node (ob196 P) (.node (ob324 P) .nil .nil) .nil)) (.node (ob100 P) (.node (ob164 P) (.node (ob292 P) .nil .nil) .nil) (.node (ob228 P) (.node (ob356 P) .nil .nil) .nil))) (.node (ob52 P) (.node (ob84 P) (.node (ob148 P) (.node (ob276 P) .nil .nil) .nil) (.node (ob212 P) (.node (ob340 P) .nil .nil) .nil)) (.node (ob116 P) (.node (ob180 P) (.node (ob308 P) .nil .nil) .nil) (.node (ob244 P) (.node (ob372 P) .nil .nil) .nil)))) (.node (ob28 P) (.node (ob44 P) (.node (ob76 P) (.node (ob140 P) (.node (ob268 P) .nil .nil) .nil) (.node (ob204 P) (.node (ob332 P) .nil .nil) .nil)) (.node (ob108 P) (.node (ob172 P) (.node (ob300 P) .nil .nil) .nil) (.node (ob236 P) (.node (ob364 P) .nil .nil) .nil))) (.node (ob60 P) (.node (ob92 P) (.node (ob156 P) (.node (ob284 P) .nil .nil) .nil) (.node (ob220 P) (.node (ob348 P) .nil .nil) .nil)) (.node (ob124 P) (.node (ob188 P) (.node (ob316 P) .nil .nil) .nil) (.node (ob252 P) (.node (ob380 P) .nil .nil) .nil)))))) (.node (boot_o_6 P) (.node (boot_o_10 P) (.node (ob18 P) (.node (ob34 P) (.node (ob66 P) (.node (ob130 P) (.node (ob258 P) .nil .nil) .nil) (.node (ob194 P) (.node (ob322 P) .nil .nil) .nil)) (.node (ob98 P) (.node (ob162 P) (.node (ob290 P) .nil .nil) .nil) (.node (ob226 P) (.node (ob354 P) .nil .nil) .nil))) (.node (ob50 P) (.node (ob82 P) (.node (ob146 P) (.node (ob274 P) .nil .nil) .nil) (.node (ob210 P) (.node (ob338 P) .nil .nil) .nil)) (.node (ob114 P) (.node (ob178 P) (.node (ob306 P) .nil .nil) .nil) (.node (ob242 P) (.node (ob370 P) .nil .nil) .nil)))) (.node (ob26 P) (.node (ob42 P) (.node (ob74 P) (.node (ob138 P) (.node (ob266 P) .nil .nil) .nil) (.node (ob202 P) (.node (ob330 P) .nil .nil) .nil)) (.node (ob106 P) (.node (ob170 P) (.node (ob298 P) .nil .nil) .nil) (.node (ob234 P) (.node (ob362 P) .nil .nil) .nil))) (.node (ob58 P) (.node (ob90 P) (.node (ob154 P) (.node (ob282 P) .nil .nil) .nil) (.node (ob218 P) (.node (ob346 P) .nil .nil) .nil)) (.node (ob122 P) (.node (ob186 P) (.node (ob314 P) .nil .nil) .nil) (.node (ob250 P) (.node (ob378 P) .nil .nil) .nil))))) (.node (ob14 P) (.node (ob22 P) (.node (ob38 P) (.node (ob70 P) (.node (ob134 P) (.node (ob262 P) .nil .nil) .nil) (.node (ob198 P) (.node (ob326 P) .nil .nil) .nil)) (.node (ob102 P) (.node (ob166 P) (.node (ob294 P) .nil .nil) .nil) (.node (ob230 P) (.node (ob358 P) .nil .nil) .nil))) (.node (ob54 P) (.node (ob86 P) (.node (ob150 P) (.node (ob278 P) .nil .nil) .nil) (.node (ob214 P) (.node (ob342 P) .nil .nil) .nil)) (.node (ob118 P) (.node (ob182 P) (.node (ob310 P) .nil .nil) .nil) (.node (ob246 P) (.node (ob374 P) .nil .nil) .nil)))) (.node (ob30 P) (.node (ob46 P) (.node (ob78 P) (.node (ob142 P) (.node (ob270 P) .nil .nil) .nil) (.node (ob206 P) (.node (ob334 P) .nil .nil) .nil)) (.node (ob110 P) (.node (ob174 P) (.node (ob302 P) .nil .nil) .nil) (.node (ob238 P) (.node (ob366 P) .nil .nil) .nil))) (.node (ob62 P) (.node (ob94 P) (.node (ob158 P) (.node (ob286 P) .nil .nil) .nil) (.node (ob222 P) (.node (ob350 P) .nil .nil) .nil)) (.node (ob126 P) (.node (ob190 P) (.node (ob318 P) .nil .nil) .nil) (.node (ob254 P) (.node (ob382 P) .nil .nil) .nil))))))))
noncomputable def KF (P : Params) : Frag := ((nat_lit 2, ob2 P) :: (nat_lit 3, ob3_4 P) :: (nat_lit 15, ob15 P) :: (nat_lit 17, ob17 P) :: (nat_lit 18, ob18 P) :: (nat_lit 20, ob20 P) :: (nat_lit 21, ob21 P) :: (nat_lit 22, ob22 P) :: (nat_lit 29, ob29 P) :: (nat_lit 30, ob30 P) :: (nat_lit 32, ob32 P) :: (nat_lit 33, ob33 P) :: (nat_lit 35, ob35 P) :: (nat_lit 36, ob36 P) :: (nat_lit 37, ob37 P) :: (nat_lit 39, ob39 P) :: (nat_lit 40, ob40 P) :: (nat_lit 42, ob42 P) :: (nat_lit 43, ob43 P) :: (nat_lit 44, ob44 P) :: (nat_lit 45, ob45 P) :: (nat_lit 46, ob46 P) :: (nat_lit 47, ob47 P) :: (nat_lit 50, ob50 P) :: (nat_lit 57, ob57 P) :: (nat_lit 58, ob58 P) :: (nat_lit 59, ob59 P) :: (nat_lit 69, ob69 P) :: (nat_lit 71, ob71 P) :: (nat_lit 72, ob72 P) :: (nat_lit 74, ob74 P) :: (nat_lit 75, ob75 P) :: (nat_lit 76, ob76 P) :: (nat_lit 78, ob78 P) :: (nat_lit 79, ob79 P) :: (nat_lit 81, ob81 P) :: (nat_lit 82, ob82 P) :: (nat_lit 83, ob83 P) :: (nat_lit 85, ob85 P) :: (nat_lit 86, ob86 P) :: (nat_lit 88, ob88 P) :: (nat_lit 89, ob89 P) :: (nat_lit 90, ob90 P) :: (nat_lit 92, ob92 P) :: (nat_lit 93, ob93 P) :: (nat_lit 95, ob95 P) :: (nat_lit 96, ob96 P) :: (nat_lit 97, ob97 P) :: (nat_lit 99, ob99 P) :: (nat_lit 100, ob100 P) :: (nat_lit 102, ob102 P) :: (nat_lit 103, ob103 P) :: (nat_lit 104, ob104 P) :: (nat_lit 106, ob106 P) :: (nat_lit 107, ob107 P) :: (nat_lit 109, ob109 P) :: (nat_lit 110, ob110 P) :: (nat_lit 111, ob111 P) :: (nat_lit 113, ob113 P) :: (nat_lit 114, ob114 P) :: (nat_lit 116, ob116 P) :: (nat_lit 117, ob117 P) :: (nat_lit 118, ob118 P) :: (nat_lit 120, ob120 P) :: (nat_lit 121, ob121 P) :: (nat_lit 123, ob123 P) :: (nat_lit 124, ob124 P) :: (nat_lit 125, ob125 P) :: (nat_lit 127, ob127 P) :: (nat_lit 128, ob128 P) :: (nat_lit 130, ob130 P) :: (nat_lit 131, ob131 P) :: (nat_lit 132, ob132 P) :: (nat_lit 134, ob134 P) :: (nat_lit 135, ob135 P) :: (nat_lit 137, ob137 P) :: (nat_lit 138, ob138 P) :: (nat_lit 139, ob139 P) :: (nat_lit 141, ob141 P) :: (nat_lit 142, ob142 P) :: (nat_lit 144, ob144 P) :: (nat_lit 145, ob145 P) :: (nat_lit 146, ob146 P) :: (nat_lit 148, ob148 P) :: (nat_lit 149, ob149 P) :: (nat_lit 151, ob151 P) :: (nat_lit 152, ob152 P) :: (nat_lit 153, ob153 P) :: (nat_lit 154, ob154 P) :: (nat_lit 155, ob155 P) :: (nat_lit 156, ob156 P) :: (nat_lit 157, ob157 P) :: (nat_lit 160, ob160 P) :: (nat_lit 162, ob162 P) :: (nat_lit 163, ob163 P) :: (nat_lit 165, ob165 P) :: (nat_lit 166, ob166 P) :: (nat_lit 174, ob174 P) :: (nat_lit 176, ob176 P) :: (nat_lit 177, ob177 P) :: (nat_lit 179, ob179 P) :: (nat_lit 180, ob180 P) :: (nat_lit 181, ob181 P) :: (nat_lit 182, ob182 P) :: (nat_lit 183, ob183 P) :: (nat_lit 184, ob184 P) :: (nat_lit 185, ob185 P) :: (nat_lit 195, ob195 P) :: (nat_lit 196, ob196 P) :: (nat_lit 198, ob198 P) :: (nat_lit 199, ob199 P) :: (nat_lit 201, ob201 P) :: (nat_lit 202, ob202 P) :: (nat_lit 203, ob203 P) :: (nat_lit 204, ob204 P) :: (nat_lit 205, ob205 P) :: (nat_lit 206, ob206 P) :: (nat_lit 207, ob207 P) :: (nat_lit 217, ob217 P) :: (nat_lit 219, ob219 P) :: (nat_lit 220, ob220 P) :: (nat_lit 222, ob222 P) :: (nat_lit 223, ob223 P) :: (nat_lit 224, ob224 P) :: (nat_lit 225, ob225 P) :: (nat_lit 226, ob226 P) :: (nat_lit 227, ob227 P) :: (nat_lit 228, ob228 P) :: (nat_lit 238, ob238 P) :: (nat_lit 240, ob240 P) :: (nat_lit 241, ob241 P) :: (nat_lit 243, ob243 P) :: (nat_lit 244, ob244 P) :: (nat_lit 245, ob245 P) :: (nat_lit 247, ob247 P) :: (nat_lit 248, ob248 P) :: (nat_lit 250, ob250 P) :: (nat_lit 251, ob251 P) :: (nat_lit 252, ob252 P) :: (nat_lit 253, ob253 P) :: (nat_lit 254, ob254 P) :: (nat_lit 255, ob255 P) :: (nat_lit 256, ob256 P) :: (nat_lit 259, ob259 P) :: (nat_lit 261, ob261 P) :: (nat_lit 262, ob262 P) :: (nat_lit 264, ob264 P) :: (nat_lit 265, ob265 P) :: (nat_lit 266, ob266 P) :: (nat_lit 268, ob268 P) :: (nat_lit 269, ob269 P) :: (nat_lit 271, ob271 P) :: (nat_lit 272, ob272 P) :: (nat_lit 273, ob273 P) :: (nat_lit 276, ob276 P) :: (nat_lit 277, ob277 P) :: (nat_lit 285, ob285 P) :: (nat_lit 286, ob286 P) :: (nat_lit 288, ob288 P) :: (nat_lit 289, ob289 P) :: (nat_lit 291, ob291 P) :: (nat_lit 292, ob292 P) :: (nat_lit 293, ob293 P) :: (nat_lit 295, ob295 P) :: (nat_lit 296, ob296 P) :: (nat_lit 298, ob298 P) :: (nat_lit 299, ob299 P) :: (nat_lit 300, ob300 P) :: (nat_lit 302, ob302 P) :: (nat_lit 303, ob303 P) :: (nat_lit 305, ob305 P) :: (nat_lit 306, ob306 P) :: (nat_lit 307, ob307 P) :: (nat_lit 308, ob308 P) :: (nat_lit 309, ob309_1 P) :: (nat_lit 310, ob310 P) :: (nat_lit 311, ob311 P) :: (nat_lit 314, ob314 P) :: (nat_lit 321, ob321 P) :: (nat_lit 323, ob323 P) :: (nat_lit 324, ob324 P) :: (nat_lit 326, ob326 P) :: (nat_lit 327, ob327 P) :: (nat_lit 328, ob328 P) :: (nat_lit 330, ob330 P) :: (nat_lit 331, ob331 P) :: (nat_lit 333, ob333 P) :: (nat_lit 334, ob334 P) :: (nat_lit 335, ob335 P) :: (nat_lit 337, ob337 P) :: (nat_lit 338, ob338 P) :: (nat_lit 340, ob340 P) :: (nat_lit 341, ob341 P) :: (nat_lit 342, ob342 P) :: (nat_lit 344, ob344 P) :: (nat_lit 345, ob345 P) :: (nat_lit 347, ob347 P) :: (nat_lit 348, ob348 P) :: (nat_lit 349, ob349 P) :: (nat_lit 351, ob351 P) :: (nat_lit 352, ob352 P) :: (nat_lit 354, ob354 P) :: (nat_lit 355, ob355 P) :: (nat_lit 356, ob356 P) :: (nat_lit 359, ob359 P) :: (nat_lit 360, ob360 P) :: (nat_lit 361, ob361 P) :: (nat_lit 362, ob362 P) :: (nat_lit 363, ob363 P) :: (nat_lit 366, ob366 P) :: (nat_lit 368, ob368 P) :: (nat_lit 369, ob369 P) :: (nat_lit 371, ob371 P) :: (nat_lit 372, ob372 P) :: (nat_lit 373, ob373 P) :: (nat_lit 376, ob376 P) :: (nat_lit 377, ob377 P) :: (nat_lit 378, ob378 P) :: (nat_lit 380, ob380 P) :: (nat_lit 381, ob381 P) :: (nat_lit 383, ob383 P) :: (nat_lit 384, ob384 P) :: (nat_lit 385, ob385 P) :: (nat_lit 388, ob388 P) :: (nat_lit 389, ob389 P) :: (nat_lit 390, ob390 P) :: (nat_lit 392, ob392 P) :: (nat_lit 393, ob393 P) :: (nat_lit 395, ob395 P) :: (nat_lit 396, ob396 P) :: (nat_lit 397, ob397 P) :: (nat_lit 399, ob399 P) :: (nat_lit 400, ob400 P) :: (nat_lit 402, ob402 P) :: (nat_lit 403, ob403 P) :: (nat_lit 404, ob404 P) :: (nat_lit 406, ob406 P) :: (nat_lit 407, ob407 P) :: (nat_lit 409, ob409 P) :: (nat_lit 410, ob410 P) :: (nat_lit 411, ob411 P) :: (nat_lit 413, ob413 P) :: (nat_lit 414, ob414 P) :: (nat_lit 416, ob416 P) :: (nat_lit 417, ob417 P) :: (nat_lit 418, ob418 P) :: (nat_lit 420, ob420 P) :: (nat_lit 421, ob421 P) :: (nat_lit 423, ob423 P) :: (nat_lit 424, ob424 P) :: (nat_lit 425, ob425 P) :: (nat_lit 428, ob428 P) :: (nat_lit 429, ob429 P) :: [])
noncomputable def KA : List Addr := (nat_lit 2 :: nat_lit 3 :: nat_lit 15 :: nat_lit 17 :: nat_lit 18 :: nat_lit 20 :: nat_lit 21 :: nat_lit 22 :: nat_lit 29 :: nat_lit 30 :: nat_lit 32 :: nat_lit 33 :: nat_lit 35 :: nat_lit 36 :: nat_lit 37 :: nat_lit 39 :: nat_lit 40 :: nat_lit 42 :: nat_lit 43 :: nat_lit 44 :: nat_lit 45 :: nat_lit 46 :: nat_lit 47 :: nat_lit 50 :: nat_lit 57 :: nat_lit 58 :: nat_lit 59 :: nat_lit 69 :: nat_lit 71 :: nat_lit 72 :: nat_lit 74 :: nat_lit 75 :: nat_lit 76 :: nat_lit 78 :: nat_lit 79 :: nat_lit 81 :: nat_lit 82 :: nat_lit 83 :: nat_lit 85 :: nat_lit 86 :: nat_lit 88 :: nat_lit 89 :: nat_lit 90 :: nat_lit 92 :: nat_lit 93 :: nat_lit 95 :: nat_lit 96 :: nat_lit 97 :: nat_lit 99 :: nat_lit 100 :: nat_lit 102 :: nat_lit 103 :: nat_lit 104 :: nat_lit 106 :: nat_lit 107 :: nat_lit 109 :: nat_lit 110 :: nat_lit 111 :: nat_lit 113 :: nat_lit 114 :: nat_lit 116 :: nat_lit 117 :: nat_lit 118 :: nat_lit 120 :: nat_lit 121 :: nat_lit 123 :: nat_lit 124 :: nat_lit 125 :: nat_lit 127 :: nat_lit 128 :: nat_lit 130 :: nat_lit 131 :: nat_lit 132 :: nat_lit 134 :: nat_lit 135 :: nat_lit 137 :: nat_lit 138 :: nat_lit 139 :: nat_lit 141 :: nat_lit 142 :: nat_lit 144 :: nat_lit 145 :: nat_lit 146 :: nat_lit 148 :: nat_lit 149 :: nat_lit 151 :: nat_lit 152 :: nat_lit 153 :: nat_lit 154 :: nat_lit 155 :: nat_lit 156 :: nat_lit 157 :: nat_lit 160 :: nat_lit 162 :: nat_lit 163 :: nat_lit 165 :: nat_lit 166 :: nat_lit 174 :: nat_lit 176 :: nat_lit 177 :: nat_lit 179 :: nat_lit 180 :: nat_lit 181 :: nat_lit 182 :: nat_lit 183 :: nat_lit 184 :: nat_lit 185 :: nat_lit 195 :: nat_lit 196 :: nat_lit 198 :: nat_lit 199 :: nat_lit 201 :: nat_lit 202 :: nat_lit 203 :: nat_lit 204 :: nat_lit 205 :: nat_lit 206 :: nat_lit 207 :: nat_lit 217 :: nat_lit 219 :: nat_lit 220 :: nat_lit 222 :: nat_lit 223 :: nat_lit 224 :: nat_lit 225 :: nat_lit 226 :: nat_lit 227 :: nat_lit 228 :: nat_lit 238 :: nat_lit 240 :: nat_lit 241 :: nat_lit 243 :: nat_lit 244 :: nat_lit 245 :: nat_lit 247 :: nat_lit 248 :: nat_lit 250 :: nat_lit 251 :: nat_lit 252 :: nat_lit 253 :: nat_lit 254 :: nat_lit 255 :: nat_lit 256 :: nat_lit 259 :: nat_lit 261 :: nat_lit 262 :: nat_lit 264 :: nat_lit 265 :: nat_lit 266 :: nat_lit 268 :: nat_lit 269 :: nat_lit 271 :: nat_lit 272 :: nat_lit 273 :: nat_lit 276 :: nat_lit 277 :: nat_lit 285 :: nat_lit 286 :: nat_lit 288 :: nat_lit 289 :: nat_lit 291 :: nat_lit 292 :: nat_lit 293 :: nat_lit 295 :: nat_lit 296 :: nat_lit 298 :: nat_lit 299 :: nat_lit 300 :: nat_lit 302 :: nat_lit 303 :: nat_lit 305 :: nat_lit 306 :: nat_lit 307 :: nat_lit 308 :: nat_lit 309 :: nat_lit 310 :: nat_lit 311 :: nat_lit 314 :: nat_lit 321 :: nat_lit 323 :: nat_lit 324 :: nat_lit 326 :: nat_lit 327 :: nat_lit 328 :: nat_lit 330 :: nat_lit 331 :: nat_lit 333 :: nat_lit 334 :: nat_lit 335 :: nat_lit 337 :: nat_lit 338 :: nat_lit 340 :: nat_lit 341 :: nat_lit 342 :: nat_lit 344 :: nat_lit 345 :: nat_lit 347 :: nat_lit 348 :: nat_lit 349 :: nat_lit 351 :: nat_lit 352 :: nat_lit 354 :: nat_lit 355 :: nat_lit 356 :: nat_lit 359 :: nat_lit 360 :: nat_lit 361 :: nat_lit 362 :: nat_lit 363 :: nat_lit 366 :: nat_lit 368 :: nat_lit 369 :: nat_lit 371 :: nat_lit 372 :: nat_lit 373 :: nat_lit 376 :: nat_lit 377 :: nat_lit 378 :: nat_lit 380 :: nat_lit 381 :: nat_lit 383 :: nat_lit 384 :: nat_lit 385 :: nat_lit 388 :: nat_lit 389 :: nat_lit 390 :: nat_lit 392 :: nat_lit 393 :: nat_lit 395 :: nat_lit 396 :: nat_lit 397 :: nat_lit 399 :: nat_lit 400 :: nat_lit 402 :: nat_lit 403 :: nat_lit 404 :: nat_lit 406 :: nat_lit 407 :: nat_lit 409 :: nat_lit 410 :: nat_lit 411 :: nat_lit 413 :: nat_lit 414 :: nat_lit 416 :: nat_lit 417 :: nat_lit 418 :: nat_lit 420 :: nat_lit 421 :: nat_lit 423 :: nat_lit 424 :: nat_lit 425 :: nat_lit 428 :: nat_lit 429 :: [])
/-! HdB -/
noncomputable def bodyE : List Stmt := behindTheImports Pg
noncomputable def envE : Env := { scope := Pg.main.scope, locals := mainNs, globals := mainNs, cells := [], code := .ref 13, frame := some 14 }
noncomputable def codeE : Code := .body bodyE envE
abbrev annE : Option Value := some (.ref 6)
abbrev posE : Pos := ⟨0, 0, 0, 0⟩
abbrev frE : List Frame := [topFrame posE]
noncomputable abbrev st0 (w : World) (os : OsState) : SharedT := ⟨tree0 w.params, 15, {}, #[], boot_drawn, 187, os⟩
noncomputable abbrev st1 (w : World) (os : OsState) : SharedT := ⟨tree1 w.params, 160, {}, #[], boot_drawn, 368, os⟩
noncomputable abbrev st2 (w : World) (os : OsState) : SharedT := ⟨tree2 w.params, 259, {}, #[], boot_drawn, 508, os⟩
noncomputable abbrev st3 (w : World) (os : OsState) : SharedT := ⟨tree3 w.params, 314, {}, #[], boot_drawn, 582, os⟩
noncomputable abbrev st4 (w : World) (os : OsState) : SharedT := ⟨tree4 w.params, 385, {}, #[], boot_drawn, 676, os⟩
theorem preE (w : World) : (fun os => topGo treeTable Pg w 11 annE 12 ⟨boot_heap w.params, #[], boot_drawn, boot_toks, os⟩ (topStub Pg)) = fun os => some ((st0 w os).abs, ⟨denote treeTable codeE, codeE, posE, frE⟩) := by kernel_rfl
theorem blockE (w : World) : (fun os => segRun treeTable Pg w 11 annE 1 1 (st0 w os).abs (blockOf bodyE envE codeE posE frE)) = fun os => some (.next, (st0 w os).abs, codeE, posE) := by kernel_rfl
theorem runE1 (w : World) : (fun os => segRunT treeTable Pg w 11 annE 1 1100 (st0 w os) (piecesOf (bodyE.take 6) envE codeE ⟨0, 0, 0, 0⟩ frE)) = fun os => some (.next, st1 w os, codeE, ⟨17, 0, 61, 16⟩) := by kernel_rfl
theorem runE2 (w : World) : (fun os => segRunT treeTable Pg w 11 annE 1 974 (st1 w os) (piecesOf ((bodyE.drop 6).take 7) envE codeE ⟨17, 0, 61, 16⟩ frE)) = fun os => some (.next, st2 w os, codeE, ⟨80, 0, 87, 45⟩) := by kernel_rfl
theorem runE3 (w : World) : (fun os => segRunT treeTable Pg w 11 annE 1 390 (st2 w os) (piecesOf (((bodyE.drop 6).drop 7).take 5) envE codeE ⟨80, 0, 87, 45⟩ frE)) = fun os => some (.next, st3 w os, codeE, ⟨134, 0, 152, 40⟩) := by kernel_rfl
theorem runE4 (w : World) : (fun os => segRunT treeTable Pg w 11 annE 1 511 (st3 w os) (piecesOf ((((bodyE.drop 6).drop 7).drop 5).take 6) envE codeE ⟨134, 0, 152, 40⟩ frE)) = fun os => some (.next, st4 w os, codeE, ⟨191, 0, 197, 16⟩) := by kernel_rfl
theorem finE (w : World) : (fun s => topRun treeTable Pg w 11 annE 2 s ⟨doneF .next, codeE, ⟨251, 0, 279, 33⟩, frE⟩) = fun s => some s := by kernel_rfl
/-! HdC -/
noncomputable def viewE : Program := view Pg [0, 2, 3, 5, 6, 8, 9, 10, 11, 12, 13, 14, 15, 16, 17, 18, 20, 21, 22, 23, 25, 26, 27, 28, 29, 30, 31]
abbrev looseE : List Str := [Str.ofString "PaperError", Str.ofString "told_objects"]
noncomputable abbrev rowE : RowW := PySem.Challenge.rw_og0165_01.row.toRowW
noncomputable abbrev seesE : Shared → Bool := fun s => xlAt viewE [] s && recOk (RowW.records rowE) s
theorem KA_eq : ∀ P, KA = (KF P).map (·.1) := fun _ => by kernel_rfl
noncomputable abbrev hookE : Hook := kmHook KF KA KA_eq [426]
noncomputable abbrev looksE (h : Heap) (s : Shared) := ((staticsOk (importedModules Pg.main.body) h s.heap && namesBound Pg s.heap && gensDone s && laidKept h s.heap), openSeen viewE looseE (importedModules Pg.main.body) seesE true s, hookE.obs s)
theorem lastE (w : World) : (fun os => (segRunT treeTable Pg w 11 annE 1 223 (st4 w os) (piecesOf ((((bodyE.drop 6).drop 7).drop 5).drop 6) envE codeE ⟨191, 0, 197, 16⟩ frE)).map fun r => (r.1, r.2.2, looksE (boot_heap w.params) r.2.1.abs)) =
    fun os => some (.next, (codeE, ⟨251, 0, 279, 33⟩), (true, openGood viewE looseE, hookE.val w)) := by kernel_rfl
theorem sizeE (w : World) : ((boot_heap w.params).isNs mainGlobals && (Array.mk ([] : List GenState)).size == 0, (boot_heap w.params).objs.size, (boot_heap w.params).nsMap mainGlobals "__annotations__") = (true, 11, annE) := by kernel_rfl
theorem openE : opening Pg = plainProg Pg.main.scope.names := by kernel_rfl
theorem fenceE (s : Shared) : fenceModules? Pg s = some s := by kernel_rfl
theorem left_of {p q : Program} {loose : List Str} {Xt : Shared → Bool} {α : Type} {Yf : Shared → α} {Ya : World → α} {N m : Nat} {ann : Option Value} {w : World} {s₀ s₁ : Shared}
    (h0 : fencedOpening treeTable p w N = some s₀) (z1 : (s₀.heap.isNs mainGlobals && s₀.gens.size == 0) = true) (z2 : s₀.heap.objs.size = m) (z3 : s₀.heap.nsMap mainGlobals "__annotations__" = ann)
    (r : topRun treeTable p w m ann N s₀ (topStub p) = some s₁) (l1 : (staticsOk (importedModules p.main.body) s₀.heap s₁.heap && namesBound p s₁.heap && gensDone s₁ && laidKept s₀.heap s₁.heap) = true)
    (l2 : (openSeen q loose (importedModules p.main.body) Xt true s₁, Yf s₁) = (openGood q loose, Ya w)) :
    (openEnds treeTable p w N).map (fun s => (openSeen q loose (importedModules p.main.body) Xt true s, Yf s)) = some (openGood q loose, Ya w) := by
  subst z2 z3
  have t : topFrom treeTable p w N s₀ = some s₁ := by
    unfold topFrom
    rw [z1]
    dsimp only
    rw [r]
    show (match staticsOk (importedModules p.main.body) s₀.heap s₁.heap && namesBound p s₁.heap && gensDone s₁ && laidKept s₀.heap s₁.heap with | true => some s₁ | false => none) = _
    rw [l1]
  unfold openEnds
  rw [h0]
  show (topFrom treeTable p w N s₀).map _ = _
  rw [t]
  exact congrArg some l2
theorem eq_three {α β γ : Type} {a a' : α} {b b' : β} {c c' : γ} (h : (a, b, c) = (a', b', c')) : a = a' ∧ b = b' ∧ c = c' := by
  cases h; exact ⟨rfl, rfl, rfl⟩
theorem eq_two {α β : Type} {a a' : α} {b b' : β} (h : (a, b) = (a', b')) : a = a' ∧ b = b' := by
  cases h; exact ⟨rfl, rfl⟩
theorem opened_of {p : Program} {w : World} {N : Nat} {h : Heap} {gs : Array GenState} {d : Drawn} {k : Nat} (e : (fencedOpening treeTable p w N).map (fun s => (s.heap, s.gens, s.drawn, s.toks)) = some (h, gs, d, k)) :
    ∃ os, fencedOpening treeTable p w N = some ⟨h, gs, d, k, os⟩ := by
  obtain ⟨⟨h1, gs1, d1, k1, os⟩, q, e1⟩ := Option.map_eq_some_iff.mp e
  cases e1
  exact ⟨os, q⟩
theorem leftE : LeftO Pg viewE looseE seesE hookE.obs hookE.val 6512 := fun w => by
  obtain ⟨os, e⟩ := opened_of (boot_open (N := 6512) openE rfl fenceE w)
  obtain ⟨⟨f, sT, c, ps⟩, hr, hv⟩ := Option.map_eq_some_iff.mp (congrFun (lastE w) os)
  obtain ⟨rfl, hc, hl⟩ := eq_three hv
  obtain ⟨rfl, rfl⟩ := eq_two hc
  obtain ⟨l1, l2⟩ := eq_two hl
  have r3 := piece_app (rest := []) (segRun_of hr) (piece_nil (congrFun (finE w) sT.abs))
  rw [List.append_nil] at r3
  have q4 := r3
  have q3 := piece_app (rest := ((((bodyE.drop 6).drop 7).drop 5).drop 6)) (segRun_of (congrFun (runE4 w) os)) q4
  rw [List.take_append_drop] at q3
  have q2 := piece_app (rest := (((bodyE.drop 6).drop 7).drop 5)) (segRun_of (congrFun (runE3 w) os)) q3
  rw [List.take_append_drop] at q2
  have q1 := piece_app (rest := ((bodyE.drop 6).drop 7)) (segRun_of (congrFun (runE2 w) os)) q2
  rw [List.take_append_drop] at q1
  have q0 := piece_app (rest := (bodyE.drop 6)) (segRun_of (congrFun (runE1 w) os)) q1
  rw [List.take_append_drop] at q0
  have r0 := topRun_mono 3299 _ _ _ _ (go_top (congrFun (preE w) os) (piece_block (congrFun (blockE w) os) q0))
  obtain ⟨z1, z2, z3⟩ := eq_three (sizeE w)
  exact left_of e z1 z2 z3 r0 l1 l2
/-! MBase -/
noncomputable abbrev KK (w : World) : Frag := KF w.params
abbrev Sub (g h : Heap) : Prop := ∀ b o, g.get? b = some o → h.get? b = some o
theorem Sub.rfl' (g : Heap) : Sub g g := fun _ _ e => e
theorem Sub.tr {a b c : Heap} (x : Sub a b) (y : Sub b c) : Sub a c := fun q o e => y q o (x q o e)
/-- the ground facts of the top, at a heap -/
structure Gr (w : World) (mg mb : Str → Option Value) (B : Heap) : Prop where
  X : (KK w).In B
  g : B.Ns mainGlobals mg
  b : B.Ns builtinsNs mb
  nolimit : B.NoLimit
  builtins : ∀ x : Str, x ≠ "__name__" → mb x = bootBuiltins x
  bmain : ∃ bm ob, mg "__builtins__" = some (.ref bm) ∧ bm ≠ builtinsNs ∧ B.get? bm = some ob ∧ ob.cls = .type "module" ∧ ob.dict = some builtinsNs ∧ ob.data = .plain
theorem Gr.keeps {w mg mb} {B h : Heap} (G : Gr w mg mb B) (k : Sub B h) : Gr w mg mb h where
  X := G.X.keeps k
  g := G.g.keeps k
  b := G.b.keeps k
  nolimit := G.nolimit.keeps k
  builtins := G.builtins
  bmain := let ⟨bm, ob, h1, h2, h3, r⟩ := G.bmain; ⟨bm, ob, h1, h2, k _ _ h3, r⟩
/-- what a call may do: all that stood stands, the ground grows by new objects alone -/
structure Grow (g₀ h₀ g h : Heap) : Prop where
  kg : Sub g₀ g
  st : Sub g h
  kh : Sub h₀ h
  fr : ∀ b o, h₀.get? b = some o → g₀.get? b = none → g.get? b = none
theorem Grow.refl {g h : Heap} (k : Sub g h) : Grow g h g h := ⟨Sub.rfl' _, k, Sub.rfl' _, fun _ _ _ e => e⟩
theorem Grow.trans {g₀ h₀ g₁ h₁ g₂ h₂ : Heap} (x : Grow g₀ h₀ g₁ h₁) (y : Grow g₁ h₁ g₂ h₂) : Grow g₀ h₀ g₂ h₂ :=
  ⟨x.kg.tr y.kg, y.st, x.kh.tr y.kh, fun b o e n => y.fr b o (x.kh _ _ e) (x.fr b o e n)⟩
/-- what is asked of an object that may still turn -/
abbrev Ob := Obj → Prop
abbrev listP (vs : List Value) : Ob := fun o => o.cls = .type "list" ∧ ∃ n, o.data = .seq vs.toArray n
abbrev tupP (vs : List Value) : Ob := fun o => o.cls = .type "tuple" ∧ ∃ n, o.data = .seq vs.toArray n
abbrev cellP (v : Option Value) : Ob := fun o => o.data = .cell v
abbrev isP (o : Obj) : Ob := fun x => x = o
/-- a frame at work: (g₀, h₀) the ground and the heap at its entry, g the ground now, L its locals, m what they hold, mus the objects that may still turn -/
structure FN (w : World) (mg mb : Str → Option Value) (g₀ h₀ g : Heap) (L : Addr) (h : Heap) (m : Str → Option Value) (mus : List (Addr × Ob)) : Prop extends Grow g₀ h₀ g h where
  gr : Gr w mg mb g₀
  ns : h.Ns L m
  oL : h₀.get? L = none
  gL : g.get? L = none
  nw : ∀ p ∈ mus, (∃ o, h.get? p.1 = some o ∧ p.2 o) ∧ p.1 ≠ L ∧ g.get? p.1 = none ∧ h₀.get? p.1 = none
  nd : mus.Pairwise fun p q => p.1 ≠ q.1
section
variable {w : World} {mg mb : Str → Option Value} {g₀ h₀ g h h' g' : Heap} {L : Addr} {m m' : Str → Option Value} {mus mus' : List (Addr × Ob)}
theorem FN.G (F : FN w mg mb g₀ h₀ g L h m mus) : Gr w mg mb g := F.gr.keeps F.kg
theorem FN.GH (F : FN w mg mb g₀ h₀ g L h m mus) : Gr w mg mb h := F.G.keeps F.st
theorem FN.ret (F : FN w mg mb g₀ h₀ g L h m mus) : Grow g₀ h₀ g h := F.toGrow
theorem FN.set (F : FN w mg mb g₀ h₀ g L h m mus) (hn : h'.Ns L m') (hs : Heap.SameBut L h h') : FN w mg mb g₀ h₀ g L h' m' mus where
  kg := F.kg
  st := fun b o e => (hs.2 b (fun q => by rw [q, F.gL] at e; cases e)).trans (F.st b o e)
  kh := fun b o e => (hs.2 b (fun q => by rw [q, F.oL] at e; cases e)).trans (F.kh b o e)
  fr := F.fr
  gr := F.gr
  ns := hn
  oL := F.oL
  gL := F.gL
  nw := fun p hp => let ⟨⟨o, ho, hP⟩, r⟩ := F.nw p hp; ⟨⟨o, (hs.2 p.1 r.1).trans ho, hP⟩, r⟩
  nd := F.nd
theorem FN.sub (F : FN w mg mb g₀ h₀ g L h m mus) (hs : mus'.Sublist mus) : FN w mg mb g₀ h₀ g L h m mus' :=
  ⟨F.toGrow, F.gr, F.ns, F.oL, F.gL, fun p hp => F.nw p (hs.subset hp), F.nd.sublist hs⟩
theorem FN.perm (F : FN w mg mb g₀ h₀ g L h m mus) (hs : mus'.Perm mus) : FN w mg mb g₀ h₀ g L h m mus' :=
  ⟨F.toGrow, F.gr, F.ns, F.oL, F.gL, fun p hp => F.nw p (hs.mem_iff.mp hp), (hs.pairwise_iff (fun {_ _} e => e.symm)).mpr F.nd⟩
theorem FN.tl {p : Addr × Ob} (F : FN w mg mb g₀ h₀ g L h m (p :: mus)) : FN w mg mb g₀ h₀ g L h m mus := F.sub (List.sublist_cons_self _ _)
theorem FN.swap {p q : Addr × Ob} (F : FN w mg mb g₀ h₀ g L h m (p :: q :: mus)) : FN w mg mb g₀ h₀ g L h m (q :: p :: mus) := F.perm (List.Perm.swap _ _ _)
theorem FN.hd {p : Addr × Ob} (F : FN w mg mb g₀ h₀ g L h m (p :: mus)) : ∀ q ∈ mus, q.1 ≠ p.1 := fun q hq => ((List.pairwise_cons.mp F.nd).1 q hq).symm
theorem FN.weak {d : Addr} {P P' : Ob} (F : FN w mg mb g₀ h₀ g L h m ((d, P) :: mus)) (hP : ∀ o, P o → P' o) : FN w mg mb g₀ h₀ g L h m ((d, P') :: mus) :=
  ⟨F.toGrow, F.gr, F.ns, F.oL, F.gL, fun p hp => by
    rcases List.mem_cons.mp hp with rfl | hp
    · obtain ⟨⟨o, ho, h1⟩, r⟩ := F.nw (d, P) (.head _)
      exact ⟨⟨o, ho, hP o h1⟩, r⟩
    · exact F.nw p (.tail _ hp), List.pairwise_cons.mpr (List.pairwise_cons.mp F.nd)⟩
theorem none_of_sub {a b : Heap} (k : Sub a b) {x : Addr} (e : b.get? x = none) : a.get? x = none := by
  cases q : a.get? x with
  | none => rfl
  | some o => rw [k x o q] at e; cases e
theorem FN.fresh (F : FN w mg mb g₀ h₀ g L h m mus) {a : Addr} (ha : h.objs.size ≤ a) : h.get? a = none ∧ g.get? a = none ∧ h₀.get? a = none := by
  have q : h.get? a = none := Heap.get?_none_of_le ha
  exact ⟨q, none_of_sub F.st q, none_of_sub F.kh q⟩
theorem FN.ltL (F : FN w mg mb g₀ h₀ g L h m mus) : L < h.objs.size := F.ns.lt
theorem FN.add {p : Addr} {P : Ob} (F : FN w mg mb g₀ h₀ g L h m mus) (h1 : ∃ o, h.get? p = some o ∧ P o) (h2 : p ≠ L) (h3 : g.get? p = none) (h4 : h₀.get? p = none) (h5 : ∀ q ∈ mus, q.1 ≠ p) :
    FN w mg mb g₀ h₀ g L h m ((p, P) :: mus) :=
  ⟨F.toGrow, F.gr, F.ns, F.oL, F.gL, fun q hq => by
      rcases List.mem_cons.mp hq with rfl | hq
      · exact ⟨h1, h2, h3, h4⟩
      · exact F.nw q hq, List.pairwise_cons.mpr ⟨fun q hq => (h5 q hq).symm, F.nd⟩⟩
/-- more objects, none of the old turned -/
theorem FN.keep (F : FN w mg mb g₀ h₀ g L h m mus) (k : Sub h h') : FN w mg mb g₀ h₀ g L h' m mus where
  kg := F.kg
  st := F.st.tr k
  kh := F.kh.tr k
  fr := F.fr
  gr := F.gr
  ns := F.ns.keeps k
  oL := F.oL
  gL := F.gL
  nw := fun p hp => let ⟨⟨o, ho, hP⟩, r⟩ := F.nw p hp; ⟨⟨o, k _ _ ho, hP⟩, r⟩
  nd := F.nd
/-- a new object -/
theorem FN.new {a : Addr} {P : Ob} (F : FN w mg mb g₀ h₀ g L h m mus) (k : Sub h h') (ha : h.get? a = none) (hP : ∃ o, h'.get? a = some o ∧ P o) : FN w mg mb g₀ h₀ g L h' m ((a, P) :: mus) :=
  (F.keep k).add hP (fun q => by obtain ⟨o, _, _, ho, _⟩ := F.ns; rw [q, ho] at ha; cases ha) (none_of_sub F.st ha) (none_of_sub F.kh ha)
    (fun q hq e => by obtain ⟨o, ho, _⟩ := (F.nw q hq).1; rw [e, ha] at ho; cases ho)
theorem sub_push (h : Heap) (o : Obj) : Sub h (h.push o) := fun _ _ e => Heap.get?_push_of_some _ e
theorem FN.push (F : FN w mg mb g₀ h₀ g L h m mus) (o : Obj) (P : Ob) (hP : P o) (hf : o.isFreed = false := by rfl) : FN w mg mb g₀ h₀ g L (h.push o) m ((h.objs.size, P) :: mus) :=
  F.new (sub_push h o) (Heap.get?_none_of_le (Nat.le_refl _)) ⟨o, Heap.get?_push_size _ hf, hP⟩
/-- one object of mus turned, the others kept; perhaps new ones -/
theorem FN.upd {d : Addr} {P P' : Ob} (F : FN w mg mb g₀ h₀ g L h m ((d, P) :: mus)) (k : ∀ b x, b ≠ d → h.get? b = some x → h'.get? b = some x) (hd : ∃ o, h'.get? d = some o ∧ P' o) :
    FN w mg mb g₀ h₀ g L h' m ((d, P') :: mus) := by
  have D := F.nw (d, P) (.head _)
  have hm := F.hd
  refine ⟨⟨F.kg, fun b x e => k b x (fun q => ?_) (F.st b x e), fun b x e => k b x (fun q => ?_) (F.kh b x e), F.fr⟩, F.gr, ?_, F.oL, F.gL, fun p hp => ?_, List.pairwise_cons.mpr (List.pairwise_cons.mp F.nd)⟩
  · rw [q, D.2.2.1] at e; cases e
  · rw [q, D.2.2.2] at e; cases e
  · obtain ⟨x, es, ep, hx, r⟩ := F.ns
    exact ⟨x, es, ep, k _ _ (Ne.symm D.2.1) hx, r⟩
  · rcases List.mem_cons.mp hp with rfl | hp
    · exact ⟨hd, D.2⟩
    · obtain ⟨⟨o, ho, hP⟩, r⟩ := F.nw p (.tail _ hp)
      exact ⟨⟨o, k _ _ (hm p hp) ho, hP⟩, r⟩
/-- one object of mus turned in no known way: it is let go -/
theorem FN.drop {d : Addr} {P : Ob} (F : FN w mg mb g₀ h₀ g L h m ((d, P) :: mus)) (k : ∀ b x, b ≠ d → h.get? b = some x → h'.get? b = some x) : FN w mg mb g₀ h₀ g L h' m mus := by
  have D := F.nw (d, P) (.head _)
  have hm := F.hd
  refine ⟨⟨F.kg, fun b x e => k b x (fun q => ?_) (F.st b x e), fun b x e => k b x (fun q => ?_) (F.kh b x e), F.fr⟩, F.gr, ?_, F.oL, F.gL, fun p hp => ?_, (List.pairwise_cons.mp F.nd).2⟩
  · rw [q, D.2.2.1] at e; cases e
  · rw [q, D.2.2.2] at e; cases e
  · obtain ⟨x, es, ep, hx, r⟩ := F.ns
    exact ⟨x, es, ep, k _ _ (Ne.symm D.2.1) hx, r⟩
  · obtain ⟨⟨o, ho, hP⟩, r⟩ := F.nw p (.tail _ hp)
    exact ⟨⟨o, k _ _ (hm p hp) ho, hP⟩, r⟩
/-- a call came back -/
theorem FN.after (F : FN w mg mb g₀ h₀ g L h m mus) (x : Grow g h g' h') : FN w mg mb g₀ h₀ g' L h' m mus where
  kg := F.kg.tr x.kg
  st := x.st
  kh := F.kh.tr x.kh
  fr := fun b o e n => x.fr b o (F.kh _ _ e) (F.fr b o e n)
  gr := F.gr
  ns := F.ns.keeps x.kh
  oL := F.oL
  gL := let ⟨o, _, _, ho, _⟩ := F.ns; x.fr L o ho F.gL
  nw := fun p hp => let ⟨⟨o, ho, hP⟩, r⟩ := F.nw p hp; ⟨⟨o, x.kh _ _ ho, hP⟩, r.1, x.fr _ _ ho r.2.1, r.2.2⟩
  nd := F.nd
/-- a call came back that turned one object of mus -/
theorem FN.afterM {d : Addr} {P P' : Ob} (F : FN w mg mb g₀ h₀ g L h m ((d, P) :: mus)) (x : Grow g (h.hide d) g' h') (hd : ∃ o, h'.get? d = some o ∧ P' o) (hg : g'.get? d = none) :
    FN w mg mb g₀ h₀ g' L h' m ((d, P') :: mus) := by
  have D := F.nw (d, P) (.head _)
  have hm := F.hd
  have k : ∀ b y, b ≠ d → h.get? b = some y → h'.get? b = some y := fun b y hb e => x.kh b y ((Heap.hide_ne h hb).trans e)
  have fr : ∀ b y, h.get? b = some y → g.get? b = none → g'.get? b = none := fun b y e n => by
    by_cases hb : b = d
    · rw [hb]; exact hg
    · exact x.fr b y ((Heap.hide_ne h hb).trans e) n
  refine ⟨⟨F.kg.tr x.kg, x.st, fun b y e => k b y (fun q => ?_) (F.kh b y e), fun b y e n => fr b y (F.kh _ _ e) (F.fr b y e n)⟩, F.gr, ?_, F.oL, ?_, fun p hp => ?_, List.pairwise_cons.mpr (List.pairwise_cons.mp F.nd)⟩
  · rw [q, D.2.2.2] at e; cases e
  · obtain ⟨y, es, ep, hy, r⟩ := F.ns
    exact ⟨y, es, ep, k _ _ (Ne.symm D.2.1) hy, r⟩
  · obtain ⟨y, _, _, hy, _⟩ := F.ns
    exact fr L y hy F.gL
  · rcases List.mem_cons.mp hp with rfl | hp
    · exact ⟨hd, D.2.1, hg, D.2.2.2⟩
    · obtain ⟨⟨o, ho, hP⟩, r⟩ := F.nw p (.tail _ hp)
      exact ⟨⟨o, k _ _ (hm p hp) ho, hP⟩, r.1, fr _ _ ho r.2.1, r.2.2⟩
theorem FN.list {l : Addr} {vs : List Value} (F : FN w mg mb g₀ h₀ g L h m mus) (hm : (l, listP vs) ∈ mus) : h.IsList l vs.toArray :=
  let ⟨⟨o, ho, hc, n, hd⟩, _⟩ := F.nw _ hm; ⟨o, ho, hc, n, hd⟩
theorem FN.tup {l : Addr} {vs : List Value} (F : FN w mg mb g₀ h₀ g L h m mus) (hm : (l, tupP vs) ∈ mus) : h.IsTuple l vs.toArray :=
  let ⟨⟨o, ho, hc, n, hd⟩, _⟩ := F.nw _ hm; ⟨o, ho, hc, n, hd⟩
theorem FN.cell {l : Addr} {v : Option Value} (F : FN w mg mb g₀ h₀ g L h m mus) (hm : (l, cellP v) ∈ mus) : h.IsCell l v :=
  let ⟨⟨o, ho, hd⟩, _⟩ := F.nw _ hm; ⟨o, ho, hd⟩
theorem FN.at {l : Addr} {o : Obj} (F : FN w mg mb g₀ h₀ g L h m mus) (hm : (l, isP o) ∈ mus) : h.get? l = some o :=
  let ⟨⟨_, ho, e⟩, _⟩ := F.nw _ hm; e ▸ ho
theorem FN.offg {l : Addr} {P : Ob} (F : FN w mg mb g₀ h₀ g L h m mus) (hm : (l, P) ∈ mus) : g.get? l = none := (F.nw _ hm).2.2.1
/-- the heap kept at the addresses of P alone -/
noncomputable def only (h : Heap) (P : Addr → Prop) : Heap := by
  classical exact { h with objs := h.objs.mapIdx fun i o => if P i then o else { o with data := .freed } }
theorem only_some {h : Heap} {P : Addr → Prop} {b : Addr} {o : Obj} : (only h P).get? b = some o ↔ P b ∧ h.get? b = some o := by
  classical
  rw [Heap.get?_some_iff, Heap.get?_some_iff]
  unfold only
  simp only [Array.getElem?_mapIdx]
  by_cases hP : P b
  · simp only [hP, if_true, true_and]
    cases h.objs[b]? <;> simp
  · simp only [hP, if_false, false_and, iff_false]
    cases h.objs[b]? with
    | none => simp
    | some x =>
      simp only [Option.map_some, Option.some.injEq]
      rintro ⟨rfl, q⟩
      simp [Obj.isFreed] at q
/-- some of mus will turn no more: they go to the ground -/
theorem FN.freeze (mus' : List (Addr × Ob)) (F : FN w mg mb g₀ h₀ g L h m (mus ++ mus')) :
    ∃ g', FN w mg mb g₀ h₀ g' L h m mus' ∧ Sub g g' ∧ ∀ p ∈ mus, ∃ o, g'.get? p.1 = some o ∧ p.2 o := by
  have hd : ∀ p ∈ mus, ∀ q ∈ mus', p.1 ≠ q.1 := (List.pairwise_append.mp F.nd).2.2
  have key : ∀ b o, (only h fun b => (∃ o, g.get? b = some o) ∨ ∃ p ∈ mus, p.1 = b).get? b = some o ↔ (((∃ o, g.get? b = some o) ∨ ∃ p ∈ mus, p.1 = b) ∧ h.get? b = some o) := fun b o => only_some
  have nn : ∀ b, (¬ ∃ o, g.get? b = some o) → (¬ ∃ p ∈ mus, p.1 = b) → (only h fun b => (∃ o, g.get? b = some o) ∨ ∃ p ∈ mus, p.1 = b).get? b = none := fun b h1 h2 => by
    cases q : (only h fun b => (∃ o, g.get? b = some o) ∨ ∃ p ∈ mus, p.1 = b).get? b with
    | none => rfl
    | some o => exact absurd ((key b o).mp q).1 (by rintro (z | z); exact h1 z; exact h2 z)
  have no : ∀ {b}, g.get? b = none → ¬ ∃ o, g.get? b = some o := fun e ⟨o, q⟩ => by rw [q] at e; cases e
  have kg : Sub g (only h fun b => (∃ o, g.get? b = some o) ∨ ∃ p ∈ mus, p.1 = b) := fun b o e => (key b o).mpr ⟨.inl ⟨o, e⟩, F.st b o e⟩
  refine ⟨_, ⟨⟨F.kg.tr kg, fun b o e => ((key b o).mp e).2, F.kh, fun b o e n => ?_⟩, F.gr, F.ns, F.oL, ?_, fun p hp => ?_, (List.pairwise_append.mp F.nd).2.1⟩, kg, fun p hp => ?_⟩
  · refine nn b (no (F.fr b o e n)) ?_
    rintro ⟨p, hp, rfl⟩
    rw [(F.nw p (List.mem_append_left _ hp)).2.2.2] at e; cases e
  · refine nn L (no F.gL) ?_
    rintro ⟨p, hp, q⟩
    exact (F.nw p (List.mem_append_left _ hp)).2.1 q
  · have P := F.nw p (List.mem_append_right _ hp)
    refine ⟨P.1, P.2.1, nn _ (no P.2.2.1) ?_, P.2.2.2⟩
    rintro ⟨q, hq, e⟩
    exact hd q hq p hp e
  · obtain ⟨o, ho, hP⟩ := (F.nw p (List.mem_append_left _ hp)).1
    exact ⟨o, (key _ _).mpr ⟨.inr ⟨p, hp, rfl⟩, ho⟩, hP⟩
/-- all of mus go to the ground -/
theorem FN.freezeAll (F : FN w mg mb g₀ h₀ g L h m mus) : ∃ g', FN w mg mb g₀ h₀ g' L h m [] ∧ Sub g g' ∧ ∀ p ∈ mus, ∃ o, g'.get? p.1 = some o ∧ p.2 o :=
  FN.freeze (mus := mus) [] (by rw [List.append_nil]; exact F)
/-- the entry of a call: the ground of the caller, its whole heap -/
theorem FN.start {B : Heap} (G : Gr w mg mb g) (k : Sub g B) (hn : h.Ns L m) (kh : Sub B h) (hL : B.get? L = none) : FN w mg mb g B g L h m [] :=
  ⟨⟨Sub.rfl' _, k.tr kh, kh, fun _ _ _ e => e⟩, G, hn, hL, none_of_sub k hL, (fun _ hp => nomatch hp), List.Pairwise.nil⟩
end
section
variable {M : Model} {A : Around} {E : Value → Shared → Prop} {s : Shared} {w : World} {mg mb : Str → Option Value} {g₀ h₀ g : Heap} {L a c : Addr} {m : Str → Option Value} {mus : List (Addr × Ob)} {cn : Str} {cs : Scope} {ccd : Value} {cl : List (Str × Addr)}
  {x : Str} {pos : Pos} {v : Value} {o : Obj}
theorem nL {Q : Value → Shared → Prop} {env : Env} (F : FN w mg mb g₀ h₀ g L s.heap m mus) (hv : m x = some v) (h : Q v s)
    (hk : env.scope.kind = .function) (hL : env.locals = L) (hx : env.kindOf x = some .local) (hd : (x == ("__debug__" : Str)) = false := by decide) :
    wpAny M A (eval (.Name x pos) env) Q E s := by subst hL; exact wpAny_Name (wpAny_loadName_local hk hx F.ns hv h) hd
theorem nG {Q : Value → Shared → Prop} {env : Env} (F : FN w mg mb g₀ h₀ g L s.heap m mus) (e : nsIn (KK w) mainGlobals x = some (some v)) (h : Q v s)
    (hk : env.scope.kind = .function) (hg : env.globals = mainGlobals) (hx : env.kindOf x = some .globalImplicit) (hd : (x == ("__debug__" : Str)) = false := by decide) :
    wpAny M A (eval (.Name x pos) env) Q E s := Name_function_global hk hx (loadGlobal_global (env := env) (hg ▸ F.GH.g) (mg_of F.GH.X F.GH.g e) h) hd
theorem nB {Q : Value → Shared → Prop} {env : Env} (F : FN w mg mb g₀ h₀ g L s.heap m mus) (e : nsIn (KK w) mainGlobals x = some none) (hv : bootBuiltins x = some v) (h : Q v s)
    (hk : env.scope.kind = .function) (hg : env.globals = mainGlobals) (hb : env.builtins = builtinsNs) (hx : env.kindOf x = some .globalImplicit) (hn : x ≠ "__name__" := by decide) (hd : (x == ("__debug__" : Str)) = false := by decide) :
    wpAny M A (eval (.Name x pos) env) Q E s :=
  Name_function_global hk hx (loadGlobal_builtin (env := env) (hg ▸ F.GH.g) (mg_none_of F.GH.X F.GH.g e) (hb ▸ F.GH.b) ((F.GH.builtins x hn).trans hv) h) hd
theorem nC {Q : Value → Shared → Prop} {env : Env} (hc : env.cells.lookup x = some c) (hv : s.heap.IsCell c (some v)) (h : Q v s)
    (hk : env.scope.kind = .function) (hx : env.kindOf x = some .cell) (hd : (x == ("__debug__" : Str)) = false := by decide) :
    wpAny M A (eval (.Name x pos) env) Q E s := wpAny_Name (wpAny_loadName_cell hk hx hc hv h) hd
theorem nF {Q : Value → Shared → Prop} {env : Env} (hc : env.cells.lookup x = some c) (hv : s.heap.IsCell c (some v)) (h : Q v s)
    (hk : env.scope.kind = .function) (hx : env.kindOf x = some .free) (hd : (x == ("__debug__" : Str)) = false := by decide) (hn : (x == ("__classdict__" : Str)) = false := by decide) :
    wpAny M A (eval (.Name x pos) env) Q E s := wpAny_Name (wpAny_loadName_free hk hx hc hv h hn) hd
theorem sL {Q : Unit → Shared → Prop} {env : Env} (F : FN w mg mb g₀ h₀ g L s.heap m mus)
    (h : ∀ h' tk, FN w mg mb g₀ h₀ g L h' (fun y => if y = x then some v else m y) mus → Q () { s with heap := h', toks := tk })
    (hk : env.scope.kind = .function) (hL : env.locals = L) (hx : env.kindOf x = some .local) : wpAny M A (storeName env x v) Q E s := by
  subst hL
  exact wpAny_storeName_local hx F.ns (fun h' hn hs => h h' _ (F.set hn hs)) (by rw [hk]; rfl)
end
/-! MCall -/
/-- the room one frame deeper -/
structure Deep (A : Around) (env : Env) (A₁ : Around) : Prop where
  depth : A₁.depth = A.depth + 1
  units : A₁.units = A.units + 3
  handled : A₁.handled = A.handled
  frames : A₁.frames = A.frames.map (env :: ·)
  guards : A₁.guards = A.guards
section
variable {A : Around} {s : Shared} {w : World} {mg mb : Str → Option Value} {g B : Heap} {R : Result → Shared → Prop}
  {name qual : Str} {params : Arguments} {body : List Stmt} {scope : Scope} {dV kV doc pm cdv ct oc : Value} {an od : Option Addr} {osl : Array (Option Value)} {f : Addr} {args : Args} {binds : List (Str × Value)}
/-- the entry of a def of the top without cells -/
theorem enter (G : Gr w mg mb g) (k : Sub g B) (kB : Sub B s.heap) (hroom : A.depth < recursionLimit)
    (ho : (KK w).lookup f = some ⟨oc, od, .func (fnOf name qual params body scope dV kV doc pm an cdv ct), osl⟩) (hcd : codeIn (KK w) cdv qual = true)
    (hbind : BindsTo s (fnOf name qual params body scope dV kV doc pm an cdv ct) args binds) (hloc : ∀ y ∈ binds, scope.names.lookup y.1 = some .local)
    (hcell : ∀ x ∈ scope.names, x.2 ≠ .cell)
    (hco : scope.isCoroutine = false) (hgen : scope.isGenerator = false) (hk : scope.kind = .function)
    (h : ∀ L h₁ A₁, FN w mg mb g B g L h₁ (fun y => binds.reverse.lookup y) [] → Sub s.heap h₁ → s.heap.get? L = none → Deep A (envX qual scope L f cdv []) A₁ →
      wpAny (model Pg w) A₁ (execs body (envX qual scope L f cdv []))
        (fun fl s' => R (.ok (.ret (match fl with | .ret v => v | _ => .none))) s')
        (fun e s' => wpAny (model Pg w) A₁ (leaving (envX qual scope L f cdv []) e) (fun _ s'' => R (.error e) s'') (fun e' s'' => R (.error e') s'') s')
        { s with heap := h₁, toks := s.toks + binds.length }) : codeAny (model Pg w) A (.call (.ref f) args) R s := by
  have X := G.X.keeps (k.tr kB)
  have hL : s.heap.get? s.heap.objs.size = none := Heap.get?_none_of_le (Nat.le_refl _)
  exact codeAny_call_def (fd := fnOf name qual params body scope dV kV doc pm an cdv ct) (body := body) (binds := binds) hroom (X _ _ ho) rfl (G.nolimit.keeps (k.tr kB)) (codeRec_of X hcd) rfl hbind hcell hloc
    (fun h₁ hns hk₁ => h _ h₁ _ (FN.start G k hns (kB.tr hk₁) (none_of_sub kB hL)) hk₁ hL ⟨rfl, rfl, rfl, rfl, rfl⟩) hco hgen hk
theorem sub_hide (h : Heap) (p : Addr) : Sub (h.hide p) h := fun _ _ e => Heap.of_hide e
theorem sub_hide_of {g h : Heap} {p : Addr} (k : Sub g h) (n : g.get? p = none) : Sub g (h.hide p) := fun b o e =>
  (Heap.hide_ne h (fun q => by rw [q, n] at e; cases e)).trans (k b o e)
theorem ite_t {c : Prop} [Decidable c] {a b : Prop} (h : decide c = true) (q : a) : ite c a b := by rw [if_pos (of_decide_eq_true h)]; exact q
theorem ite_f {c : Prop} [Decidable c] {a b : Prop} (h : decide c = false) (q : b) : ite c a b := by rw [if_neg (of_decide_eq_false h)]; exact q
end
/-! MOps -/
section
variable {A : Around} {E : Value → Shared → Prop} {s : Shared} {w : World} {mg mb : Str → Option Value} {g₀ h₀ g : Heap} {L : Addr} {m : Str → Option Value} {mus : List (Addr × Ob)}
theorem itemL {l : Addr} {vs : List Value} {value slice : PySem.Expr} {k : Int} {u : Tok} {v : Value} {Q : Value → Shared → Prop}
    (hl : s.heap.IsList l vs.toArray) (h0 : 0 ≤ k) (hhi : k < 2 ^ 63) (hx : vs[k.toNat]? = some v) (h : Q v s)
    (hs : subscripted slice false (.ref l) (.int k u) = operate [.ref l, .int k u] (getItem (.ref l) (.int k u))) :
    wpAny (model Pg w) A (subscriptTail value slice (.ref l) (.int k u)) Q E s :=
  tail_any hl.typeIs slot_list_getitem.lookup (wpAny_getItem_list hl h0 hhi (by simpa using hx) h) hs
theorem setL {l : Addr} {vs : List Value} {k : Int} {t : Tok} {v : Value} {Q : Unit → Shared → Prop} (F : FN w mg mb g₀ h₀ g L s.heap m ((l, listP vs) :: mus))
    (h0 : 0 ≤ k) (hhi : k < 2 ^ 63) (hn : k < vs.length)
    (h : ∀ h' tk, FN w mg mb g₀ h₀ g L h' m ((l, listP (vs.set k.toNat v)) :: mus) → Q () { s with heap := h', toks := tk }) :
    wpAny (model Pg w) A (setItem (.ref l) (.int k t) v) Q E s :=
  wpAny_setItem_list (F.list (.head _)) h0 hhi (by simpa using hn) fun h' hl' hs => h h' _ (F.upd (fun b x hb e => (hs.2 b hb).trans e)
    (let ⟨o, ho, hc, n, hd⟩ := hl'; ⟨o, ho, hc, n, by rw [hd]; simp⟩))
theorem lenL {l : Addr} {vs : List Value} {Q : Value → Shared → Prop} (hl : s.heap.IsList l vs.toArray) (hfit : vs.length < 2 ^ 62)
    (h : Q (.int (vs.length : Nat) (s.toks + 1)) { s with toks := s.toks + 1 + 1 }) : wpAny (model Pg w) A (call (.builtin "len") [.ref l]) Q E s :=
  Calls.call_len_list hl (by simp; omega) (by simpa using h)
end
theorem ints_get : ∀ {vs : List Value} {ns : List Int} {i : Nat}, IntsAre vs ns → i < vs.length → ∃ c t, vs[i]? = some (.int c t)
  | _, _, i, .nil, h => absurd h (Nat.not_lt_zero _)
  | _, _, 0, .cons _ _ _, _ => ⟨_, _, rfl⟩
  | _, _, i + 1, .cons _ _ r, h => by simpa using ints_get r (Nat.lt_of_succ_lt_succ h)
/-! MLoop -/
/-- an iterator: it walks n items, its object stands all the while -/
structure It (w : World) (A : Around) (I : Addr) (fp : List Addr) (n : Nat) (P : Nat → Value → Prop) (St : Nat → Heap → Prop) : Prop where
  W : Walks Pg w A I fp [I] n P St
  has : ∀ i h, St i h → ∃ o, h.get? I = some o
theorem It.list {w : World} {A : Around} (hh : A.handled = none) (I ax : Addr) (hne : ax ≠ I) (items : Array Value) :
    It w A I [I, ax] items.size (fun i v => items[i]? = some v) (fun i h => h.IsListIter I ax i ∧ h.IsList ax items) :=
  ⟨Walks.list hh I ax hne items, fun _ _ h => let ⟨⟨o, ho, _⟩, _⟩ := h; ⟨o, ho⟩⟩
section
variable {A : Around} {R : Result → Shared → Prop} {s : Shared} {w : World} {mg mb : Str → Option Value} {g₀ h₀ gs : Heap} {I D C L : Addr} {m₀ : Str → Option Value} {mus₀ : List (Addr × Ob)}
  {fp : List Addr} {n : Nat} {P : Nat → Value → Prop} {St : Nat → Heap → Prop}
theorem It.kept (W : It w A I fp n P St) (hfp : ∀ b ∈ fp, b = I ∨ (∃ o, gs.get? b = some o) ∨ ∃ o, h₀.get? b = some o)
    {i : Nat} {g g' h h' : Heap} {L : Addr} {m m' : Str → Option Value} {mus mus' : List (Addr × Ob)} {oI : Obj} (F1 : FN w mg mb g₀ h₀ g L h m mus) (F2 : FN w mg mb g₀ h₀ g' L h' m' mus') (k1 : Sub gs g) (k2 : Sub gs g')
    (m1 : (I, isP oI) ∈ mus) (m2 : (I, isP oI) ∈ mus') (st : St i h) : St i h' := W.W.frame i h h' st fun b hb o e => by
  rcases hfp b hb with rfl | ⟨o', e'⟩ | ⟨o', e'⟩
  · rw [F1.at m1] at e; cases e; exact F2.at m2
  · rw [F1.st _ _ (k1 _ _ e')] at e; cases e; exact F2.st _ _ (k2 _ _ e')
  · rw [F1.kh _ _ e'] at e; cases e; exact F2.kh _ _ e'
/-- the iterator took one step -/
theorem It.step (W : It w A I fp n P St) {i : Nat} {g h h' : Heap} {m : Str → Option Value} {mus : List (Addr × Ob)} {oI : Obj} (F : FN w mg mb g₀ h₀ g L h m ((I, isP oI) :: mus)) (st : St i h')
    (k : ∀ b o, b ∉ [I] → h.get? b = some o → h'.get? b = some o) : ∃ oI', FN w mg mb g₀ h₀ g L h' m ((I, isP oI') :: mus) := by
  obtain ⟨o, ho⟩ := W.has _ _ st
  exact ⟨o, F.upd (fun b x hb e => k b x (by simpa using hb) e) ⟨o, ho, rfl⟩⟩
/-- the loop of a list comprehension over any walk, without tests -/
theorem compLoop_FN {elt iter : PySem.Expr} {x : Str} {px : Pos} {scope : Scope} {pos : Pos} {cenv : Env}
    (W : It w A I fp n P St) (Inv : Nat → Heap → List (Addr × Ob) → List Value → Prop)
    (hC : cenv.locals = C) (hx : cenv.kindOf x = some .local) (hp : (cenv.scope.kind == .class || (cenv.scope.kind == .module && cenv.locals != cenv.globals)) = false)
    (hfp : ∀ b ∈ fp, b = I ∨ (∃ o, gs.get? b = some o) ∨ ∃ o, h₀.get? b = some o) (hn : n ≤ sizeLine) {oI : Obj}
    (F : FN w mg mb g₀ h₀ gs C s.heap m₀ ((I, isP oI) :: (D, listP []) :: mus₀)) (hst : St 0 s.heap) (hI : Inv 0 gs mus₀ [])
    (turn : ∀ (i : Nat) (g h : Heap) (m : Str → Option Value) (mus : List (Addr × Ob)) (ys : List Value) (v : Value) (tk : Tok) (oI : Obj) (E' : Value → Shared → Prop), i < n → P i v → Sub gs g → Inv i g mus ys → ys.length = i →
      FN w mg mb g₀ h₀ g C h (fun y => if y = x then some v else m y) ((I, isP oI) :: (D, listP ys) :: mus) →
      wpAny (model Pg w) A (eval elt cenv) (fun y s' => ∃ g' h' m' mus' tk', s' = { s with heap := h', toks := tk' } ∧ Sub g g' ∧
        FN w mg mb g₀ h₀ g' C h' m' ((I, isP oI) :: (D, listP ys) :: mus') ∧ Inv (i + 1) g' mus' (ys ++ [y])) E' { s with heap := h, toks := tk })
    (fin : ∀ (g h : Heap) (m : Str → Option Value) (mus : List (Addr × Ob)) (ys : List Value) (tk : Tok), Sub gs g → Inv n g mus ys → ys.length = n → FN w mg mb g₀ h₀ g C h m ((D, listP ys) :: mus) → R (.ok .next) { s with heap := h, toks := tk }) :
    codeAny (model Pg w) A (.compLoop (.ListComp elt [⟨.Name x px, iter, [], 0⟩] scope pos) 0 (.ref I) (.ref D) cenv) R s := by
  subst hC
  refine codeAny_compLoop_list (fun k s' => ∃ i g h m mus ys tk oI, s' = { s with heap := h, toks := tk } ∧ Sub gs g ∧ FN w mg mb g₀ h₀ g cenv.locals h m ((I, isP oI) :: (D, listP ys) :: mus) ∧ St i h ∧ Inv i g mus ys ∧ ys.length = i ∧ i ≤ n ∧ k = n - i)
    ?_ n ⟨0, gs, s.heap, m₀, mus₀, [], s.toks, oI, rfl, Sub.rfl' _, F, hst, hI, rfl, Nat.zero_le _, rfl⟩
  rintro k s' ⟨i, g, h, m, mus, ys, tk, oI, rfl, kg, F, st, hInv, hlen, hin, rfl⟩
  by_cases hlt : i < n
  · refine W.W.item i _ _ _ hlt st fun v h₁ tk₁ hPv st₁ hk₁ => ?_
    obtain ⟨oI₁, F₁⟩ := W.step F st₁ hk₁
    refine wpAny_assign_Name (wpAny_storeName_local hx F₁.ns (fun h₂ hn₂ hs₂ => ?_) hp)
    have F₂ := F₁.set hn₂ hs₂
    have st₂ : St (i + 1) h₂ := W.kept hfp F₁ F₂ kg kg (.head _) (.head _) st₁
    refine wpAny_mono (turn i g h₂ _ mus ys v _ oI₁ _ hlt hPv kg hInv hlen F₂) (fun y s₃ h₃ => ?_) fun _ _ e => e
    obtain ⟨g₃, h₃, m₃, mus₃, tk₃, rfl, kg₃, F₃, hI₃⟩ := h₃
    have st₃ : St (i + 1) h₃ := W.kept hfp F₂ F₃ kg (kg.tr kg₃) (.head _) (.head _) st₂
    refine wpAny_list_append (F₃.list (.tail _ (.head _))) (fun h₄ hl₄ hs₄ => ?_) (by simp; omega)
    have F₄ := F₃.swap.upd (P' := listP (ys ++ [y])) (fun b x hb e => (hs₄.2 b hb).trans e) (let ⟨o, ho, hc, n, hd⟩ := hl₄; ⟨o, ho, hc, n, by rw [hd]; simp⟩)
    have st₄ : St (i + 1) h₄ := W.kept hfp F₃ F₄.swap (kg.tr kg₃) (kg.tr kg₃) (.head _) (.head _) st₃
    exact ⟨n - (i + 1), by omega, i + 1, g₃, h₄, m₃, mus₃, ys ++ [y], tk₃, oI₁, rfl, kg.tr kg₃, F₄.swap, st₄, hI₃, by simp [hlen], hlt, rfl⟩
  · have hin' : i = n := by omega
    subst hin'
    refine W.W.done _ _ _ st fun h₁ tk₁ hk₁ => ?_
    exact fin g h₁ m mus ys tk₁ kg hInv hlen (F.drop fun b x hb e => hk₁ b x (by simpa using hb) e)
/-- what is left of the heap when the objects of mus are taken out -/
noncomputable def less (h : Heap) (mus : List (Addr × Ob)) : Heap := only h fun b => ∀ p ∈ mus, p.1 ≠ b
theorem less_some {h : Heap} {mus : List (Addr × Ob)} {b : Addr} {o : Obj} : (less h mus).get? b = some o ↔ (∀ p ∈ mus, p.1 ≠ b) ∧ h.get? b = some o := only_some
theorem less_sub (h : Heap) (mus : List (Addr × Ob)) : Sub (less h mus) h := fun _ _ e => (less_some.mp e).2
theorem sub_less {g h : Heap} {mus : List (Addr × Ob)} (k : Sub g h) (hn : ∀ p ∈ mus, g.get? p.1 = none) : Sub g (less h mus) := fun b o e =>
  less_some.mpr ⟨(fun p hp q => by have := hn p hp; rw [q, e] at this; cases this), k b o e⟩
theorem less_none {h : Heap} {mus : List (Addr × Ob)} {p : Addr × Ob} (hp : p ∈ mus) : (less h mus).get? p.1 = none := by
  cases q : (less h mus).get? p.1 with
  | none => rfl
  | some o => exact absurd rfl ((less_some.mp q).1 p hp)
/-- back from an inner frame that was handed mus₀ of the outer one's objects -/
theorem FN.back {g g' h h' : Heap} {m m' : Str → Option Value} {mi mus₁ mus' : List (Addr × Ob)} (F : FN w mg mb g₀ h₀ g L h m (mi ++ mus₁)) (F' : FN w mg mb g (less h mi) g' C h' m' mus')
    (hk : ∀ p ∈ mus', (∃ q ∈ mi, q.1 = p.1) ∨ h.get? p.1 = none) : FN w mg mb g₀ h₀ g' L h' m (mus' ++ mus₁) := by
  have sp := List.pairwise_append.mp F.nd
  have inB : ∀ b o, h.get? b = some o → (∀ p ∈ mi, p.1 ≠ b) → (less h mi).get? b = some o := fun b o e q => less_some.mpr ⟨q, e⟩
  have keep : ∀ b o, h.get? b = some o → (∀ p ∈ mi, p.1 ≠ b) → h'.get? b = some o := fun b o e q => F'.kh _ _ (inB b o e q)
  have hL : ∀ p ∈ mi, p.1 ≠ L := fun p hp => (F.nw p (List.mem_append_left _ hp)).2.1
  have m1 : ∀ q ∈ mus₁, ∀ p ∈ mi, p.1 ≠ q.1 := fun q hq p hp => sp.2.2 p hp q hq
  have inG : ∀ b o, h₀.get? b = some o → ∀ p ∈ mi, p.1 ≠ b := fun b o e p hp q => by
    have := (F.nw p (List.mem_append_left _ hp)).2.2.2; rw [q, e] at this; cases this
  obtain ⟨oL, esL, epL, hoL, rL⟩ := F.ns
  refine ⟨⟨F.kg.tr F'.kg, F'.st, fun b o e => keep b o (F.kh b o e) (inG b o e), fun b o e n => ?_⟩, F.gr, ⟨oL, esL, epL, keep L oL hoL hL, rL⟩, F.oL, ?_, fun p hp => ?_, ?_⟩
  · exact F'.fr b o (inB b o (F.kh b o e) (inG b o e)) (F.fr b o e n)
  · exact F'.fr L oL (inB L oL hoL hL) F.gL
  · rcases List.mem_append.mp hp with hp | hp
    · have A := F'.nw p hp
      rcases hk p hp with ⟨q, hq, e⟩ | e
      · have Bq := F.nw q (List.mem_append_left _ hq)
        exact ⟨A.1, e ▸ Bq.2.1, A.2.2.1, e ▸ Bq.2.2.2⟩
      · exact ⟨A.1, (fun q => by rw [q, hoL] at e; cases e), A.2.2.1, none_of_sub F.kh e⟩
    · obtain ⟨⟨o, ho, hP⟩, r⟩ := F.nw p (List.mem_append_right _ hp)
      exact ⟨⟨o, keep _ _ ho (m1 p hp), hP⟩, r.1, F'.fr _ _ (inB _ _ ho (m1 p hp)) r.2.1, r.2.2⟩
  · refine List.pairwise_append.mpr ⟨F'.nd, sp.2.1, fun p hp q hq e => ?_⟩
    rcases hk p hp with ⟨r, hr, e'⟩ | e'
    · exact m1 q hq r hr (e'.trans e)
    · obtain ⟨⟨o, ho, _⟩, _⟩ := F.nw q (List.mem_append_right _ hq)
      rw [e, ho] at e'; cases e'
/-- an object that is nobody's may turn -/
theorem FN.apart {g h h' : Heap} {c : Addr} {m : Str → Option Value} {mus : List (Addr × Ob)} (F : FN w mg mb g₀ h₀ g L h m mus) (hc : g.get? c = none) (h0 : h₀.get? c = none) (hL : c ≠ L) (hm : ∀ p ∈ mus, p.1 ≠ c) (hs : Heap.SameBut c h h') :
    FN w mg mb g₀ h₀ g L h' m mus := by
  have k : ∀ b o, b ≠ c → h.get? b = some o → h'.get? b = some o := fun b o hb e => (hs.2 b hb).trans e
  obtain ⟨oL, esL, epL, hoL, rL⟩ := F.ns
  exact ⟨⟨F.kg, fun b o e => k b o (fun q => by rw [q, hc] at e; cases e) (F.st b o e), fun b o e => k b o (fun q => by rw [q, h0] at e; cases e) (F.kh b o e), F.fr⟩, F.gr, ⟨oL, esL, epL, k _ _ hL.symm hoL, rL⟩, F.oL, F.gL,
    fun p hp => let ⟨⟨o, ho, hP⟩, r⟩ := F.nw p hp; ⟨⟨o, k _ _ (hm p hp) ho, hP⟩, r⟩, F.nd⟩
/-- a list comprehension from its iterator on -/
theorem comp_run {env : Env} {E : Value → Shared → Prop} {elt iter : PySem.Expr} {x : Str} {px : Pos} {scope : Scope} {pos : Pos} {cl : List (Str × Addr)} {g : Heap} {m : Str → Option Value} {mus₁ : List (Addr × Ob)} {oI : Obj} {RR : Value → Addr → Result → Shared → Prop}
    (W : It w A I fp n P St) (Inv : Nat → Heap → List (Addr × Ob) → List Value → Prop)
    (hcell : ∀ y ∈ scope.names, y.2 ≠ .cell) (hkind : scope.kind = .function) (hx : scope.names.lookup x = some .local) (hn : n ≤ sizeLine)
    (F : FN w mg mb g₀ h₀ g L s.heap m (((I, isP oI) :: mus₀) ++ mus₁)) (hst : St 0 s.heap) (hI : Inv 0 g mus₀ [])
    (hkeys : ∀ i g mus ys, Inv i g mus ys → ∀ p ∈ mus, ∃ q ∈ mus₀, q.1 = p.1)
    (hfp : ∀ b ∈ fp, b = I ∨ ((∃ o, s.heap.get? b = some o) ∧ ∀ p ∈ mus₀, p.1 ≠ b))
    (turn : ∀ (C : Addr) (i : Nat) (g' h : Heap) (m' : Str → Option Value) (mus : List (Addr × Ob)) (ys : List Value) (D : Addr) (v : Value) (tk : Tok) (oI : Obj) (E' : Value → Shared → Prop), i < n → P i v → Sub g g' → Inv i g' mus ys → ys.length = i → s.heap.get? C = none →
      FN w mg mb g (less s.heap ((I, isP oI) :: mus₀)) g' C h (fun y => if y = x then some v else m' y) ((I, isP oI) :: (D, listP ys) :: mus) →
      wpAny (model Pg w) A (eval elt (compEnvC scope cl C env)) (fun y s' => ∃ g'' h' m'' mus' tk', s' = { s with heap := h', toks := tk' } ∧ Sub g' g'' ∧
        FN w mg mb g (less s.heap ((I, isP oI) :: mus₀)) g'' C h' m'' ((I, isP oI) :: (D, listP ys) :: mus') ∧ Inv (i + 1) g'' mus' (ys ++ [y])) E' { s with heap := h, toks := tk })
    (fin : ∀ (g' h' : Heap) (m' : Str → Option Value) (mus : List (Addr × Ob)) (ys : List Value) (tk : Tok) (D C : Addr), Sub g g' → Inv n g' mus ys → ys.length = n → h'.Ns C m' → FN w mg mb g₀ h₀ g' L h' m ((D, listP ys) :: (mus ++ mus₁)) → g'.get? C = none → h₀.get? C = none → C ≠ L → (∀ p ∈ ((D, listP ys) :: (mus ++ mus₁) : List (Addr × Ob)), p.1 ≠ C) →
      RR (.ref D) C (.ok .next) { s with heap := h', toks := tk }) :
    wpAny (model Pg w) A (newList []) (fun acc s₃ => wpAny (model Pg w) A (newFunctionEnv scope env.globals cl [] env.qual none .none (some env)) (fun cenv s₄ =>
      codeAny (model Pg w) A (.compStart (.ListComp elt [⟨.Name x px, iter, [], 0⟩] scope pos) 0 (.ref I) acc { cenv with scope := relabel scope env }) (RR acc cenv.locals) s₄) E s₃) E s := by
  refine wpAny_newObj_type (wpAny_newFunctionEnv hcell (by intro y hy; simp at hy) (fun h₁ hns₁ hsb₁ => ?_) hkind)
  dsimp only at hns₁ hsb₁ ⊢
  have less_eq : ∀ o o', less s.heap ((I, isP o) :: mus₀) = less s.heap ((I, isP o') :: mus₀) := fun o o' => by
    unfold less
    have e : (fun b => ∀ p ∈ ((I, isP o) :: mus₀ : List (Addr × Ob)), p.1 ≠ b) = fun b => ∀ p ∈ ((I, isP o') :: mus₀ : List (Addr × Ob)), p.1 ≠ b := by
      funext b
      simp only [List.forall_mem_cons]
    rw [e]
  have hDn : s.heap.get? s.heap.objs.size = none := Heap.get?_none_of_le (Nat.le_refl _)
  have hCn : s.heap.get? (s.heap.push { cls := .type "list", dict := none, data := .seq ([] : List Value).toArray }).objs.size = none := Heap.get?_none_of_le (by rw [Heap.size_push]; omega)
  have hDC : s.heap.objs.size ≠ (s.heap.push { cls := .type "list", dict := none, data := .seq ([] : List Value).toArray }).objs.size := by rw [Heap.size_push]; omega
  generalize hH2 : s.heap.push { cls := .type "list", dict := none, data := .seq ([] : List Value).toArray } = H2 at hns₁ hsb₁ hCn hDC ⊢
  generalize hCc : H2.objs.size = Cc at hns₁ hsb₁ hCn hDC ⊢
  generalize hDd : s.heap.objs.size = Dd at hDn hDC ⊢
  have old : Sub s.heap h₁ := fun b o e => hsb₁.extBut b o (fun q => by rw [q, hCn] at e; cases e) (Heap.get?_push_of_some _ (hH2 ▸ Heap.get?_push_of_some _ e))
  have hD₁ : ∃ o, h₁.get? Dd = some o ∧ listP [] o := ⟨_, hsb₁.extBut _ _ hDC (Heap.get?_push_of_some _ (hH2 ▸ hDd ▸ Heap.get?_push_size _ rfl)), rfl, 0, rfl⟩
  have nm : ∀ p ∈ ((I, isP oI) :: mus₀ : List (Addr × Ob)), g.get? p.1 = none := fun p hp => (F.nw p (List.mem_append_left _ hp)).2.2.1
  have Fc : FN w mg mb g (less s.heap ((I, isP oI) :: mus₀)) g Cc h₁ (fun _ => none) [] := by
    have := FN.start F.G (sub_less F.st nm) hns₁ ((less_sub _ _).tr old) (none_of_sub (less_sub _ _) hCn)
    simpa using this
  -- the objects handed on
  have handed : ∀ mu : List (Addr × Ob), (∀ p ∈ mu, p ∈ ((I, isP oI) :: mus₀ : List (Addr × Ob))) → (mu.Pairwise fun p q => p.1 ≠ q.1) → FN w mg mb g (less s.heap ((I, isP oI) :: mus₀)) g Cc h₁ (fun _ => none) mu := by
    intro mu hm hp
    refine ⟨Fc.toGrow, Fc.gr, Fc.ns, Fc.oL, Fc.gL, fun p hpm => ?_, hp⟩
    obtain ⟨⟨o, ho, hP⟩, r⟩ := F.nw p (List.mem_append_left _ (hm p hpm))
    exact ⟨⟨o, old _ _ ho, hP⟩, (fun q => by rw [q, hCn] at ho; cases ho), r.2.1, less_none (hm p hpm)⟩
  have F₁ := handed ((I, isP oI) :: mus₀) (fun _ h => h) (List.pairwise_append.mp F.nd).1
  have F₂ := F₁.add (P := listP []) hD₁ (fun q => hDC q) (none_of_sub F.st hDn) (none_of_sub (less_sub _ _) hDn)
    (fun q hq e => by obtain ⟨⟨o, ho, _⟩, _⟩ := F.nw q (List.mem_append_left _ hq); rw [e, hDn] at ho; cases ho)
  have hst₁ : St 0 h₁ := W.W.frame _ _ _ hst fun b _ o e => old b o e
  have loop : ∀ s₃ : Shared, s₃ = { s with heap := h₁, toks := s.toks + ([] : List (Str × Value)).length } →
      codeAny (model Pg w) A (.compLoop (.ListComp elt [⟨.Name x px, iter, [], 0⟩] scope pos) 0 (.ref I) (.ref Dd) (compEnvC scope cl Cc env)) (RR (.ref Dd) Cc) s₃ := by
    rintro s₃ rfl
    refine compLoop_FN (gs := g) (C := Cc) (h₀ := less s.heap ((I, isP oI) :: mus₀)) (g₀ := g) (mus₀ := mus₀) W Inv rfl (lookup_relabel_local hx) (by simp [compEnvC, relabel, hkind]) (fun b hb => ?_) hn F₂.swap hst₁ hI ?_ ?_
    · rcases hfp b hb with e | ⟨⟨o, ho⟩, hne⟩
      · exact .inl e
      · by_cases q : b = I
        · exact .inl q
        · exact .inr (.inr ⟨o, less_some.mpr ⟨fun p hp => by
            rcases List.mem_cons.mp hp with rfl | hp
            · exact fun e => q e.symm
            · exact hne p hp, ho⟩⟩)
    · intro i g' h m' mus ys v tk oI' E' hi hPv kg hInv hlen F'
      rw [less_eq oI oI'] at F' ⊢
      exact turn Cc i g' h m' mus ys Dd v tk oI' E' hi hPv kg hInv hlen hCn F'
    · intro g' h' m' mus ys tk kg hInv hlen F'
      have hCL : Cc ≠ L := fun q => by obtain ⟨o, _, _, ho, _⟩ := F.ns; rw [q, ho] at hCn; cases hCn
      have Fb := FN.back F F' (fun p hp => by
        rcases List.mem_cons.mp hp with rfl | hp
        · exact .inr hDn
        · obtain ⟨q, hq, e⟩ := hkeys _ _ _ _ hInv p hp
          exact .inl ⟨q, .tail _ hq, e⟩)
      refine fin g' h' m' mus ys tk Dd Cc kg hInv hlen F'.ns Fb F'.gL (none_of_sub F.kh hCn) hCL fun p hp => ?_
      rcases List.mem_append.mp (show p ∈ ((Dd, listP ys) :: mus) ++ mus₁ from hp) with hp | hp
      · exact (F'.nw p hp).2.1
      · intro e; obtain ⟨⟨o, ho, _⟩, _⟩ := F.nw p (List.mem_append_right _ hp); rw [e, hCn] at ho; cases ho
  refine codeAny_compStart_list (loop _ rfl) (W.W.self 0 _ _ _ hst₁ (loop _ rfl))
/-- the end of a comprehension whose value is handed on -/
theorem comp_val {E : Value → Shared → Prop} {Q : Value → Shared → Prop} {g' h' : Heap} {m m' : Str → Option Value} {mus : List (Addr × Ob)} {tk : Tok}
    (hn : h'.Ns C m') (F : FN w mg mb g₀ h₀ g' L h' m mus) (h1 : g'.get? C = none) (h2 : h₀.get? C = none) (h3 : C ≠ L) (h4 : ∀ p ∈ mus, p.1 ≠ C)
    (hQ : ∀ h'', FN w mg mb g₀ h₀ g' L h'' m mus → Q (.ref D) { s with heap := h'', toks := tk }) :
    compPost (model Pg w) A E none Q (.ref D) C (.ok .next) { s with heap := h', toks := tk } :=
  ⟨m', hn, fun h'' hs => hQ h'' (F.apart h1 h2 h3 h4 hs)⟩
/-- the end of a comprehension that is bound to a name of its own row -/
theorem comp_use {env : Env} {E : Value → Shared → Prop} {Q : Shared → Prop} {y : Str} {py : Pos} {g' h' : Heap} {m m' : Str → Option Value} {mus : List (Addr × Ob)} {tk : Tok}
    (hL : env.locals = L) (hy : env.kindOf y = some .local) (hp : (env.scope.kind == .class || (env.scope.kind == .module && env.locals != env.globals)) = false)
    (hn : h'.Ns C m') (F : FN w mg mb g₀ h₀ g' L h' m mus) (h1 : g'.get? C = none) (h2 : h₀.get? C = none) (h3 : C ≠ L) (h4 : ∀ p ∈ mus, p.1 ≠ C)
    (hQ : ∀ h'' tk', FN w mg mb g₀ h₀ g' L h'' (fun z => if z = y then some (.ref D) else m z) mus → Q { s with heap := h'', toks := tk' }) :
    compPost (model Pg w) A E (some (assign (.Name y py) env)) (fun _ s' => Q s') (.ref D) C (.ok .next) { s with heap := h', toks := tk } := by
  subst hL
  refine wpAny_assign_Name (wpAny_storeName_local hy F.ns (fun h₂ hn₂ hs₂ => ⟨m', hn.sameBut hs₂ h3, fun h₃ hs₃ => ?_⟩) hp)
  exact hQ h₃ _ ((F.set hn₂ hs₂).apart h1 h2 h3 h4 hs₃)
theorem assign_comp {env : Env} {E : Value → Shared → Prop} {elt iter : PySem.Expr} {x y : Str} {px py : Pos} {scope : Scope} {cl : List (Str × Addr)} {pos spos : Pos} {Q : Flow → Shared → Prop}
    (hsw : swapsWith (.ListComp elt [⟨.Name x px, iter, [], 0⟩] scope pos) (some (.Name y py)) spos.line env = pure true)
    (hclos : closureFor scope env = pure cl) (hkind : scope.kind = .function) (hnames : ∀ z ∈ scope.names, z.2 = .local → scope.names.lookup z.1 = some .local)
    (hs : ∀ x, foldedSetIterable iter env x = pure x)
    (h : wpAny (model Pg w) A (eval iter env) (fun xv s₁ => wpAny (model Pg w) A (pyIter xv) (fun it s₂ => wpAny (model Pg w) A (newList []) (fun acc s₃ =>
      wpAny (model Pg w) A (newFunctionEnv scope env.globals cl [] env.qual none .none (some env)) (fun cenv s₄ =>
        codeAny (model Pg w) A (.compStart (.ListComp elt [⟨.Name x px, iter, [], 0⟩] scope pos) 0 it acc { cenv with scope := relabel scope env }) (compPost (model Pg w) A E (some (assign (.Name y py) env)) (fun _ s' => Q .next s') acc cenv.locals) s₄) E s₃) E s₂) E s₁) E s) :
    wpAny (model Pg w) A (exec (.Assign [.Name y py] (.ListComp elt [⟨.Name x px, iter, [], 0⟩] scope pos) spos) env) Q E s := by
  rw [exec_Assign_Name_used _ _ _ _ hsw]
  refine wpAny_bind (wpAny_standAt (wpAny_bind ?_))
  show wpAny _ A (do let _ ← comprehension (.ListComp elt [⟨.Name x px, iter, [], 0⟩] scope pos) scope env _ (newList []) false (eval iter env) (some (assign (.Name y py) env))) _ _ s
  exact wpAny_bind (wpAny_mono (wpAny_comprehension_free (Q := fun _ s' => Q .next s') rfl hs hclos hkind hnames h) (fun _ s' hq => wpAny_pure (wpAny_pure hq)) fun _ _ e => e)
theorem eval_comp {env : Env} {E : Value → Shared → Prop} {elt iter : PySem.Expr} {x : Str} {px : Pos} {scope : Scope} {cl : List (Str × Addr)} {pos : Pos} {Q : Value → Shared → Prop}
    (hclos : closureFor scope env = pure cl) (hkind : scope.kind = .function) (hnames : ∀ z ∈ scope.names, z.2 = .local → scope.names.lookup z.1 = some .local)
    (hs : ∀ x, foldedSetIterable iter env x = pure x)
    (h : wpAny (model Pg w) A (eval iter env) (fun xv s₁ => wpAny (model Pg w) A (pyIter xv) (fun it s₂ => wpAny (model Pg w) A (newList []) (fun acc s₃ =>
      wpAny (model Pg w) A (newFunctionEnv scope env.globals cl [] env.qual none .none (some env)) (fun cenv s₄ =>
        codeAny (model Pg w) A (.compStart (.ListComp elt [⟨.Name x px, iter, [], 0⟩] scope pos) 0 it acc { cenv with scope := relabel scope env }) (compPost (model Pg w) A E none Q acc cenv.locals) s₄) E s₃) E s₂) E s₁) E s) :
    wpAny (model Pg w) A (eval (.ListComp elt [⟨.Name x px, iter, [], 0⟩] scope pos) env) Q E s := by
  rw [eval_ListComp]
  exact wpAny_comprehension_free rfl hs hclos hkind hnames h
/-- an iterator is made: of a list -/
theorem iter_list {E : Value → Shared → Prop} {Q : Value → Shared → Prop} {g : Heap} {m : Str → Option Value} {mus : List (Addr × Ob)} {l : Addr} {items : Array Value} (F : FN w mg mb g₀ h₀ g L s.heap m mus) (hl : s.heap.IsList l items)
    (hQ : ∀ (I : Addr) (h' : Heap) (oI : Obj), FN w mg mb g₀ h₀ g L h' m ((I, isP oI) :: mus) → h'.IsListIter I l 0 → h'.IsList l items → l ≠ I → s.heap.get? I = none → Sub s.heap h' → Q (.ref I) { s with heap := h' }) :
    wpAny (model Pg w) A (pyIter (.ref l)) Q E s := by
  refine wpAny_pyIter_list hl ?_
  have F' := F.push { cls := .type "list_iterator", data := .fields #[.ref l, .int 0 0] } (isP _) rfl
  have hne : l ≠ s.heap.objs.size := Nat.ne_of_lt (let ⟨_, ho, _⟩ := hl; Heap.lt_size ho)
  exact hQ _ _ _ F' ⟨_, Heap.get?_push_size _ rfl, rfl, rfl⟩ (let ⟨o, ho, r⟩ := hl; ⟨o, Heap.get?_push_of_some _ ho, r⟩) hne (Heap.get?_none_of_le (Nat.le_refl _)) (sub_push _ _)
/-- a for over any walk -/
theorem forLoop_FN {x : Str} {px : Pos} {body : List Stmt} {env : Env}
    (W : It w A I fp n P St) (Inv : Nat → Heap → (Str → Option Value) → List (Addr × Ob) → Prop)
    (hL : env.locals = L) (hx : env.kindOf x = some .local) (hp : (env.scope.kind == .class || (env.scope.kind == .module && env.locals != env.globals)) = false)
    (hfp : ∀ b ∈ fp, b = I ∨ (∃ o, gs.get? b = some o) ∨ ∃ o, h₀.get? b = some o) {oI : Obj}
    (F : FN w mg mb g₀ h₀ gs L s.heap m₀ ((I, isP oI) :: mus₀)) (hst : St 0 s.heap) (hI : Inv 0 gs m₀ mus₀)
    (turn : ∀ (i : Nat) (g h : Heap) (m : Str → Option Value) (mus : List (Addr × Ob)) (v : Value) (tk : Tok) (oI : Obj) (E' : Value → Shared → Prop), i < n → P i v → Sub gs g → Inv i g m mus →
      FN w mg mb g₀ h₀ g L h (fun y => if y = x then some v else m y) ((I, isP oI) :: mus) →
      wpAny (model Pg w) A (execs body env) (fun f s' => match f with
        | .next | .cont => ∃ g' h' m' mus' tk', s' = { s with heap := h', toks := tk' } ∧ Sub g g' ∧ FN w mg mb g₀ h₀ g' L h' m' ((I, isP oI) :: mus') ∧ Inv (i + 1) g' m' mus'
        | .brk => R (.ok .next) s'
        | .ret v => R (.ok (.ret v)) s') E' { s with heap := h, toks := tk })
    (fin : ∀ (g h : Heap) (m : Str → Option Value) (mus : List (Addr × Ob)) (tk : Tok), Sub gs g → Inv n g m mus → FN w mg mb g₀ h₀ g L h m mus → R (.ok .next) { s with heap := h, toks := tk }) :
    codeAny (model Pg w) A (.forLoop (.Name x px) (.ref I) body [] env) R s := by
  subst hL
  refine codeAny_forLoop (fun k s' => ∃ i g h m mus tk oI, s' = { s with heap := h, toks := tk } ∧ Sub gs g ∧ FN w mg mb g₀ h₀ g env.locals h m ((I, isP oI) :: mus) ∧ St i h ∧ Inv i g m mus ∧ i ≤ n ∧ k = n - i)
    ?_ n ⟨0, gs, s.heap, m₀, mus₀, s.toks, oI, rfl, Sub.rfl' _, F, hst, hI, Nat.zero_le _, rfl⟩
  rintro k s' ⟨i, g, h, m, mus, tk, oI, rfl, kg, F, st, hInv, hin, rfl⟩
  by_cases hlt : i < n
  · refine W.W.item i _ _ _ hlt st fun v h₁ tk₁ hPv st₁ hk₁ => ?_
    obtain ⟨oI₁, F₁⟩ := W.step F st₁ hk₁
    refine wpAny_assign_Name (wpAny_storeName_local hx F₁.ns (fun h₂ hn₂ hs₂ => ?_) hp)
    have F₂ := F₁.set hn₂ hs₂
    have st₂ : St (i + 1) h₂ := W.kept hfp F₁ F₂ kg kg (.head _) (.head _) st₁
    refine wpAny_mono (turn i g h₂ _ mus v _ oI₁ _ hlt hPv kg hInv F₂) (fun f s₃ h₃ => ?_) fun _ _ e => e
    have go : (∃ g' h' m' mus' tk', s₃ = { s with heap := h', toks := tk' } ∧ Sub g g' ∧ FN w mg mb g₀ h₀ g' env.locals h' m' ((I, isP oI₁) :: mus') ∧ Inv (i + 1) g' m' mus') →
        ∃ m_1, m_1 < n - i ∧ ∃ i g h m mus tk oI, s₃ = { s with heap := h, toks := tk } ∧ Sub gs g ∧ FN w mg mb g₀ h₀ g env.locals h m ((I, isP oI) :: mus) ∧ St i h ∧ Inv i g m mus ∧ i ≤ n ∧ m_1 = n - i := by
      rintro ⟨g₃, h₄, m₃, mus₃, tk₃, rfl, kg₃, F₃, hI₃⟩
      exact ⟨n - (i + 1), by omega, i + 1, g₃, h₄, m₃, mus₃, tk₃, oI₁, rfl, kg.tr kg₃, F₃, W.kept hfp F₂ F₃ kg (kg.tr kg₃) (.head _) (.head _) st₂, hI₃, hlt, rfl⟩
    cases f with
    | next => exact go h₃
    | cont => exact go h₃
    | brk => exact h₃
    | ret v => exact h₃
  · have hin' : i = n := by omega
    subst hin'
    refine W.W.done _ _ _ st fun h₁ tk₁ hk₁ => ?_
    exact wpAny_execs_nil (fin g h₁ m mus tk₁ kg hInv (F.drop fun b x hb e => hk₁ b x (by simpa using hb) e))
/-- an iterator of a small range -/
theorem It.range (hh : A.handled = none) (I : Addr) (a : Int) (n : Nat) :
    It w A I [I] n (fun i v => ∃ t, v = .int (a + i) t) (fun i h => IsRangeIter h I (a + (i : Nat)) ((n : Int) - (i : Nat)) 1) := by
  refine ⟨⟨fun _ hb => hb, fun _ _ _ st hk => hk I (by simp) _ st, fun i s Q E hi st hQ => ?_, fun s Q E st hQ => ?_, fun _ _ _ _ st hQ => ?_⟩, fun i h st => ⟨_, st⟩⟩
  · refine wpAny_pyNext_range_item st (by omega) fun h' hit' hs' => ?_
    refine hQ _ h' _ ⟨_, rfl⟩ ?_ fun b o hb e => hs'.extBut b o (fun h => hb (by simp [h])) e
    have e1 : a + ((i + 1 : Nat) : Int) = a + (i : Int) + 1 := by push_cast; omega
    have e2 : (n : Int) - ((i + 1 : Nat) : Int) = (n : Int) - (i : Int) - 1 := by push_cast; omega
    rw [e1, e2]; exact hit'
  · exact wpAny_pyNext_range_end hh st (by omega) fun h' he' => hQ h' s.toks fun b o hb e => he' b o (fun h => hb (by simp [h])) e
  · exact wpAny_pyIter_rangeiter st hQ
theorem small_fits {a b : Int} (ha : 0 ≤ a) (ha' : a < 2 ^ 40) (hb : 0 ≤ b) (hb' : b < 2 ^ 40) : Builtin.Range.small a b 1 = true := small_one (by omega) (by omega) (by omega) (by omega)
/-- an iterator is made: of range(a, b), from the object on -/
theorem iter_range {E : Value → Shared → Prop} {Q : Value → Shared → Prop} {g : Heap} {m : Str → Option Value} {mus : List (Addr × Ob)} {a b : Int} {t u v : Tok} (F : FN w mg mb g₀ h₀ g L s.heap m mus) (ha : 0 ≤ a) (hab : a ≤ b) (hb' : b < 2 ^ 40)
    (hQ : ∀ (I : Addr) (h' : Heap) (oI : Obj), FN w mg mb g₀ h₀ g L h' m ((I, isP oI) :: mus) → IsRangeIter h' I (a + (0 : Nat)) (((b - a).toNat : Nat) - (0 : Nat)) 1 → s.heap.get? I = none → Sub s.heap h' → Q (.ref I) { s with heap := h' }) :
    wpAny (model Pg w) A (pyIter (.ref s.heap.objs.size)) Q E { s with heap := s.heap.push { cls := .type "range", data := .fields #[.int a t, .int b u, .int 1 v] } } := by
  refine wpAny_pyIter_range (IsRange.new _ _ _ _ _ _ _) (small_fits ha (by omega) (by omega) hb') ?_
  have F₁ := F.push { cls := .type "range", data := .fields #[.int a t, .int b u, .int 1 v] } (isP _) rfl
  have F₂ := F₁.push { cls := .type "range_iterator", data := .fields #[rawInt a, rawInt (Builtin.Range.rangeSize a b 1), rawInt 1] } (isP _) rfl
  refine hQ _ _ _ F₂.swap.tl ?_ (Heap.get?_none_of_le (by rw [Heap.size_push]; omega)) ((sub_push _ _).tr (sub_push _ _))
  have e : Builtin.Range.rangeSize a b 1 = ((b - a).toNat : Nat) - ((0 : Nat) : Int) := by rw [rangeSize_one]; split <;> omega
  have e' : a = a + ((0 : Nat) : Int) := by omega
  rw [← e, ← e']
  exact Heap.get?_push_size _ rfl
theorem range_1 {E : Value → Shared → Prop} {Q : Value → Shared → Prop} {g : Heap} {m : Str → Option Value} {mus : List (Addr × Ob)} {b : Int} {u : Tok} (F : FN w mg mb g₀ h₀ g L s.heap m mus) (hab : 0 ≤ b) (hb' : b < 2 ^ 40)
    (hQ : ∀ (I : Addr) (h' : Heap) (oI : Obj) (tk : Tok), FN w mg mb g₀ h₀ g L h' m ((I, isP oI) :: mus) → IsRangeIter h' I (0 + (0 : Nat)) ((b.toNat : Nat) - (0 : Nat)) 1 → s.heap.get? I = none → Sub s.heap h' → Q (.ref I) { s with heap := h', toks := tk }) :
    wpAny (model Pg w) A (call (.type "range") [.int b u]) (fun xv s₁ => wpAny (model Pg w) A (pyIter xv) Q E s₁) E s := by
  refine call_range_1 ?_
  refine iter_range (s := { s with toks := s.toks + 1 + 1 }) F (by omega) hab hb' fun I h' oI F' hi hn k => hQ I h' oI _ F' ?_ hn k
  simpa using hi
theorem range_2 {E : Value → Shared → Prop} {Q : Value → Shared → Prop} {g : Heap} {m : Str → Option Value} {mus : List (Addr × Ob)} {a b : Int} {t u : Tok} (F : FN w mg mb g₀ h₀ g L s.heap m mus) (ha : 0 ≤ a) (hab : a ≤ b) (hb' : b < 2 ^ 40)
    (hQ : ∀ (I : Addr) (h' : Heap) (oI : Obj) (tk : Tok), FN w mg mb g₀ h₀ g L h' m ((I, isP oI) :: mus) → IsRangeIter h' I (a + (0 : Nat)) (((b - a).toNat : Nat) - (0 : Nat)) 1 → s.heap.get? I = none → Sub s.heap h' → Q (.ref I) { s with heap := h', toks := tk }) :
    wpAny (model Pg w) A (call (.type "range") [.int a t, .int b u]) (fun xv s₁ => wpAny (model Pg w) A (pyIter xv) Q E s₁) E s := by
  refine call_range_2 ?_
  exact iter_range (s := { s with toks := s.toks + 1 }) F ha hab hb' fun I h' oI F' hi hn k => hQ I h' oI _ F' hi hn k
end
/-! MOps2 -/
abbrev plP (vs : List Value) : Ob := fun o => o.cls = .type "list" ∧ o.dict = none ∧ ∃ n, o.data = .seq vs.toArray n
theorem plOfP {g : Heap} {l : Addr} {vs : List Value} (h : ∃ o, g.get? l = some o ∧ plP vs o) : g.IsList l vs.toArray := let ⟨o, ho, hc, _, n, hd⟩ := h; ⟨o, ho, hc, n, hd⟩
theorem FN.plain {w : World} {mg mb : Str → Option Value} {g₀ h₀ g h : Heap} {L : Addr} {m : Str → Option Value} {mus : List (Addr × Ob)} {l : Addr} {vs : List Value} (F : FN w mg mb g₀ h₀ g L h m mus) (hm : (l, plP vs) ∈ mus) : PlainL h l vs.toArray :=
  let ⟨⟨o, ho, hc, hd, n, he⟩, _⟩ := F.nw _ hm; ⟨o, n, ho, hc, hd, he⟩
theorem FN.plist {w : World} {mg mb : Str → Option Value} {g₀ h₀ g h : Heap} {L : Addr} {m : Str → Option Value} {mus : List (Addr × Ob)} {l : Addr} {vs : List Value} (F : FN w mg mb g₀ h₀ g L h m mus) (hm : (l, plP vs) ∈ mus) : h.IsList l vs.toArray := (F.plain hm).isList
theorem listOfP {g : Heap} {l : Addr} {vs : List Value} (h : ∃ o, g.get? l = some o ∧ listP vs o) : g.IsList l vs.toArray := let ⟨o, ho, hc, n, hd⟩ := h; ⟨o, ho, hc, n, hd⟩
theorem tupOfP {g : Heap} {l : Addr} {vs : List Value} (h : ∃ o, g.get? l = some o ∧ tupP vs o) : g.IsTuple l vs.toArray := let ⟨o, ho, hc, n, hd⟩ := h; ⟨o, ho, hc, n, hd⟩
theorem hasList {g : Heap} {l : Addr} {vs : List Value} (h : g.IsList l vs.toArray) : ∃ o, g.get? l = some o := let ⟨o, ho, _⟩ := h; ⟨o, ho⟩
/-- a walked list lies in the ground -/
theorem fpL {gs h₀ : Heap} {I l : Addr} {vs : List Value} (h : gs.IsList l vs.toArray) : ∀ b ∈ [I, l], b = I ∨ (∃ o, gs.get? b = some o) ∨ ∃ o, h₀.get? b = some o := by
  intro b hb
  rcases List.mem_cons.mp hb with rfl | hb
  · exact .inl rfl
  · rw [List.mem_singleton.mp hb]; exact .inr (.inl (hasList h))
/-- a walked list stands apart from what is handed on -/
theorem fpC {H : Heap} {I l : Addr} {vs : List Value} {mus : List (Addr × Ob)} (h : H.IsList l vs.toArray) (hm : ∀ p ∈ mus, p.1 ≠ l) : ∀ b ∈ [I, l], b = I ∨ ((∃ o, H.get? b = some o) ∧ ∀ p ∈ mus, p.1 ≠ b) := by
  intro b hb
  rcases List.mem_cons.mp hb with rfl | hb
  · exact .inl rfl
  · rw [List.mem_singleton.mp hb]; exact .inr ⟨hasList h, hm⟩
section
variable {A : Around} {E : Value → Shared → Prop} {s : Shared} {w : World} {mg mb : Str → Option Value} {g₀ h₀ g : Heap} {L : Addr} {m : Str → Option Value} {mus : List (Addr × Ob)}
theorem newL {vs : List Value} {Q : Value → Shared → Prop} (F : FN w mg mb g₀ h₀ g L s.heap m mus)
    (h : ∀ D h', FN w mg mb g₀ h₀ g L h' m ((D, plP vs) :: mus) → s.heap.get? D = none → Q (.ref D) { s with heap := h' }) (hn : vs.length ≤ sizeLine) : wpAny (model Pg w) A (newList vs) Q E s :=
  wpAny_newObj_type (h _ _ (F.push { cls := .type "list", data := .seq vs.toArray } (plP vs) ⟨rfl, rfl, 0, rfl⟩) (Heap.get?_none_of_le (Nat.le_refl _))) (by simpa [sizeOk] using hn)
theorem newT {vs : List Value} {Q : Value → Shared → Prop} (F : FN w mg mb g₀ h₀ g L s.heap m mus)
    (h : ∀ D h', FN w mg mb g₀ h₀ g L h' m ((D, tupP vs) :: mus) → s.heap.get? D = none → Q (.ref D) { s with heap := h' }) (hn : vs.length ≤ sizeLine) : wpAny (model Pg w) A (newTuple vs) Q E s :=
  wpAny_newObj_type (h _ _ (F.push { cls := .type "tuple", data := .seq vs.toArray } (tupP vs) ⟨rfl, 0, rfl⟩) (Heap.get?_none_of_le (Nat.le_refl _))) (by simpa [sizeOk] using hn)
theorem getAppend {l : Addr} {its : Array Value} {pl : Sem Bool} {Q : Value × List Value → Shared → Prop} (hl : PlainL s.heap l its)
    (h : Q (.builtin "list.append", [.ref l]) s) : wpAny (model Pg w) A (getMethod (.ref l) "append" pl) Q E s := let ⟨_, _, ho, hc, hd, _⟩ := hl; getMethod_list_append ho hc hd h
theorem appL {l : Addr} {vs : List Value} {v : Value} {Q : Value → Shared → Prop} (mus₁ : List (Addr × Ob)) {mus₂ : List (Addr × Ob)} (F : FN w mg mb g₀ h₀ g L s.heap m (mus₁ ++ (l, plP vs) :: mus₂)) (hn : vs.length ≤ sizeLine)
    (h : ∀ h', FN w mg mb g₀ h₀ g L h' m (mus₁ ++ (l, plP (vs ++ [v])) :: mus₂) → Q .none { s with heap := h' }) : wpAny (model Pg w) A (call (.builtin "list.append") [.ref l, v]) Q E s := by
  have F1 : FN w mg mb g₀ h₀ g L s.heap m ((l, plP vs) :: (mus₁ ++ mus₂)) := F.perm (List.perm_middle.symm)
  refine list_append_plainL (F1.plain (.head _)) (fun h' hl' hs => h h' ?_) (by simpa using hn)
  obtain ⟨o, n, ho, hc, hd, he⟩ := hl'
  exact (F1.upd (P' := plP (vs ++ [v])) (fun b x hb e => (hs.2 b hb).trans e) ⟨o, ho, hc, hd, n, by rw [he]; simp⟩).perm List.perm_middle
theorem truthyL {l : Addr} {vs : List Value} {Q : Bool → Shared → Prop} (hl : s.heap.IsList l vs.toArray) (hfit : vs.length < 2 ^ 62)
    (h : Q (!vs.isEmpty) { s with toks := s.toks + 1 + 1 }) : wpAny (model Pg w) A (truthy (.ref l)) Q E s := by
  have e : vs.isEmpty = vs.toArray.isEmpty := by cases vs <;> rfl
  rw [e] at h
  exact wpAny_truthy_list hl (by simp; omega) h
theorem sliceL {value slice : PySem.Expr} {l : Addr} {H : Heap} {tk : Tok} {items : Array Value} {vl vu vk : Value} {lo hi st : Option Int} {ops : List Value} {Q : Value → Shared → Prop}
    (F : FN w mg mb g₀ h₀ g L H m mus) (hl : H.IsList l items) (pl : IsPart vl lo) (pu : IsPart vu hi) (pk : IsPart vk st) (h0 : st ≠ some 0)
    (h : ∀ D h', FN w mg mb g₀ h₀ g L h' m ((D, listP (slicePick items lo hi st).toList) :: mus) → Sub H h' → H.get? D = none → Q (.ref D) { s with heap := h', toks := tk })
    (hsz : items.size ≤ sizeLine)
    (hs : subscripted slice false (.ref l) (.ref H.objs.size) = operate ops (getItem (.ref l) (.ref H.objs.size)))
    (ht : ∀ r, letTemporaryGo value (.ref l) r = pure ()) :
    wpAny (model Pg w) A (subscriptTail value slice (.ref l) (.ref H.objs.size)) Q E { s with heap := H.push { cls := .type "slice", data := .fields #[vl, vu, vk] }, toks := tk } := by
  refine subscriptTail_ops (Heap.IsList.typeIs (s := { s with heap := H.push { cls := .type "slice", data := .fields #[vl, vu, vk] } }) (hl.push _)) list_getitem_lookup
    (wpAny_getItem_list_slice (hl.push _) (Heap.IsSliceOf.new ..) pl pu pk h0 ?_ hsz) hs ht
  refine h _ _ ((F.keep (sub_push _ _)).push { cls := .type "list", data := .seq (slicePick items lo hi st) } (listP _) ⟨rfl, 0, by simp⟩) ((sub_push _ _).tr (sub_push _ _)) ?_
  exact Heap.get?_none_of_le (by show _ ≤ (H.push _).objs.size; rw [Heap.size_push]; omega)
end
/-! ahead -/
section
variable {w : World} {mg mb : Str → Option Value} {g₀ h₀ g h : Heap} {L : Addr} {m : Str → Option Value} {mus : List (Addr × Ob)}
theorem cellUp {g h : Heap} {c : Addr} {v : Option Value} (H : g.IsCell c v) (k : Sub g h) : h.IsCell c v := let ⟨o, ho, r⟩ := H; ⟨o, k _ _ ho, r⟩
theorem FN.gcell {c : Addr} {v : Value} (F : FN w mg mb g₀ h₀ g L h m mus) (H : g.IsCell c (some v)) : h.IsCell c (some v) := cellUp H F.st
theorem FN.ocell {c : Addr} {v : Value} (F : FN w mg mb g₀ h₀ g L h m mus) (H : g₀.IsCell c (some v)) : h.IsCell c (some v) := cellUp H (F.kg.tr F.st)
end
section
variable {A : Around} {R : Result → Shared → Prop} {s : Shared} {w : World} {mg mb : Str → Option Value} {g₀ h₀ gs : Heap} {I D C L cc : Addr} {m₀ : Str → Option Value} {mus₀ : List (Addr × Ob)}
  {fp : List Addr} {n : Nat} {P : Nat → Value → Prop} {St : Nat → Heap → Prop}
theorem FN.hcell {h g : Heap} {m : Str → Option Value} {mus : List (Addr × Ob)} {c : Addr} {v : Value} (F : FN w mg mb g₀ h₀ g L h m mus) (H : h₀.IsCell c (some v)) : h.IsCell c (some v) := cellUp H F.kh
end
section
variable {A : Around} {E : Value → Shared → Prop} {s : Shared} {w : World} {mg mb : Str → Option Value} {g₀ h₀ g : Heap} {L : Addr} {m : Str → Option Value} {mus : List (Addr × Ob)} {Q : Value → Shared → Prop}
theorem FN.olist {h : Heap} {l : Addr} {vs : List Value} (F : FN w mg mb g₀ h₀ g L h m mus) (H : g₀.IsList l vs.toArray) : h.IsList l vs.toArray := stays_list F.st (stays_list F.kg H)
theorem pairV {t : Sem Value} {p : Pos} (h : wpAny (model Pg w) A t Q E s) : wpAny (model Pg w) A (t >>= fun x => standAt p >>= fun _ => pure x) Q E s :=
  wpAny_bind (wpAny_mono h (fun _ _ q => wpAny_bind (wpAny_standAt (wpAny_pure q))) fun _ _ e => e)
end
theorem isi_FN {A : Around} {E : Value → Shared → Prop} {s : Shared} {w : World} {mg mb : Str → Option Value} {g₀ h₀ g : Heap} {L : Addr} {m : Str → Option Value} {mus : List (Addr × Ob)} {Q : Value → Shared → Prop} {x t c : Value} {H : Heap → Prop} {b : Bool}
    (F : FN w mg mb g₀ h₀ g L s.heap m mus) (Z : KitX (KK w) x t H) (hH : ∀ h, Sub g₀ h → H h) (hx : x ≠ .builtin "__main__.__loader__#opaque") (e : kitOne (KK w) t c = some b) (h : ∀ tk, Q (.bool b) { s with toks := tk }) :
    wpAny (model Pg w) A (call (.builtin "isinstance") [x, c]) Q E s :=
  kia_one Z F.GH.X (hH _ (F.kg.tr F.st)) e hx h
/-! MInst -/
/-- an object of a class and one name of its own -/
def Has (g : Heap) (x C : Addr) (name : Str) (r : Option Value) : Prop := ∃ dx od, g.get? x = some (instObj C dx) ∧ g.get? dx = some od ∧ lookIn name od = some r
theorem Has.up {g h : Heap} {x C : Addr} {name : Str} {r : Option Value} (H : Has g x C name r) (k : Sub g h) : Has h x C name r :=
  let ⟨dx, od, a, b, c⟩ := H; ⟨dx, od, k _ _ a, k _ _ b, c⟩
def IsI (g : Heap) (x C : Addr) : Prop := ∃ dx od, g.get? x = some (instObj C dx) ∧ g.get? dx = some od
theorem Has.isI {g : Heap} {x C : Addr} {name : Str} {r : Option Value} (H : Has g x C name r) : IsI g x C := let ⟨dx, od, a, b, _⟩ := H; ⟨dx, od, a, b⟩
theorem IsI.up {g h : Heap} {x C : Addr} (H : IsI g x C) (k : Sub g h) : IsI h x C := let ⟨dx, od, a, b⟩ := H; ⟨dx, od, k _ _ a, k _ _ b⟩
section
variable {A : Around} {E : Value → Shared → Prop} {s : Shared} {w : World} {mg mb : Str → Option Value} {g₀ h₀ g : Heap} {L : Addr} {m : Str → Option Value} {mus : List (Addr × Ob)} {R : Result → Shared → Prop} {C x dx : Addr} {name : Str} {v : Value}
theorem getA {expr : Bool} {Q : Value → Shared → Prop} {attr : Option Value} (F : FN w mg mb g₀ h₀ g L s.heap m mus) (H : Has g x C name (some v))
    (hg : plainGet (KK w) C name = true) (hh : hasDictIn (KK w) C = true) (ha : findIn (KK w) (.ref C) name = some attr) (hn : noGet (KK w) attr = true) (hv : handedIn v = true) (h : Q v { s with toks := s.toks + 1 }) :
    wpAny (model Pg w) A (getAttr (.ref x) name expr) Q E s :=
  let ⟨_, od, h1, h2, h3⟩ := H.up F.st
  get_value (od := some od) F.GH.X ⟨h1, rfl, rfl, h2⟩ (plainGet_of hg).1 (findObj_own hh ha hn h3) hv h
theorem getM {pl : Sem Bool} {Q : Value × List Value → Shared → Prop} {f : Addr} (F : FN w mg mb g₀ h₀ g L s.heap m mus) (H : Has g x C name none)
    (hg : plainGet (KK w) C name = true) (hf : findIn (KK w) (.ref C) name = some (some (.ref f))) (ht : isFn (KK w) (.ref f) = true) (h : Q (.ref f, [.ref x]) s) : wpAny (model Pg w) A (getMethod (.ref x) name pl) Q E s :=
  let ⟨_, od, h1, h2, h3⟩ := H.up F.st
  method_fn (od := some od) F.GH.X ⟨h1, rfl, rfl, h2⟩ (plainGet_of hg).1 (plainGet_of hg).2 hf (beq_iff_eq.mp ht) (by show (lookIn name od).map _ = _; rw [h3]; rfl) h
/-- an attribute is put on an object that is being made -/
theorem setA {Q : Unit → Shared → Prop} {es : List DictEntry} {n : Nat} (mus₁ : List (Addr × Ob)) {mus₂ : List (Addr × Ob)} (F : FN w mg mb g₀ h₀ g L s.heap m (mus₁ ++ (dx, isP (dictOf es n)) :: mus₂)) (hx : (x, isP (instObj C dx)) ∈ mus₁ ++ (dx, isP (dictOf es n)) :: mus₂)
    (hs : findIn (KK w) (.ref C) "__setattr__" = some (some (.builtin "object.__setattr__"))) (hp : plainOver (KK w) C = true) (ht : takerIn (KK w) C name = some none) (hh : hasDictIn (KK w) C = true)
    (hl : (getL name es).isSome = true) (hz : es.length ≤ 900)
    (h : ∀ h' t, FN w mg mb g₀ h₀ g L h' m (mus₁ ++ (dx, isP (dictOf (putL name (PyData.keyHash w.params name) (.str name t) v es) (putN name es n))) :: mus₂) → Q () { s with heap := h', toks := s.toks + 2 }) :
    wpAny (model Pg w) A (setAttr (.ref x) name v) Q E s := by
  have F1 : FN w mg mb g₀ h₀ g L s.heap m ((dx, isP (dictOf es n)) :: (mus₁ ++ mus₂)) := F.perm (List.perm_middle.symm)
  have X := F.GH.X
  have D := F1.at (.head _)
  have I : InstAt s.heap x (instObj C dx) C (some (dictOf es n)) := ⟨F.at hx, rfl, rfl, D⟩
  refine set_plain X I hs ?_
  refine osa_open (s := { s with toks := s.toks + 1 }) X I hp ht fun b => ?_
  obtain ⟨cd, hc, hd'⟩ := any_some hh
  have lenP : ∀ (k : Value) (hsh : Int) (l : List DictEntry), (putL name hsh k v l).length ≤ l.length + 1 := by
    intro k hsh l
    induction l with
    | nil => simp [putL]
    | cons e r ih => unfold putL; split <;> simp; omega
  have e : Obj.putName name (PyData.keyHash w.params name) (.str name (s.toks + 1)) v (dictOf es n) = dictOf (putL name (PyData.keyHash w.params name) (.str name (s.toks + 1)) v es) (putN name es n) := putName_dict ..
  have D' : (s.heap.update dx (Obj.putName name (PyData.keyHash w.params name) (.str name (s.toks + 1)) v)).get? dx = some (dictOf (putL name (PyData.keyHash w.params name) (.str name (s.toks + 1)) v es) (putN name es n)) := by
    rw [← e]; exact Heap.get?_update_self _ D (by rw [e]; rfl)
  have F2 := F1.upd (P' := isP (dictOf (putL name (PyData.keyHash w.params name) (.str name (s.toks + 1)) v es) (putN name es n))) (h' := s.heap.update dx (Obj.putName name (PyData.keyHash w.params name) (.str name (s.toks + 1)) v))
    (fun b y hb q => (Heap.get?_update_ne _ _ _ _ hb).trans q) ⟨_, D', rfl⟩
  have fin := h _ _ (F2.perm List.perm_middle)
  have hx' := F.at hx
  refine wpAny_bind (wpAny_pure (wpAny_bind (wpAny_bind (wpAny_loadPart hx' (wpAny_bind (looks_clsIn X hc _ _ _ _ (fun _ _ e => e) ?_))))))
  rw [hd']
  refine wpAny_pure (a := some dx) (wpAny_bind (wpAny_pure (wpAny_bind ?_)))
  unfold nsSet
  refine wpAny_bind (wpAny_bind (wpAny_askSetting (wpAny_pure (wpAny_bind (wpAny_mkText (wpAny_bind (wpAny_loadPart D ?_)))))))
  have hl' : (lookIn name (dictOf es n)).isSome = true := by rw [lookIn_dict]; exact hl
  unfold lookIn at hl'
  dsimp only at hl'
  have c : (!es.toArray.any (·.key.isStr name) && es.toArray.any (·.refKey)) = false := by
    rw [← Array.any_toList, ← Array.any_toList]
    split at hl'
    · rename_i en he
      rw [List.any_eq_true.mpr ⟨en, List.mem_of_find?_eq_some he, List.find?_some he⟩]; rfl
    · split at hl'
      · cases hl'
      · rename_i z; rw [Bool.not_eq_true] at z; rw [z, Bool.and_false]
  dsimp only
  rw [aRefKeyMayBeTheName_at, c]
  refine wpAny_updatePart D ?_
  refine wpAny_bind (wpAny_lookBehind D' (pastItsLine_dict (by rw [List.size_toArray, sizeLine_eq]; have := lenP (.str name (s.toks + 1)) (PyData.keyHash w.params name) es; omega)) ?_)
  exact wpAny_pure fin
theorem weight_tc (C : Addr) (rest : List Value) : (Code.builtin "type.__call__" ⟨.ref C :: rest, []⟩).weight = 1 := by with_unfolding_all rfl
/-- an object of a class is made: from its two objects on -/
theorem make_on {fI : Addr} {rest : List Value} (hm : makesIn (KK w) C = true) (hi : findIn (KK w) (.ref C) "__init__" = some (some (.ref fI))) (hf : typeIn (KK w) (.ref fI) = some (.type "function")) (X : (KK w).In s.heap)
    (h : ∀ x dx h' A', A'.depth = A.depth + 1 → A'.handled = A.handled → s.heap.get? x = none → s.heap.get? dx = none → x ≠ dx → Sub s.heap h' → h'.get? x = some (instObj C dx) → h'.get? dx = some (dictOf [] 0) →
      codeAny (model Pg w) A' (.call (.ref fI) ⟨.ref x :: rest, []⟩) (InitBack x R) { s with heap := h' }) :
    codeAny (model Pg w) A (.call (.ref C) ⟨rest, []⟩) R s := by
  obtain ⟨hh, gg, dd, tt, oo⟩ := s
  refine make_core (makes_of X hm) (looks_findIn X hi) (fun self => bind_fn X self hf) (.inl rfl) (h _ hh.objs.size _ _ ?_ rfl ?_ ?_ ?_ ?_ ?_ ?_)
  · show A.depth + _ = _; rw [weight_tc]
  · exact Heap.get?_none_of_le (Nat.le_succ _)
  · exact Heap.get?_none_of_le (Nat.le_refl _)
  · exact (Nat.succ_ne_self _)
  · exact (sub_push _ _).tr (sub_push _ _)
  · show (Heap.push _ _).get? _ = _
    have := Heap.get?_push_size (hh.push emptyDict) (o := instObj C hh.objs.size) rfl
    rwa [Heap.size_push] at this
  · exact Heap.get?_push_of_some _ (Heap.get?_push_size _ rfl)
end
/-! MDict -/
section
variable {w : World} {K : Type} [DecidableEq K]
abbrev dicP (knd : KeyKind Pg w K) (kvs : List (K × Value)) : Ob := fun o => ∃ es ep, o.ExactDict ∧ o.data = .dict es ep ∧ KeysOf knd es ∧ Pairs knd es.toList kvs ∧ (kvs.map (·.1)).Nodup
variable {knd : KeyKind Pg w K} {A : Around} {E : Value → Shared → Prop} {s : Shared} {mg mb : Str → Option Value} {g₀ h₀ g h : Heap} {L d : Addr} {m : Str → Option Value} {mus : List (Addr × Ob)} {kvs : List (K × Value)}
theorem dicOfP {g : Heap} (h : ∃ o, g.get? d = some o ∧ dicP knd kvs o) : g.DictOf knd d kvs := let ⟨o, ho, es, ep, r⟩ := h; ⟨o, es, ep, ho, r⟩
theorem dicToP {g : Heap} (h : g.DictOf knd d kvs) : ∃ o, g.get? d = some o ∧ dicP knd kvs o := let ⟨o, es, ep, ho, r⟩ := h; ⟨o, ho, es, ep, r⟩
theorem dicUp {g h : Heap} (H : g.DictOf knd d kvs) (k : Sub g h) : h.DictOf knd d kvs := let ⟨o, es, ep, ho, r⟩ := H; ⟨o, es, ep, k _ _ ho, r⟩
theorem FN.dic (F : FN w mg mb g₀ h₀ g L h m mus) (hm : (d, dicP knd kvs) ∈ mus) : h.DictOf knd d kvs := dicOfP (F.nw _ hm).1
theorem FN.notSys (F : FN w mg mb g₀ h₀ g L h m mus) : (h.objs.size == sysModules) = false := by
  rw [beq_eq_false_iff_ne]
  intro e
  have hk : ((KK w).lookup 396).isSome = true := by exact rfl
  obtain ⟨o, ho⟩ := Option.isSome_iff_exists.mp hk
  have := Heap.lt_size (F.GH.X _ _ ho)
  rw [e] at this
  exact absurd this (by decide)
theorem newD (knd : KeyKind Pg w K) {Q : Value → Shared → Prop} (F : FN w mg mb g₀ h₀ g L s.heap m mus)
    (h : ∀ D h', FN w mg mb g₀ h₀ g L h' m ((D, dicP knd []) :: mus) → s.heap.get? D = none → (D == sysModules) = false → Q (.ref D) { s with heap := h' }) : wpAny (model Pg w) A (newDict #[]) Q E s :=
  wpAny_newObj_type (h _ _ (F.push { cls := .type "dict", data := .dict #[] } (dicP knd []) (let ⟨o, es, ep, ho, r⟩ := Heap.DictOf.new (knd := knd) s.heap; by rw [Heap.get?_push_size _ rfl] at ho; cases ho; exact ⟨es, ep, r⟩)) (Heap.get?_none_of_le (Nat.le_refl _)) F.notSys) (by simp [sizeOk])
theorem setD {Q : Unit → Shared → Prop} {k : K} {key v : Value} (mus₁ : List (Addr × Ob)) {mus₂ : List (Addr × Ob)} (F : FN w mg mb g₀ h₀ g L s.heap m (mus₁ ++ (d, dicP knd kvs) :: mus₂)) (hkey : knd.is k key = true) (hn : kvs.length ≤ sizeLine)
    (h : ∀ h' t, FN w mg mb g₀ h₀ g L h' m (mus₁ ++ (d, dicP knd (stored kvs k v)) :: mus₂) → Q () { s with heap := h', toks := t }) : wpAny (model Pg w) A (setItem (.ref d) key v) Q E s := by
  have F1 : FN w mg mb g₀ h₀ g L s.heap m ((d, dicP knd kvs) :: (mus₁ ++ mus₂)) := F.perm (List.perm_middle.symm)
  refine wpAny_setItem_pairs hkey (F1.dic (.head _)) (fun h' hl' hs => h h' _ ?_) hn
  exact (F1.upd (P' := dicP knd (stored kvs k v)) (fun b x hb e => (hs.2 b hb).trans e) (dicToP hl')).perm List.perm_middle
end
section
variable {w : World} {K : Type} [DecidableEq K] {knd : KeyKind Pg w K} {A : Around} {E : Value → Shared → Prop} {s : Shared} {d : Addr} {kvs : List (K × Value)} {mg mb : Str → Option Value} {g₀ h₀ g : Heap} {L : Addr} {m : Str → Option Value} {mus : List (Addr × Ob)} {k : K} {key v dflt : Value}
theorem getMD {pl : Sem Bool} {Q : Value × List Value → Shared → Prop} (hd : s.heap.DictOf knd d kvs) (h : Q (.builtin "dict.get", [.ref d]) s) : wpAny (model Pg w) A (getMethod (.ref d) "get" pl) Q E s :=
  getMethod_builtin hd.typeIs PySem.F.plainAttrs_dict PySem.F.slot_dict_get PySem.F.type_dict_get hd.mapOf.noDict h
theorem FN.odic {h : Heap} (F : FN w mg mb g₀ h₀ g L h m mus) (H : g₀.DictOf knd d kvs) : h.DictOf knd d kvs := dicUp H (F.kg.tr F.st)
end
section
variable {A : Around} {R : Result → Shared → Prop} {s : Shared} {w : World} {mg mb : Str → Option Value} {g₀ h₀ gs : Heap} {I D C L : Addr} {m₀ : Str → Option Value} {mus₀ : List (Addr × Ob)}
  {fp : List Addr} {n : Nat} {P : Nat → Value → Prop} {St : Nat → Heap → Prop}
theorem eval_compT {test : PySem.Expr} {env : Env} {E : Value → Shared → Prop} {elt iter : PySem.Expr} {x : Str} {px : Pos} {scope : Scope} {cl : List (Str × Addr)} {pos : Pos} {Q : Value → Shared → Prop}
    (hclos : closureFor scope env = pure cl) (hkind : scope.kind = .function) (hnames : ∀ z ∈ scope.names, z.2 = .local → scope.names.lookup z.1 = some .local)
    (hs : ∀ x, foldedSetIterable iter env x = pure x)
    (h : wpAny (model Pg w) A (eval iter env) (fun xv s₁ => wpAny (model Pg w) A (pyIter xv) (fun it s₂ => wpAny (model Pg w) A (newList []) (fun acc s₃ =>
      wpAny (model Pg w) A (newFunctionEnv scope env.globals cl [] env.qual none .none (some env)) (fun cenv s₄ =>
        codeAny (model Pg w) A (.compStart (.ListComp elt [⟨.Name x px, iter, [test], 0⟩] scope pos) 0 it acc { cenv with scope := relabel scope env }) (compPost (model Pg w) A E none Q acc cenv.locals) s₄) E s₃) E s₂) E s₁) E s) :
    wpAny (model Pg w) A (eval (.ListComp elt [⟨.Name x px, iter, [test], 0⟩] scope pos) env) Q E s := by
  rw [eval_ListComp]
  exact wpAny_comprehension_free rfl hs hclos hkind hnames h
end
local macro_rules | `(tactic| lcg_off) => `(tactic| first | exact FN.list (by assumption) (by k_mem) | exact FN.plist (by assumption) (by k_mem) | assumption | exact stays_list (Grow.st (FN.toGrow (by assumption))) (by assumption) | exact FN.olist (by assumption) (by assumption))
local macro_rules | `(tactic| lcg_src) => `(tactic| first | decide | omega)
local macro_rules | `(tactic| tb_rel) => `(tactic| first
  | with_reducible refine wpAny_execs_cons ?_
  | with_reducible refine wpAny_execs_nil ?_
  | ((with_reducible show wpAny _ _ (eval (Expr.Name _ _) _) _ _ _); (first
    | (refine' nL ?F ?v ?_ ?a ?l ?b; (case F => assumption); (case a => exact rfl); (case l => exact rfl); (case b => exact rfl); (case v => first | exact rfl | assumption))
    | (refine' nG ?F ?v ?_ ?a ?l ?b; (case F => assumption); (case a => exact rfl); (case l => exact rfl); (case b => exact rfl); (case v => first | exact rfl | assumption))
    | (refine' nC ?c ?v ?_ ?k ?x; (case x => exact rfl); (case k => exact rfl); (case c => exact rfl); (case v => first | exact FN.cell (by assumption) (by k_mem) | exact FN.gcell (by assumption) (by assumption) | exact FN.ocell (by assumption) (by assumption) | exact FN.hcell (by assumption) (by assumption)))
    | (refine' nF ?c ?v ?_ ?k ?x; (case x => exact rfl); (case k => exact rfl); (case c => exact rfl); (case v => first | exact FN.cell (by assumption) (by k_mem) | exact FN.gcell (by assumption) (by assumption) | exact FN.ocell (by assumption) (by assumption) | exact FN.hcell (by assumption) (by assumption)))
    | (refine' nB ?F ?v ?e ?_ ?a ?l ?m ?b; (case F => assumption); (case a => exact rfl); (case l => exact rfl); (case m => exact rfl); (case b => exact rfl); (case v => first | exact rfl | assumption); (case e => boot_fast))); (try dsimp only))
  | with_reducible refine wpAny_Constant_int ?_
  | with_reducible refine wpAny_Constant_none ?_
  | with_reducible refine wpAny_Constant_bool ?_
  | with_reducible refine wpAny_BinOp ?_
  | with_reducible refine Subscript_ ?_
  | with_reducible refine wpAny_If ?_
  | with_reducible refine wpAny_Return_some ?_
  | ((with_reducible show wpAny _ _ (exec (Stmt.Assign [Expr.Name _ _] (Expr.ListComp _ _ _ _) _) _) _ _ _); (refine' assign_comp ?sw ?cl ?kd ?nm ?fs ?_); (case sw => exact rfl); (case cl => exact rfl); (case kd => exact rfl); (case nm => decide); (case fs => intro _; with_unfolding_all rfl))
  | ((with_reducible show wpAny _ _ (eval (Expr.ListComp _ [⟨_, _, [_], _⟩] _ _) _) _ _ _); (refine' eval_compT ?cl ?kd ?nm ?fs ?_); (case cl => exact rfl); (case kd => exact rfl); (case nm => decide); (case fs => intro _; with_unfolding_all rfl))
  | ((with_reducible show wpAny _ _ (eval (Expr.ListComp _ _ _ _) _) _ _ _); (refine' eval_comp ?cl ?kd ?nm ?fs ?_); (case cl => exact rfl); (case kd => exact rfl); (case nm => decide); (case fs => intro _; with_unfolding_all rfl))
  | ((with_reducible show wpAny _ _ (exec (Stmt.Assign [Expr.Name _ _] _ _) _) _ _ _); refine wpAny_Assign_Name ?_)
  | ((with_reducible show wpAny _ _ (exec (Stmt.Assign [Expr.Subscript _ _ _] _ _) _) _ _ _); refine wpAny_Assign_Subscript ?_)
  | ((with_reducible show wpAny _ _ (storeName _ _ _) _ _ _); (with_reducible rename FN _ _ _ _ _ _ _ _ _ _ => Fo); (refine' sL Fo ?_ ?a ?l ?b; (case a => exact rfl); (case l => exact rfl); (case b => exact rfl)); intro h' tk' F'; clear Fo; (try dsimp only))
  | ((with_reducible show wpAny _ _ (subscriptTail _ _ (Value.ref _) (Value.int _ _)) _ _ _); (refine' itemL ?l ?a ?b ?x ?_ ?s; (case l => lcg_off); (case a => lcg_src); (case b => lcg_src); (case x => first | exact rfl | assumption); (case s => with_unfolding_all rfl)); (try dsimp only))
  | ((with_reducible show wpAny _ _ (setItem (Value.ref _) (Value.int _ _) _) _ _ _); (with_reducible rename FN _ _ _ _ _ _ _ _ _ _ => Fo); (refine' setL Fo ?a ?b ?n ?_; (case a => lcg_src); (case b => lcg_src); (case n => (simp only [List.length_cons, List.length_nil]; lcg_src))); intro h' tk' F'; clear Fo; (try simp only [Int.reduceToNat, List.set_cons_succ, List.set_cons_zero] at F'); (try dsimp only))
  | ((with_reducible show wpAny _ _ (call (Value.builtin _) [Value.ref _]) _ _ _); (refine' lenL ?l ?a ?_; (case l => lcg_off); (case a => first | decide | omega)); (try dsimp only))
  | ((with_reducible show wpAny _ _ (truthy (Value.ref _)) _ _ _); (refine' truthyL ?l ?a ?_; (case l => lcg_off); (case a => (try simp only [List.length_cons, List.length_nil]); first | decide | omega)); (try dsimp only [List.isEmpty_nil, List.isEmpty_cons, Bool.not_true, Bool.not_false]))
  | ((with_reducible show ite (true = true) _ _); rw [if_pos rfl])
  | ((with_reducible show ite ((!false) = true) _ _); rw [if_pos (by decide : (!false) = true)])
  | ((with_reducible show ite ((!true) = true) _ _); rw [if_neg (by decide : ¬ ((!true) = true))])
  | ((with_reducible show ite (false = true) _ _); rw [if_neg Bool.false_ne_true])
  | ((with_reducible show wpAny _ _ (exec (Stmt.Assign [Expr.Attribute _ _ _] _ _) _) _ _ _); refine' plainObj_wpAny_Assign_Attribute ?_ ?sw; (case sw => with_unfolding_all rfl))
  | ((with_reducible show wpAny _ _ (setAttr (Value.ref _) _ _) _ _ _); (with_reducible rename FN _ _ _ _ _ _ _ _ _ _ => Fo); (refine' setA [] Fo ?x ?s ?p ?t ?h ?l ?z ?_; (case x => exact .tail _ (.head _)); (case s => exact rfl); (case p => exact rfl); (case t => exact rfl); (case h => exact rfl); (case l => exact rfl); (case z => first | decide | exact Nat.le_of_ble_eq_true rfl)); intro h' t' F'; clear Fo; (try dsimp only [List.nil_append] at F'); (try dsimp only))
  | ((with_reducible show wpAny _ _ (evalPairs _) _ _ _); first | refine evalPairs_cons ?_ | refine evalPairs_nil ?_)
  | ((with_reducible show wpAny _ _ (Bind.bind (eval _ _) _) _ _ _); refine pairV ?_)
  | ((with_reducible show wpAny _ _ (getAttr (Value.ref _) _ _) _ _ _); (with_reducible rename FN _ _ _ _ _ _ _ _ _ _ => Fo); (refine' getA Fo ?hs ?g ?h ?a ?n ?v ?_; (case hs => (first | assumption | exact Has.up (by assumption) (Grow.kg (FN.toGrow Fo)))); (case g => exact rfl); (case h => exact rfl); (case a => exact rfl); (case n => exact rfl); (case v => exact rfl)); (try dsimp only))
  | ((with_reducible show wpAny _ _ (getMethod (Value.ref _) _ _) _ _ _); (with_reducible rename FN _ _ _ _ _ _ _ _ _ _ => Fo); (refine' getM Fo ?hs ?g ?f ?t ?_; (case hs => (first | assumption | exact Has.up (by assumption) (Grow.kg (FN.toGrow Fo)))); (case g => exact rfl); (case f => exact rfl); (case t => exact rfl)); (try dsimp only))
  | ((with_reducible show wpAny _ _ (getMethod (Value.ref _) _ _) _ _ _); (with_reducible rename FN _ _ _ _ _ _ _ _ _ _ => Fo); (first | (refine' getMD (knd := intKind Pg _) (FN.odic Fo ?hs) ?_; (case hs => assumption)) | (refine' getMD (knd := strKind Pg _) (FN.odic Fo ?hs) ?_; (case hs => assumption))); (try dsimp only))
  | ((with_reducible show wpAny _ _ (eval (Expr.Attribute _ _ _) _) _ _ _); refine' Attribute_any_ ?_ ?he; (case he => with_unfolding_all rfl))
  | ((with_reducible show wpAny _ _ (exec (Stmt.For _ _ _ _ _) _) _ _ _); refine' wpAny_For ?_ ?fs; (case fs => intro _; with_unfolding_all rfl))
  | ((with_reducible show wpAny _ _ (newList _) _ _ _); (with_reducible rename FN _ _ _ _ _ _ _ _ _ _ => Fo); (refine' newL Fo ?_ ?n; (case n => (simp only [List.length_cons, List.length_nil]; decide))); intro D' h' F' hD'; clear Fo; (try dsimp only))
  | ((with_reducible show wpAny _ _ (newTuple _) _ _ _); (with_reducible rename FN _ _ _ _ _ _ _ _ _ _ => Fo); (refine' newT Fo ?_ ?n; (case n => (simp only [List.length_cons, List.length_nil]; decide))); intro D' h' F' hD'; clear Fo; (try dsimp only))
  | ((with_reducible show wpAny _ _ (callWith _ (Value.ref _) _ _ []) _ _ _); (with_reducible rename FN _ _ _ _ _ _ _ _ _ _ => Fo); (first | (refine' callWith_K Fo.G.X ?k ?_; (case k => exact rfl)) | (refine' callWith_K0 Fo.GH.X ?k ?_; (case k => exact rfl); (try dsimp only [List.nil_append, List.cons_append]))))
  | ((with_reducible show Frag.In _ _ ∧ _); (with_reducible rename FN _ _ _ _ _ _ _ _ _ _ => Fo); refine And.intro Fo.GH.X ?_; (try dsimp only [List.nil_append, List.cons_append]))
  | ((with_reducible show wpAny _ _ (getMethod (Value.ref _) _ _) _ _ _); (refine' getAppend ?l ?_; (case l => exact FN.plain (by assumption) (by k_mem))); (try dsimp only))
  | ((with_reducible show wpAny _ _ (callWith _ (Value.builtin _) _ _ []) _ _ _); (refine' callWith_method1 ?_ ?he ?hp; (case he => exact rfl); (case hp => exact rfl)))
  | ((with_reducible show wpAny _ _ (call (Value.builtin "isinstance") [_, _]) _ _ _); ((with_reducible rename FN _ _ _ _ _ _ _ _ _ _ => Fo); (first | (refine' isi_FN (b := false) Fo ?z ?hH ?hx ?e ?_; (case z => assumption); (case hH => assumption); (case hx => (first | assumption | (intro q; cases q))); (case e => first | assumption | exact rfl)) | (refine' isi_FN (b := true) Fo ?z ?hH ?hx ?e ?_; (case z => assumption); (case hH => assumption); (case hx => (first | assumption | (intro q; cases q))); (case e => first | assumption | exact rfl))); intro tk; (try dsimp only)))
  | ((with_reducible show ite _ _ _); first | (refine' ite_t ?h ?_; (case h => exact rfl)) | (refine' ite_f ?h ?_; (case h => exact rfl)) | split)
  | ((first | (with_reducible show wpAny _ _ _ _ _ _) | (with_reducible show codeAny _ _ _ _ _)); first | (walk1; (try dsimp only)) | (dsimp only; walk1)))
/-! MDraw -/
set_option maxHeartbeats 2000000 in
theorem draw_spec {A : Around} {s : Shared} {w : World} {mg mb : Str → Option Value} {g : Heap} {R : Result → Shared → Prop} {p ca : Addr} {cvs : List Value} {cs : List Int} {great state place lim : Int} {t1 t2 t3 t4 : Tok}
    (G : Gr w mg mb g) (k : Sub g s.heap) (hd : A.depth + 5 < recursionLimit) (hp : s.heap.IsList p [.ref ca, .int great t1, .int state t2, .int place t3].toArray) (hgp : g.get? p = none)
    (hc : g.IsList ca cvs.toArray) (hcs : IntsAre cvs cs) (hcl : cvs.length < 2 ^ 40) (hl : 1 ≤ lim ∧ lim ≤ 7) (hg : 0 ≤ great) (hs : 0 ≤ state ∧ state < 2147483647) (hpl : 0 ≤ place ∧ place ≤ 1000)
    (hR : ∀ g' h' t' d td great' t1' state' t2' t3', Grow g (s.heap.hide p) g' h' → h'.IsList p [.ref ca, .int great' t1', .int state' t2', .int (place + 1) t3'].toArray → g'.get? p = none →
      0 ≤ great' → 0 ≤ state' → state' < 2147483647 → 0 ≤ d → d < lim → R (.ok (.ret (.int d td))) { s with heap := h', toks := t' }) :
    codeAny (model Pg w) A (.call (.ref 396) ⟨[.ref p, .int lim t4], []⟩) R s := by
  refine' enter (B := s.heap.hide p) (binds := [(Str.ofString "pen", .ref p), (Str.ofString "limit", .int lim t4)]) G (sub_hide_of k hgp) (sub_hide _ _) ?hroom ?ho ?hcd ?hbind ?hloc ?hcell ?hco ?hgen ?hk ?_
  case hroom => omega
  case ho => exact rfl
  case hcd => exact rfl
  case hbind => exact BindsTo.of_eq rfl
  case hloc => exact locs rfl
  case hcell => decide
  case hco => exact rfl
  case hgen => exact rfl
  case hk => exact rfl
  intro L h₁ A₁ F k₁ hL D
  obtain ⟨op, hop, hpP⟩ := hp
  have hpL : p ≠ L := fun q => by rw [← q, hop] at hL; cases hL
  have F := F.add (P := listP [.ref ca, .int great t1, .int state t2, .int place t3]) ⟨op, k₁ _ _ hop, hpP⟩ hpL hgp (Heap.hide_self _ _) (fun _ hq => nomatch hq)
  clear k₁ hL
  repeat' tb_rel
  all_goals (rename FN _ _ _ _ _ _ _ _ _ _ => F)
  all_goals (try simp only [decide_eq_true_eq] at *)
  · exact hR _ _ _ _ _ _ _ _ _ _ F.ret (F.list (.head _)) (F.offg (.head _)) (Int.fdiv_nonneg hg (by omega)) hs.1 hs.2 (fmod_lo _ (by omega)) (fmod_hi _ (by omega))
  · obtain ⟨c, tc, hx⟩ := ints_get (i := place.toNat) hcs (by omega)
    refine' itemL ?l ?a ?b hx ?_ ?s
    case l => lcg_off
    case a => omega
    case b => omega
    case s => with_unfolding_all rfl
    repeat' tb_rel
    exact hR _ _ _ _ _ _ _ _ _ _ F.ret (F.list (.head _)) (F.offg (.head _)) hg (fmod_lo _ (by omega)) (fmod_hi _ (by omega)) (fmod_lo _ (by omega)) (fmod_hi _ (by omega))
  · exact hR _ _ _ _ _ _ _ _ _ _ F.ret (F.list (.head _)) (F.offg (.head _)) hg (fmod_lo _ (by omega)) (fmod_hi _ (by omega)) (fmod_lo _ (by omega)) (fmod_hi _ (by omega))
/-! MPen -/
set_option maxHeartbeats 2000000 in
theorem pen_spec {A : Around} {s : Shared} {w : World} {mg mb : Str → Option Value} {g : Heap} {R : Result → Shared → Prop} {sa : Addr} {vs : List Value} {ns : List Int}
    (G : Gr w mg mb g) (k : Sub g s.heap) (hd : A.depth + 5 < recursionLimit) (hh : A.handled = none) (hl : g.IsList sa vs.toArray) (hcs : IntsAre vs ns) (hcl : ns.length ≤ 63)
    (hR : ∀ g' h' t' p ca cvs cs great state t1 t2 t3, Grow g s.heap g' h' → h'.IsList p [.ref ca, .int great t1, .int state t2, .int 0 t3].toArray → g'.get? p = none → s.heap.get? p = none →
      g'.IsList ca cvs.toArray → IntsAre cvs cs → cvs.length < 2 ^ 40 → 0 ≤ great → 0 ≤ state → state < 2147483647 → R (.ok (.ret (.ref p))) { s with heap := h', toks := t' }) :
    codeAny (model Pg w) A (.call (.ref 389) ⟨[.ref sa], []⟩) R s := by
  refine' enter (B := s.heap) (binds := [(Str.ofString "script", .ref sa)]) G k (Sub.rfl' _) ?hroom ?ho ?hcd ?hbind ?hloc ?hcell ?hco ?hgen ?hk ?_
  case hroom => omega
  case ho => exact rfl
  case hcd => exact rfl
  case hbind => exact BindsTo.of_eq rfl
  case hloc => exact locs rfl
  case hcell => decide
  case hco => exact rfl
  case hgen => exact rfl
  case hk => exact rfl
  intro L h₁ A₁ F k₁ hL D
  repeat' tb_rel
  have hpk := kmk_upto (y := 48) hcs (by decide)
  have hlen := hcs.length
  refine' sliceL ?F (stays_list ?st hl) IsPart.none (IsPart.int 48 _) IsPart.none (by simp) ?_ ?hsz ?hs ?ht
  case F => exact F
  case st => exact F.st
  case hsz => simp [sizeLine]; omega
  case hs => with_unfolding_all rfl
  case ht => intro _; with_unfolding_all rfl
  have hsz := slicePick_size_le vs.toArray none (some 48) none
  generalize slicePick vs.toArray none (some 48) none = sp at hpk hsz ⊢
  generalize ns.take (Int.toNat 48) = sn at hpk
  simp only [List.size_toArray] at hsz
  intro D0 h₂ F₂ k₂ _
  clear F
  refine iter_list F₂ (F₂.list (.head _)) fun I h₃ oI F₃ hit hl3 hne _ k₃ => ?_
  refine comp_run (mus₀ := []) (It.list (D.handled.trans hh) I D0 hne _) (fun i g mus ys => mus = [] ∧ ∃ cs, IntsAre ys cs) (by decide) rfl rfl ?n F₃ ⟨hit, hl3⟩ ⟨rfl, [], .nil⟩ (fun i g mus ys h p hp => by rw [h.1] at hp; cases hp) ?fp ?turn ?fin
  case n => simp [sizeLine]; omega
  case fp =>
    intro b hb
    rcases List.mem_cons.mp hb with rfl | hb
    · exact .inl rfl
    · rw [List.mem_singleton.mp hb]
      exact .inr ⟨let ⟨o, ho, _⟩ := hl3; ⟨o, ho⟩, fun _ hp => nomatch hp⟩
  case turn =>
    rintro C i g' h m' mus ys D1 v tk oI1 E' hi hv kg ⟨rfl, cs, hcs'⟩ hlen' hCn F'
    obtain ⟨c, tc, hx⟩ := ints_get hpk (by simpa using hi)
    have hv : v = .int c tc := by simp at hv hx; rw [hv] at hx; exact Option.some.inj hx
    subst hv
    repeat' tb_rel
    exact ⟨g', _, _, [], _, rfl, Sub.rfl' _, F', rfl, _, IntsAre.append hcs' (.cons _ _ .nil)⟩
  case fin =>
    rintro g' h' m' mus ys tk D1 C kg ⟨rfl, cs, hcs'⟩ hlen' hCn F' hgC hsC hCL hne1
    refine' comp_use ?hL ?hy ?hp hCn F' hgC hsC hCL hne1 ?_
    case hL => exact rfl
    case hy => exact rfl
    case hp => exact rfl
    intro h₄ tk₄ F₄
    clear F₂ F₃ F'
    have hlen2 : ys.length ≤ 63 := by simp at hlen'; omega
    repeat' ((fail_if_success (with_reducible show wpAny _ _ (exec (Stmt.If _ _ _ _) _) _ _ _)); tb_rel)
    rename FN _ _ _ _ _ _ _ _ _ _ => F
    refine wpAny_mono (Q := fun (f : Flow) s' => f = Flow.next ∧ ∃ h tk great t1 m, s' = { s with heap := h, toks := tk } ∧ 0 ≤ great ∧ FN w mg mb g s.heap g' L h m [(D1, listP ys)] ∧ m (Str.ofString "cells") = some (.ref D1) ∧ m (Str.ofString "great") = some (.int great t1)) ?first ?nxt (fun _ _ e => e)
    case first =>
      rcases hcs' with _ | ⟨c0, t0, hcs'⟩
      all_goals (try simp only [List.length_cons] at hlen2)
      all_goals repeat' tb_rel
      all_goals (rename FN _ _ _ _ _ _ _ _ _ _ => F; exact ⟨rfl, _, _, _, _, _, rfl, by first | exact Int.le_refl 0 | exact fmod_lo _ (by decide), F.sub (List.Sublist.cons_cons _ (List.nil_sublist _)), rfl, rfl⟩)
    case nxt =>
      rintro f s' ⟨rfl, h₅, tk₅, great, t1, m₅, rfl, hg0, F₅, hc, hgr⟩
      dsimp only
      clear hne1 F hit hl3
      repeat' tb_rel
      rename FN _ _ _ _ _ _ _ _ _ _ => F
      obtain ⟨g2, F, kg2, hfz⟩ := F.freezeAll
      have hD1 : g2.IsList D1 ys.toArray := listOfP (hfz _ (.head _))
      refine iter_list F (stays_list F.st hD1) fun I h₆ oI F₆ hit hl6 hne _ k₆ => ?_
      dsimp only
      refine' forLoop_FN (mus₀ := []) (It.list (D.handled.trans hh) I D1 hne _) (fun i g m mus => mus = [] ∧ m "cells" = some (.ref D1) ∧ m "great" = some (.int great t1) ∧ ∃ st t, 0 ≤ st ∧ st < 2147483647 ∧ m "state" = some (.int st t)) ?hL ?hx ?hp (fpL hD1) F₆ ⟨hit, hl6⟩ ⟨rfl, hc, hgr, 1, _, by decide, by decide, rfl⟩ ?turn ?fin
      case hL => exact rfl
      case hx => exact rfl
      case hp => exact rfl
      case turn =>
        rintro i g3 h₇ m₇ mus v tk₇ oI₇ E' hi hv kg3 ⟨rfl, hc7, hgr7, st, t, hs0, hs1, hs7⟩ F₇
        obtain ⟨c, tc, hx⟩ := ints_get hcs' (by simpa using hi)
        have hv : v = .int c tc := by simp at hv hx; rw [hv] at hx; exact Option.some.inj hx
        subst hv
        clear F F₆
        repeat' tb_rel
        rename FN _ _ _ _ _ _ _ _ _ _ => F
        exact ⟨g3, _, _, [], _, rfl, Sub.rfl' _, F, rfl, hc7, hgr7, _, _, fmod_lo _ (by decide), fmod_hi _ (by decide), rfl⟩
      case fin =>
        rintro g3 h₇ m₇ mus tk₇ kg3 ⟨rfl, hc7, hgr7, st, t, hs0, hs1, hs7⟩ F₇
        clear F F₆
        dsimp only
        repeat' tb_rel
        rename FN _ _ _ _ _ _ _ _ _ _ => F
        exact hR _ _ _ _ _ _ _ _ _ _ _ _ F.ret (F.plist (.head _)) (F.offg (.head _)) (F.nw _ (.head _)).2.2.2 (stays_list kg3 hD1) hcs' (by omega) hg0 hs0 hs1
/-! MStep -/
inductive All2 {α β : Type} (R : α → β → Prop) : List α → List β → Prop
  | nil : All2 R [] []
  | cons {a b as bs} (h : R a b) (t : All2 R as bs) : All2 R (a :: as) (b :: bs)
theorem All2.length {α β : Type} {R : α → β → Prop} : ∀ {as : List α} {bs : List β}, All2 R as bs → as.length = bs.length
  | _, _, .nil => rfl
  | _, _, .cons _ t => by simp [t.length]
theorem All2.snoc {α β : Type} {R : α → β → Prop} {a : α} {b : β} (h : R a b) : ∀ {as : List α} {bs : List β}, All2 R as bs → All2 R (as ++ [a]) (bs ++ [b])
  | _, _, .nil => .cons h .nil
  | _, _, .cons h' t => .cons h' (t.snoc h)
theorem All2.get {α β : Type} {R : α → β → Prop} : ∀ {as : List α} {bs : List β} {i : Nat}, All2 R as bs → i < as.length → ∃ a b, as[i]? = some a ∧ bs[i]? = some b ∧ R a b
  | _, _, _, .nil, h => absurd h (Nat.not_lt_zero _)
  | _, _, 0, .cons h _, _ => ⟨_, _, rfl, rfl, h⟩
  | _, _, i + 1, .cons _ t, h => by simpa using t.get (Nat.lt_of_succ_lt_succ h)
theorem All2.mono {α β : Type} {R R' : α → β → Prop} (k : ∀ a b, R a b → R' a b) : ∀ {as : List α} {bs : List β}, All2 R as bs → All2 R' as bs
  | _, _, .nil => .nil
  | _, _, .cons h t => .cons (k _ _ h) (t.mono k)
inductive LinkV : Value → Option Int → Prop
  | none : LinkV .none .none
  | int (i : Int) (t : Tok) : LinkV (.int i t) (some i)
def penP (g : Heap) (n : Int) : Ob := fun o => ∃ ca cvs cs great state t1 t2 t3, listP [.ref ca, .int great t1, .int state t2, .int n t3] o ∧ g.IsList ca cvs.toArray ∧ IntsAre cvs cs ∧ cvs.length < 2 ^ 40 ∧ 0 ≤ great ∧ 0 ≤ state ∧ state < 2147483647
theorem penP.up {g g' : Heap} {n : Int} (k : Sub g g') (o : Obj) : penP g n o → penP g' n o
  | ⟨ca, cvs, cs, great, state, t1, t2, t3, h1, h2, r⟩ => ⟨ca, cvs, cs, great, state, t1, t2, t3, h1, stays_list k h2, r⟩
section
variable {A : Around} {E : Value → Shared → Prop} {s : Shared} {w : World} {mg mb : Str → Option Value} {g₀ h₀ g : Heap} {L : Addr} {m : Str → Option Value} {mus₁ mus₂ : List (Addr × Ob)}
theorem draw_FN {p : Addr} {lim n : Int} {t4 : Tok} {Q : Value → Shared → Prop} (mus₁ : List (Addr × Ob))
    (F : FN w mg mb g₀ h₀ g L s.heap m (mus₁ ++ (p, penP g n) :: mus₂)) (hd : A.depth + 5 < recursionLimit) (hl : 1 ≤ lim ∧ lim ≤ 7) (hn : 0 ≤ n ∧ n ≤ 1000)
    (h : ∀ g' h' tk d td, FN w mg mb g₀ h₀ g' L h' m (mus₁ ++ (p, penP g' (n + 1)) :: mus₂) → Sub g g' → 0 ≤ d → d < lim → Q (.int d td) { s with heap := h', toks := tk }) :
    wpAny (model Pg w) A (call (.ref 396) [.ref p, .int lim t4]) Q E s := by
  have F1 : FN w mg mb g₀ h₀ g L s.heap m ((p, penP g n) :: (mus₁ ++ mus₂)) := F.perm (List.perm_middle.symm)
  obtain ⟨⟨o, ho, ca, cvs, cs, great, state, t1, t2, t3, hP, hca, hcs, hcl, hg, hs0, hs1⟩, _, hgp, _⟩ := F1.nw _ (.head _)
  refine wpAny_call (draw_spec F1.G F1.st hd ⟨o, ho, hP.1, hP.2.choose, hP.2.choose_spec⟩ hgp hca hcs hcl hl hg ⟨hs0, hs1⟩ hn ?_)
  intro g' h' t' d td great' t1' state' t2' t3' W hl' hg' a1 a2 a3 a4 a5
  obtain ⟨o', ho', hc', n', hd'⟩ := hl'
  refine h g' h' t' d td ?_ W.kg a4 a5
  exact (F1.afterM W ⟨o', ho', ca, cvs, cs, great', state', t1', t2', t3', ⟨hc', n', hd'⟩, stays_list W.kg hca, hcs, hcl, a1, a2, a3⟩ hg').perm List.perm_middle
end
/-! MLinks -/
set_option maxHeartbeats 2000000 in
theorem links_spec {A : Around} {s : Shared} {w : World} {mg mb : Str → Option Value} {g : Heap} {R : Result → Shared → Prop} {p : Addr} {n count : Int} {tc : Tok}
    (G : Gr w mg mb g) (k : Sub g s.heap) (hd : A.depth + 15 < recursionLimit) (hh : A.handled = none) (hgp : g.get? p = none) (hp : ∃ o, s.heap.get? p = some o ∧ penP g n o) (hn : 0 ≤ n ∧ n < 100) (hct : 1 ≤ count ∧ count ≤ 6)
    (hR : ∀ g' h' t' lk ys ls k, Grow g (s.heap.hide p) g' h' → (∃ o, h'.get? p = some o ∧ penP g' k o) → g'.get? p = none → n ≤ k → k ≤ n + 2 * count → g'.IsList lk ys.toArray → All2 LinkV ys ls → (ls.length : Int) = count →
      R (.ok (.ret (.ref lk))) { s with heap := h', toks := t' }) :
    codeAny (model Pg w) A (.call (.ref 403) ⟨[.ref p, .int count tc], []⟩) R s := by
  refine' enter (B := s.heap.hide p) (binds := [(Str.ofString "pen", .ref p), (Str.ofString "count", .int count tc)]) G (sub_hide_of k hgp) (sub_hide _ _) ?hroom ?ho ?hcd ?hbind ?hloc ?hcell ?hco ?hgen ?hk ?_
  case hroom => omega
  case ho => exact rfl
  case hcd => exact rfl
  case hbind => exact BindsTo.of_eq rfl
  case hloc => exact locs rfl
  case hcell => decide
  case hco => exact rfl
  case hgen => exact rfl
  case hk => exact rfl
  intro L h₁ A₁ F k₁ hL D
  have hdep := D.depth
  obtain ⟨op, hop, hpP⟩ := hp
  have hpL : p ≠ L := fun q => by rw [← q, hop] at hL; cases hL
  have F := F.add (P := penP g n) ⟨op, k₁ _ _ hop, hpP⟩ hpL hgp (Heap.hide_self _ _) (fun _ hq => nomatch hq)
  repeat' tb_rel
  rename_i lk _ _ _ _ F
  refine range_2 F (by decide) (by omega) (by omega) fun I h₂ oI tk F₂ hit _ k₂ => ?_
  dsimp only at k₂ ⊢
  refine' forLoop_FN (mus₀ := [(lk, plP []), (p, penP g n)]) (It.range (D.handled.trans hh) I _ _) (fun i g m mus => m "links" = some (.ref lk) ∧ m "pen" = some (.ref p) ∧ m "count" = some (.int count tc) ∧ ∃ ys ls k, mus = [(lk, plP ys), (p, penP g k)] ∧ n ≤ k ∧ k ≤ n + 2 * (i : Nat) ∧ All2 LinkV ys ls ∧ ls.length = i) ?hL ?hx ?hp ?fp F₂ hit ⟨rfl, rfl, rfl, [], [], n, rfl, Int.le_refl n, by simp, .nil, rfl⟩ ?turn ?fin
  case hL => exact rfl
  case hx => exact rfl
  case hp => exact rfl
  case fp => exact fun b hb => .inl (List.mem_singleton.mp hb)
  case turn =>
    rintro i g₃ h₃ m₃ mus v tk₃ oI₃ E' hi ⟨t₃, rfl⟩ kg₃ ⟨hl3, hp3, hc3, ys, ls, kk, rfl, hk0, hk1, hys, hln⟩ F₃
    clear F F₂
    repeat' tb_rel
    rename FN _ _ _ _ _ _ _ _ _ _ => F
    refine' draw_FN [_, _] F ?ddep ?dlim ?dn ?_
    case ddep => omega
    case dlim => omega
    case dn => omega
    clear F
    intro g₄ h' tk way td F kg hw0 hw1
    simp only [List.cons_append, List.nil_append] at F
    dsimp only
    have kg3 := kg
    repeat' tb_rel
    · rename FN _ _ _ _ _ _ _ _ _ _ => F
      refine' draw_FN [_, _, _] F ?ddep ?dlim ?dn ?_
      case ddep => omega
      case dlim => omega
      case dn => omega
      clear F
      intro g₅ h' tk d td F kg d0 d1
      simp only [List.cons_append, List.nil_append] at F
      dsimp only
      have kg5 := kg
      obtain rfl | rfl | rfl : d = 0 ∨ d = 1 ∨ d = 2 := by omega
      all_goals repeat' tb_rel
      all_goals
        rename FN _ _ _ _ _ _ _ _ _ _ => F
        refine' appL [_, _] F ?aln ?_
        case aln => (simp [sizeLine]; have := hys.length; omega)
        clear F
        intro h' F
        simp only [List.cons_append, List.nil_append] at F
        dsimp only
        repeat' tb_rel
        rename FN _ _ _ _ _ _ _ _ _ _ => F
        refine ⟨g₅, _, _, _, _, rfl, kg3.tr kg5, F.tl, hl3, hp3, hc3, _, _, _, rfl, ?_, ?_, hys.snoc (by first | exact LinkV.none | exact LinkV.int _ _), ?_⟩ <;> first | omega | (simp [hln])
    · rename FN _ _ _ _ _ _ _ _ _ _ => F
      refine' draw_FN [_, _] F ?ddep ?dlim ?dn ?_
      case ddep => omega
      case dlim => omega
      case dn => omega
      clear F
      intro g₅ h' tk d td F kg d0 d1
      simp only [List.cons_append, List.nil_append] at F
      dsimp only
      have kg5 := kg
      repeat' tb_rel
      have hw : (way == 4) = false := by simp_all
      have hw : way ≠ 4 := by simpa using hw
      obtain rfl | rfl | rfl | rfl : way = 0 ∨ way = 1 ∨ way = 2 ∨ way = 3 := by omega
      all_goals repeat' tb_rel
      all_goals
        rename FN _ _ _ _ _ _ _ _ _ _ => F
        refine' appL [_, _] F ?aln ?_
        case aln => (simp [sizeLine]; have := hys.length; omega)
        clear F
        intro h' F
        simp only [List.cons_append, List.nil_append] at F
        dsimp only
        repeat' tb_rel
        rename FN _ _ _ _ _ _ _ _ _ _ => F
        refine ⟨g₅, _, _, _, _, rfl, kg3.tr kg5, F.tl, hl3, hp3, hc3, _, _, _, rfl, ?_, ?_, hys.snoc (by first | exact LinkV.none | exact LinkV.int _ _), ?_⟩ <;> first | omega | (simp [hln])
  case fin =>
    rintro g₃ h₃ m₃ mus tk₃ kg₃ ⟨hl3, hp3, hc3, ys, ls, kk, rfl, hk0, hk1, hys, hln⟩ F₃
    clear F F₂
    dsimp only
    repeat' tb_rel
    obtain ⟨g₄, F, kg4, hf⟩ := FN.freeze (mus := [(lk, plP ys)]) [(p, penP g₃ kk)] F₃
    have F := F.weak (penP.up kg4)
    exact hR _ _ _ _ _ _ _ F.ret (F.nw _ (.head _)).1 (F.offg (.head _)) hk0 (by omega) (plOfP (hf _ (.head _))) hys (by omega)
/-! MNew -/
set_option maxHeartbeats 2000000 in
theorem ref_spec {A : Around} {s : Shared} {w : World} {mg mb : Str → Option Value} {g : Heap} {R : Result → Shared → Prop} {v0 v1 : Value}
    (G : Gr w mg mb g) (k : Sub g s.heap) (hd : A.depth + 15 < recursionLimit)
    (hR : ∀ g' h' t' x, Grow g s.heap g' h' → s.heap.get? x = none → Has g' x 254 "number" (some v0) → Has g' x 254 "generation" (some v1) → Has g' x 254 "pair" none → R (.ok (.ret (.ref x))) { s with heap := h', toks := t' }) :
    codeAny (model Pg w) A (.call (.ref 254) ⟨[v0, v1], []⟩) R s := by
  have X := G.X.keeps k
  refine' make_on (C := 254) (fI := 244) ?hm ?hi ?hf X ?_
  case hm => exact rfl
  case hi => exact rfl
  case hf => exact rfl
  intro x dx h' A' hA1 hA2 hx0 hdx0 hne kh hx hdx
  refine' enter (B := s.heap) (binds := [(Str.ofString "self", .ref x), (Str.ofString "number", v0), (Str.ofString "generation", v1)]) G k kh ?hroom ?ho ?hcd ?hbind ?hloc ?hcell ?hco ?hgen ?hk ?_
  case hroom => omega
  case ho => exact rfl
  case hcd => exact rfl
  case hbind => exact BindsTo.of_eq rfl
  case hloc => exact locs rfl
  case hcell => decide
  case hco => exact rfl
  case hgen => exact rfl
  case hk => exact rfl
  intro L h₁ A₁ F k₁ hL D
  have hdep := D.depth
  have nL : ∀ {b o}, h'.get? b = some o → b ≠ L := fun e q => by rw [← q, e] at hL; cases hL
  have F := F.add (P := isP (instObj 254 dx)) ⟨_, k₁ _ _ hx, rfl⟩ (nL hx) (none_of_sub k hx0) hx0 (fun _ hq => nomatch hq)
  have F := F.add (P := isP (dictOf [] 0)) ⟨_, k₁ _ _ hdx, rfl⟩ (nL hdx) (none_of_sub k hdx0) hdx0 (fun _ hq => by rw [List.mem_singleton.mp hq]; exact hne)
  repeat' tb_rel
  rename FN _ _ _ _ _ _ _ _ _ _ => F
  obtain ⟨g', F, kg, hf⟩ := F.freezeAll
  obtain ⟨_, q1, rfl⟩ := hf _ (.head _)
  obtain ⟨_, q2, rfl⟩ := hf _ (.tail _ (.head _))
  exact ⟨rfl, hR _ _ _ _ F.ret hx0 ⟨_, _, q2, q1, rfl⟩ ⟨_, _, q2, q1, rfl⟩ ⟨_, _, q2, q1, rfl⟩⟩
set_option maxHeartbeats 2000000 in
theorem name_spec {A : Around} {s : Shared} {w : World} {mg mb : Str → Option Value} {g : Heap} {R : Result → Shared → Prop} {v0 : Value}
    (G : Gr w mg mb g) (k : Sub g s.heap) (hd : A.depth + 15 < recursionLimit)
    (hR : ∀ g' h' t' x, Grow g s.heap g' h' → s.heap.get? x = none → Has g' x 183 "text" (some v0) → R (.ok (.ret (.ref x))) { s with heap := h', toks := t' }) :
    codeAny (model Pg w) A (.call (.ref 183) ⟨[v0], []⟩) R s := by
  have X := G.X.keeps k
  refine' make_on (C := 183) (fI := 180) ?hm ?hi ?hf X ?_
  case hm => exact rfl
  case hi => exact rfl
  case hf => exact rfl
  intro x dx h' A' hA1 hA2 hx0 hdx0 hne kh hx hdx
  refine' enter (B := s.heap) (binds := [(Str.ofString "self", .ref x), (Str.ofString "text", v0)]) G k kh ?hroom ?ho ?hcd ?hbind ?hloc ?hcell ?hco ?hgen ?hk ?_
  case hroom => omega
  case ho => exact rfl
  case hcd => exact rfl
  case hbind => exact BindsTo.of_eq rfl
  case hloc => exact locs rfl
  case hcell => decide
  case hco => exact rfl
  case hgen => exact rfl
  case hk => exact rfl
  intro L h₁ A₁ F k₁ hL D
  have hdep := D.depth
  have nL : ∀ {b o}, h'.get? b = some o → b ≠ L := fun e q => by rw [← q, e] at hL; cases hL
  have F := F.add (P := isP (instObj 183 dx)) ⟨_, k₁ _ _ hx, rfl⟩ (nL hx) (none_of_sub k hx0) hx0 (fun _ hq => nomatch hq)
  have F := F.add (P := isP (dictOf [] 0)) ⟨_, k₁ _ _ hdx, rfl⟩ (nL hdx) (none_of_sub k hdx0) hdx0 (fun _ hq => by rw [List.mem_singleton.mp hq]; exact hne)
  repeat' tb_rel
  rename FN _ _ _ _ _ _ _ _ _ _ => F
  obtain ⟨g', F, kg, hf⟩ := F.freezeAll
  obtain ⟨_, q1, rfl⟩ := hf _ (.head _)
  obtain ⟨_, q2, rfl⟩ := hf _ (.tail _ (.head _))
  exact ⟨rfl, hR _ _ _ _ F.ret hx0 ⟨_, _, q2, q1, rfl⟩⟩
set_option maxHeartbeats 2000000 in
theorem strm_spec {A : Around} {s : Shared} {w : World} {mg mb : Str → Option Value} {g : Heap} {R : Result → Shared → Prop} {v0 v1 : Value}
    (G : Gr w mg mb g) (k : Sub g s.heap) (hd : A.depth + 15 < recursionLimit)
    (hR : ∀ g' h' t' x, Grow g s.heap g' h' → s.heap.get? x = none → Has g' x 226 "head" (some v0) → Has g' x 226 "octets" (some v1) → R (.ok (.ret (.ref x))) { s with heap := h', toks := t' }) :
    codeAny (model Pg w) A (.call (.ref 226) ⟨[v0, v1], []⟩) R s := by
  have X := G.X.keeps k
  refine' make_on (C := 226) (fI := 223) ?hm ?hi ?hf X ?_
  case hm => exact rfl
  case hi => exact rfl
  case hf => exact rfl
  intro x dx h' A' hA1 hA2 hx0 hdx0 hne kh hx hdx
  refine' enter (B := s.heap) (binds := [(Str.ofString "self", .ref x), (Str.ofString "head", v0), (Str.ofString "octets", v1)]) G k kh ?hroom ?ho ?hcd ?hbind ?hloc ?hcell ?hco ?hgen ?hk ?_
  case hroom => omega
  case ho => exact rfl
  case hcd => exact rfl
  case hbind => exact BindsTo.of_eq rfl
  case hloc => exact locs rfl
  case hcell => decide
  case hco => exact rfl
  case hgen => exact rfl
  case hk => exact rfl
  intro L h₁ A₁ F k₁ hL D
  have hdep := D.depth
  have nL : ∀ {b o}, h'.get? b = some o → b ≠ L := fun e q => by rw [← q, e] at hL; cases hL
  have F := F.add (P := isP (instObj 226 dx)) ⟨_, k₁ _ _ hx, rfl⟩ (nL hx) (none_of_sub k hx0) hx0 (fun _ hq => nomatch hq)
  have F := F.add (P := isP (dictOf [] 0)) ⟨_, k₁ _ _ hdx, rfl⟩ (nL hdx) (none_of_sub k hdx0) hdx0 (fun _ hq => by rw [List.mem_singleton.mp hq]; exact hne)
  repeat' tb_rel
  rename FN _ _ _ _ _ _ _ _ _ _ => F
  obtain ⟨g', F, kg, hf⟩ := F.freezeAll
  obtain ⟨_, q1, rfl⟩ := hf _ (.head _)
  obtain ⟨_, q2, rfl⟩ := hf _ (.tail _ (.head _))
  exact ⟨rfl, hR _ _ _ _ F.ret hx0 ⟨_, _, q2, q1, rfl⟩ ⟨_, _, q2, q1, rfl⟩⟩
/-! MNew2 -/
set_option maxHeartbeats 2000000 in
theorem shelf_mk {A : Around} {s : Shared} {w : World} {mg mb : Str → Option Value} {g : Heap} {R : Result → Shared → Prop} {v0 v1 : Addr}
    (G : Gr w mg mb g) (k : Sub g s.heap) (hd : A.depth + 15 < recursionLimit)
    (hR : ∀ g' h' t' x, Grow g s.heap g' h' → s.heap.get? x = none → Has g' x 363 "table" (some (.ref v0)) → Has g' x 363 "trailer" (some (.ref v1)) → Has g' x 363 "fetch" none → Has g' x 363 "get" none → Has g' x 363 "told" none → Has g' x 363 "numbers" none → R (.ok (.ret (.ref x))) { s with heap := h', toks := t' }) :
    codeAny (model Pg w) A (.call (.ref 363) ⟨[.ref v0, .ref v1], []⟩) R s := by
  have X := G.X.keeps k
  refine' make_on (C := 363) (fI := 292) ?hm ?hi ?hf X ?_
  case hm => exact rfl
  case hi => exact rfl
  case hf => exact rfl
  intro x dx h' A' hA1 hA2 hx0 hdx0 hne kh hx hdx
  refine' enter (B := s.heap) (binds := [(Str.ofString "self", .ref x), (Str.ofString "table", .ref v0), (Str.ofString "trailer", .ref v1)]) G k kh ?hroom ?ho ?hcd ?hbind ?hloc ?hcell ?hco ?hgen ?hk ?_
  case hroom => omega
  case ho => exact rfl
  case hcd => exact rfl
  case hbind => first | exact BindsTo.of_eq rfl | exact binds_K (T := 285) (X.keeps kh) (by exact rfl) (by exact rfl) (by exact rfl) (by exact rfl) (by exact rfl)
  case hloc => exact locs rfl
  case hcell => decide
  case hco => exact rfl
  case hgen => exact rfl
  case hk => exact rfl
  intro L h₁ A₁ F k₁ hL D
  have nL : ∀ {b o}, h'.get? b = some o → b ≠ L := fun e q => by rw [← q, e] at hL; cases hL
  have F := F.add (P := isP (instObj 363 dx)) ⟨_, k₁ _ _ hx, rfl⟩ (nL hx) (none_of_sub k hx0) hx0 (fun _ hq => nomatch hq)
  have F := F.add (P := isP (dictOf [] 0)) ⟨_, k₁ _ _ hdx, rfl⟩ (nL hdx) (none_of_sub k hdx0) hdx0 (fun _ hq => by rw [List.mem_singleton.mp hq]; exact hne)
  repeat' tb_rel
  rename FN _ _ _ _ _ _ _ _ _ _ => F
  obtain ⟨g', F, kg, hf⟩ := F.freezeAll
  obtain ⟨_, q1, rfl⟩ := hf _ (.head _)
  obtain ⟨_, q2, rfl⟩ := hf _ (.tail _ (.head _))
  exact ⟨rfl, hR _ _ _ _ F.ret hx0 ⟨_, _, q2, q1, rfl⟩ ⟨_, _, q2, q1, rfl⟩ ⟨_, _, q2, q1, rfl⟩ ⟨_, _, q2, q1, rfl⟩ ⟨_, _, q2, q1, rfl⟩ ⟨_, _, q2, q1, rfl⟩⟩
/-! MData -/
/-- a reference of the program, its generation 0 -/
def IsRef (g : Heap) (r : Addr) (v : Int) : Prop := (∃ t, Has g r 254 "number" (some (.int v t))) ∧ (∃ t, Has g r 254 "generation" (some (.int 0 t))) ∧ Has g r 254 "pair" none
theorem IsRef.up {g h : Heap} {r : Addr} {v : Int} (H : IsRef g r v) (k : Sub g h) : IsRef h r v := let ⟨⟨t, a⟩, ⟨t', b⟩, c⟩ := H; ⟨⟨t, a.up k⟩, ⟨t', b.up k⟩, c.up k⟩
def IsName (g : Heap) (r : Addr) (x : Str) : Prop := ∃ t, Has g r 183 "text" (some (.str x t))
theorem IsName.up {g h : Heap} {r : Addr} {v : Str} (H : IsName g r v) (k : Sub g h) : IsName h r v := let ⟨t, a⟩ := H; ⟨t, a.up k⟩
/-- the word of kind k -/
def TypeW (g : Heap) (a : Addr) (k : Int) : Prop := if k = 0 then IsName g a "ObjStm" else if k = 1 then IsRef g a 50 else IsName g a "XRef"
theorem TypeW.up {g h : Heap} {r : Addr} {k : Int} (H : TypeW g r k) (s : Sub g h) : TypeW h r k := by
  unfold TypeW at *
  split
  · rename_i e; rw [if_pos e] at H; exact H.up s
  · rename_i e; rw [if_neg e] at H
    split
    · rename_i e; rw [if_pos e] at H; exact H.up s
    · rename_i e; rw [if_neg e] at H; exact H.up s
/-- what a head tells under Extends -/
def ExtW (g : Heap) : List (Str × Value) → Option Int → Prop
  | ex, none => ex = []
  | ex, some v => ∃ u : Value, ex = [(("Extends" : Str), u)] ∧ if 0 < v then ∃ r, u = .ref r ∧ IsRef g r v else ∃ t, u = .int 7 t
theorem ExtW.up {g h : Heap} {ex : List (Str × Value)} (k : Sub g h) : ∀ {l : Option Int}, ExtW g ex l → ExtW h ex l
  | none, H => H
  | some v, ⟨u, e, H⟩ => ⟨u, e, by
    split
    · rename_i q; rw [if_pos q] at H; exact let ⟨r, e, H⟩ := H; ⟨r, e, H.up k⟩
    · rename_i q; rw [if_neg q] at H; exact H⟩
def HeadIs (w : World) (g : Heap) (d : Addr) (l : Option Int) (k : Int) : Prop :=
  (d == sysModules) = false ∧ ∃ ty tk ex, TypeW g ty k ∧ ExtW g ex l ∧ g.DictOf (strKind Pg w) d ([(("Type" : Str), .ref ty), (("Length" : Str), .int 0 tk)] ++ ex)
theorem HeadIs.up {w : World} {g h : Heap} {d : Addr} {l : Option Int} {k : Int} (H : HeadIs w g d l k) (s : Sub g h) : HeadIs w h d l k :=
  let ⟨a, ty, tk, ex, b, c, e⟩ := H; ⟨a, ty, tk, ex, b.up s, c.up s, dicUp e s⟩
def ValIs (w : World) (g : Heap) (x : Addr) (i : Nat) (l : Option Int) (k : Int) : Prop :=
  if k = 3 then HeadIs w g x l k else ∃ d tk, Has g x 226 "head" (some (.ref d)) ∧ Has g x 226 "octets" (some (.bytes (byteArr [65 + (i : Int)]) tk)) ∧ HeadIs w g d l k
theorem ValIs.up {w : World} {g h : Heap} {x : Addr} {i : Nat} {l : Option Int} {k : Int} (H : ValIs w g x i l k) (s : Sub g h) : ValIs w h x i l k := by
  unfold ValIs at *
  split
  · rename_i e; rw [if_pos e] at H; exact H.up s
  · rename_i e; rw [if_neg e] at H
    exact let ⟨d, tk, a, b, c⟩ := H; ⟨d, tk, a.up s, b.up s, c.up s⟩
theorem tupUp {g h : Heap} {t : Addr} {vs : Array Value} (H : g.IsTuple t vs) (k : Sub g h) : h.IsTuple t vs := let ⟨o, ho, r⟩ := H; ⟨o, k _ _ ho, r⟩
def Ent (w : World) (g : Heap) (t : Addr) (i : Nat) (l : Option Int) (k : Int) : Prop := ∃ x tk, g.IsTuple t [.int 0 tk, .ref x].toArray ∧ ValIs w g x i l k
theorem Ent.up {w : World} {g h : Heap} {x : Addr} {i : Nat} {l : Option Int} {k : Int} (H : Ent w g x i l k) (s : Sub g h) : Ent w h x i l k := let ⟨y, tk, a, b⟩ := H; ⟨y, tk, tupUp a s, b.up s⟩
def tabFrom (i : Int) : List Addr → List (Int × Value)
  | [] => []
  | t :: ts => (i, .ref t) :: tabFrom (i + 1) ts
def Ents (w : World) (g : Heap) (ts : List Addr) (ls : List (Option Int)) (ks : List Int) : Prop := ∀ i t l k, ts[i]? = some t → ls[i]? = some l → ks[i]? = some k → Ent w g t i l k
theorem Ents.up {w : World} {g h : Heap} {ts : List Addr} {ls : List (Option Int)} {ks : List Int} (H : Ents w g ts ls ks) (s : Sub g h) : Ents w h ts ls ks := fun i t l k a b c => (H i t l k a b c).up s
theorem Ents.snoc {w : World} {g : Heap} {ts : List Addr} {ls : List (Option Int)} {ks : List Int} {i : Nat} {t : Addr} {l : Option Int} {k : Int} (H : Ents w g ts ls ks) (hi : ts.length = i) (hl : ls[i]? = some l) (hk : ks[i]? = some k) (he : Ent w g t i l k) :
    Ents w g (ts ++ [t]) ls ks := by
  intro j t' l' k' h1 h2 h3
  by_cases hj : j < ts.length
  · rw [List.getElem?_append_left hj] at h1
    exact H j t' l' k' h1 h2 h3
  · have hjl : j < (ts ++ [t]).length := by
      rcases Nat.lt_or_ge j (ts ++ [t]).length with q | q
      · exact q
      · rw [List.getElem?_eq_none q] at h1; cases h1
    have e : j = i := by simp at hjl; omega
    subst e
    rw [hl] at h2; rw [hk] at h3
    cases h2; cases h3
    rw [← hi, List.getElem?_append_right (Nat.le_refl _), Nat.sub_self] at h1
    cases h1
    exact he
structure ShelfIs (w : World) (g : Heap) (x : Addr) (ls : List (Option Int)) (ks : List Int) (td tr nt nm : Addr) (ts : List Addr) : Prop where
  table : Has g x 363 "table" (some (.ref td))
  trailer : Has g x 363 "trailer" (some (.ref tr))
  fetch : Has g x 363 "fetch" none
  get : Has g x 363 "get" none
  told : Has g x 363 "told" none
  numbers : Has g x 363 "numbers" none
  sys : (td == sysModules) = false
  sysr : (tr == sysModules) = false
  dict : g.DictOf (intKind Pg w) td (tabFrom 1 ts ++ [(50, .ref nt)])
  dictr : g.DictOf (strKind Pg w) tr []
  n50 : ∃ tk, g.IsTuple nt [.int 0 tk, .ref nm].toArray
  name : IsName g nm "ObjStm"
  ents : Ents w g ts ls ks
  lt : ts.length = ls.length
  lk : ks.length = ls.length
theorem ShelfIs.up {w : World} {g h : Heap} {x : Addr} {ls : List (Option Int)} {ks : List Int} {td tr nt nm : Addr} {ts : List Addr} (H : ShelfIs w g x ls ks td tr nt nm ts) (s : Sub g h) : ShelfIs w h x ls ks td tr nt nm ts :=
  ⟨H.table.up s, H.trailer.up s, H.fetch.up s, H.get.up s, H.told.up s, H.numbers.up s, H.sys, H.sysr, dicUp H.dict s, dicUp H.dictr s, let ⟨tk, a⟩ := H.n50; ⟨tk, tupUp a s⟩, H.name.up s, H.ents.up s, H.lt, H.lk⟩
theorem tabFrom_append (i : Int) : ∀ ts us : List Addr, tabFrom i (ts ++ us) = tabFrom i ts ++ tabFrom (i + ts.length) us
  | [], us => by simp [tabFrom]
  | t :: ts, us => by
    have := tabFrom_append (i + 1) ts us
    simp only [List.cons_append, tabFrom, this, List.length_cons]
    rw [show i + 1 + (ts.length : Int) = i + ((ts.length + 1 : Nat) : Int) by push_cast; omega]
theorem tabFrom_keys {i k : Int} : ∀ {ts : List Addr} {v : Value}, (k, v) ∈ tabFrom i ts → i ≤ k ∧ k < i + ts.length
  | t :: ts, v, h => by
    rcases List.mem_cons.mp h with e | h
    · cases e; simp only [List.length_cons]; omega
    · have := tabFrom_keys h; simp only [List.length_cons]; push_cast at *; omega
theorem tabFrom_fresh {i k : Int} {ts : List Addr} {v : Value} (h : k < i ∨ i + ts.length ≤ k) : stored (tabFrom i ts) k v = tabFrom i ts ++ [(k, v)] := by
  unfold stored
  rw [if_neg]
  rw [List.any_eq_true]
  rintro ⟨⟨k', v'⟩, hm, e⟩
  have e : k' = k := of_decide_eq_true e
  subst e
  have := tabFrom_keys hm
  omega
theorem tabFrom_snoc {ts : List Addr} {t : Addr} {i k : Int} (h : k = i + ts.length) : stored (tabFrom i ts) k (.ref t) = tabFrom i (ts ++ [t]) := by
  rw [tabFrom_fresh (.inr (by omega)), tabFrom_append, h]; rfl
theorem tabFrom_length (i : Int) : ∀ ts : List Addr, (tabFrom i ts).length = ts.length
  | [] => rfl
  | _ :: ts => by simp [tabFrom, tabFrom_length (i + 1) ts]
/-! MCalls -/
section
variable {A : Around} {E : Value → Shared → Prop} {s : Shared} {w : World} {mg mb : Str → Option Value} {g₀ h₀ g : Heap} {L : Addr} {m : Str → Option Value} {mus : List (Addr × Ob)} {Q : Value → Shared → Prop}
theorem name_FN {x : Str} {t : Tok} (F : FN w mg mb g₀ h₀ g L s.heap m mus) (hd : A.depth + 15 < recursionLimit)
    (h : ∀ g' h' tk a, FN w mg mb g₀ h₀ g' L h' m mus → Sub g g' → s.heap.get? a = none → IsName g' a x → Q (.ref a) { s with heap := h', toks := tk }) : wpAny (model Pg w) A (call (.ref 183) [.str x t]) Q E s :=
  wpAny_call (name_spec F.G F.st hd fun _ _ _ _ W n H => h _ _ _ _ (F.after W) W.kg n ⟨_, H⟩)
theorem ref_FN {v : Int} {t t' : Tok} (F : FN w mg mb g₀ h₀ g L s.heap m mus) (hd : A.depth + 15 < recursionLimit)
    (h : ∀ g' h' tk a, FN w mg mb g₀ h₀ g' L h' m mus → Sub g g' → s.heap.get? a = none → IsRef g' a v → Q (.ref a) { s with heap := h', toks := tk }) : wpAny (model Pg w) A (call (.ref 254) [.int v t, .int 0 t']) Q E s :=
  wpAny_call (ref_spec F.G F.st hd fun _ _ _ _ W n H H' H'' => h _ _ _ _ (F.after W) W.kg n ⟨⟨_, H⟩, ⟨_, H'⟩, H''⟩)
theorem strm_FN {v u : Value} (F : FN w mg mb g₀ h₀ g L s.heap m mus) (hd : A.depth + 15 < recursionLimit)
    (h : ∀ g' h' tk a, FN w mg mb g₀ h₀ g' L h' m mus → Sub g g' → s.heap.get? a = none → Has g' a 226 "head" (some v) → Has g' a 226 "octets" (some u) → Q (.ref a) { s with heap := h', toks := tk }) : wpAny (model Pg w) A (call (.ref 226) [v, u]) Q E s :=
  wpAny_call (strm_spec F.G F.st hd fun _ _ _ _ W n H H' => h _ _ _ _ (F.after W) W.kg n H H')
theorem FN.glist {h : Heap} {l : Addr} {vs : List Value} (F : FN w mg mb g₀ h₀ g L h m mus) (H : g.IsList l vs.toArray) : h.IsList l vs.toArray := stays_list F.st H
theorem min_FN {a b : Int} {t u : Tok} (F : FN w mg mb g₀ h₀ g L s.heap m mus) (hh : A.handled = none)
    (h : ∀ h' tk t', FN w mg mb g₀ h₀ g L h' m mus → Q (.int (min a b) t') { s with heap := h', toks := tk }) : wpAny (model Pg w) A (call (.builtin "min") [.int a t, .int b u]) Q E s := by
  refine PySem.Flt.min_two_num hh (.int a t) (.int b u) fun h' tk kp => ?_
  by_cases c : b < a
  · have e : PySem.Flt.ltV (.int b u) (.int a t) = true := decide_eq_true c
    rw [if_pos e]
    have := h h' tk u (F.keep kp)
    rwa [show min a b = b by omega] at this
  · have e : PySem.Flt.ltV (.int b u) (.int a t) = false := decide_eq_false c
    rw [if_neg (by rw [e]; decide)]
    have := h h' tk t (F.keep kp)
    rwa [show min a b = a by omega] at this
variable {K : Type} [DecidableEq K]
theorem emptyD (knd : KeyKind Pg w K) {env : Env} {pos : Pos} (F : FN w mg mb g₀ h₀ g L s.heap m mus)
    (h : ∀ D h', FN w mg mb g₀ h₀ g L h' m ((D, dicP knd []) :: mus) → s.heap.get? D = none → (D == sysModules) = false → Q (.ref D) { s with heap := h' }) : wpAny (model Pg w) A (eval (.Dict [] [] pos) env) Q E s := by
  rw [eval_Dict_empty]
  exact wpAny_bind (wpAny_standAt (newD knd F h))
theorem displayD (knd : KeyKind Pg w K) {env : Env} {pos : Pos} {keys : List (Option PySem.Expr)} {values : List PySem.Expr} (F : FN w mg mb g₀ h₀ g L s.heap m mus)
    (hall : keys.all (·.isSome) = true) (hl : keys.length = values.length) (h0 : keys ≠ []) (hlen : keys.length ≤ 15)
    (h : ∀ D h', FN w mg mb g₀ h₀ g L h' m ((D, dicP knd []) :: mus) → s.heap.get? D = none → (D == sysModules) = false →
      wpAny (model Pg w) A (evalPairs (pairTrees keys values env pos)) (fun vs s₁ => wpAny (model Pg w) A (storeAll D vs) (fun _ s₂ => Q (.ref D) s₂) E s₁) E { s with heap := h' }) : wpAny (model Pg w) A (eval (.Dict keys values pos) env) Q E s := by
  refine wpAny_Dict_any hall hl h0 hlen (h _ _ (F.push { cls := .type "dict", data := .dict #[] } (dicP knd []) (let ⟨o, es, ep, ho, r⟩ := Heap.DictOf.new (knd := knd) s.heap; by rw [Heap.get?_push_size _ rfl] at ho; cases ho; exact ⟨es, ep, r⟩)) (Heap.get?_none_of_le (Nat.le_refl _)) F.notSys)
theorem storeD {knd : KeyKind Pg w K} {d : Addr} {vs : List (Value × Value)} {kvs acc : List (K × Value)} {Q : PUnit → Shared → Prop} (mus₁ : List (Addr × Ob)) {mus₂ : List (Addr × Ob)} (F : FN w mg mb g₀ h₀ g L s.heap m (mus₁ ++ (d, dicP knd acc) :: mus₂))
    (hc : Carries knd vs kvs) (hn : acc.length + kvs.length ≤ sizeLine)
    (h : ∀ h' t, FN w mg mb g₀ h₀ g L h' m (mus₁ ++ (d, dicP knd (merged acc kvs)) :: mus₂) → Q PUnit.unit { s with heap := h', toks := t }) : wpAny (model Pg w) A (storeAll d vs) Q E s := by
  have F1 : FN w mg mb g₀ h₀ g L s.heap m ((d, dicP knd acc) :: (mus₁ ++ mus₂)) := F.perm (List.perm_middle.symm)
  refine wpAny_storeAll vs kvs acc s Q hc (F1.dic (.head _)) hn fun h' hl' hs => h h' _ ?_
  exact (F1.upd (P' := dicP knd (merged acc kvs)) (fun b x hb e => (hs.2 b hb).trans e) (dicToP hl')).perm List.perm_middle
end
/-! MShelf -/
set_option maxHeartbeats 2000000 in
theorem shelf_spec {A : Around} {s : Shared} {w : World} {mg mb : Str → Option Value} {g : Heap} {R : Result → Shared → Prop} {pn lk kl : Addr} {ys zs : List Value} {ls : List (Option Int)} {ks : List Int}
    (G : Gr w mg mb g) (k : Sub g s.heap) (hd : A.depth + 25 < recursionLimit) (hh : A.handled = none) (hlk : g.IsList lk ys.toArray) (hkl : g.IsList kl zs.toArray) (hys : All2 LinkV ys ls) (hzs : IntsAre zs ks) (hlen : ls.length ≤ 6) (hln : ks.length = ls.length)
    (hks : ∀ k ∈ ks, 0 ≤ k ∧ k ≤ 3)
    (hR : ∀ g' h' t' x td tr nt nm ts, Grow g s.heap g' h' → ShelfIs w g' x ls ks td tr nt nm ts → R (.ok (.ret (.ref x))) { s with heap := h', toks := t' }) :
    codeAny (model Pg w) A (.call (.ref 410) ⟨[.ref pn, .ref lk, .ref kl], []⟩) R s := by
  refine' enter (B := s.heap) (binds := [(Str.ofString "pen", .ref pn), (Str.ofString "links", .ref lk), (Str.ofString "kinds", .ref kl)]) G k (Sub.rfl' _) ?hroom ?ho ?hcd ?hbind ?hloc ?hcell ?hco ?hgen ?hk ?_
  case hroom => omega
  case ho => exact rfl
  case hcd => exact rfl
  case hbind => exact BindsTo.of_eq rfl
  case hloc => exact locs rfl
  case hcell => decide
  case hco => exact rfl
  case hgen => exact rfl
  case hk => exact rfl
  intro L h₁ A₁ F k₁ hL D
  have hdep := D.depth
  repeat' tb_rel
  refine emptyD (intKind Pg w) F fun td h₂ F₂ hd2 hsys => ?_
  dsimp only
  clear F
  have hlk' := fun {h : Heap} (q : Sub g h) => stays_list q hlk
  have hkl' := fun {h : Heap} (q : Sub g h) => stays_list q hkl
  have hl1 := hys.length
  have hl2 := hzs.length
  repeat' tb_rel
  rename FN _ _ _ _ _ _ _ _ _ _ => F
  refine range_1 F (by omega) (by omega) fun I h₃ oI tk F₃ hit _ k₃ => ?_
  dsimp only at k₃ ⊢
  clear F
  refine' forLoop_FN (mus₀ := [(td, dicP (intKind Pg w) [])]) (It.range (D.handled.trans hh) I _ _) (fun i g m mus => m "links" = some (.ref lk) ∧ m "kinds" = some (.ref kl) ∧ m "table" = some (.ref td) ∧ ∃ ts, mus = [(td, dicP (intKind Pg w) (tabFrom 1 ts))] ∧ Ents w g ts ls ks ∧ ts.length = i) ?qL ?qx ?qp ?qfp F₃ hit ⟨rfl, rfl, rfl, [], rfl, (fun i t l k a => nomatch a), rfl⟩ ?turn ?fin
  case qL => exact rfl
  case qx => exact rfl
  case qp => exact rfl
  case qfp => exact fun b hb => .inl (List.mem_singleton.mp hb)
  case turn =>
    rintro i g₃ h₄ m₄ mus v tk₄ oI₄ E' hi ⟨t₄, rfl⟩ kg₃ ⟨a1, a2, a3, ts, rfl, hent, hts⟩ F₄
    clear F₃ hit
    repeat' tb_rel
    rename FN _ _ _ _ _ _ _ _ _ _ => F
    refine displayD (strKind Pg w) F rfl rfl (by simp) (by decide) fun hdA h₅ F₅ hn5 hs5 => ?_
    clear F
    dsimp only
    repeat' tb_rel
    have hi' : i < ys.length := by simpa using hi
    obtain ⟨kd, hkd⟩ : ∃ kd, ks[i]? = some kd := ⟨ks[i]'(by omega), List.getElem?_eq_getElem _⟩
    obtain ⟨tkd, hzx⟩ := hzs.get i kd hkd
    have hzx' : zs[(0 + (i : Int)).toNat]? = some (.int kd tkd) := by simpa using hzx
    have hk3 := hks kd (List.mem_of_getElem? hkd)
    rename FN _ _ _ _ _ _ _ _ _ _ => F
    refine name_FN F (by omega) ?_
    clear F
    intro g₅ h' tk n1 F kg hn0 hN1
    dsimp only
    have kg5 := kg
    repeat' tb_rel
    rename FN _ _ _ _ _ _ _ _ _ _ => F
    refine ref_FN F (by omega) ?_
    clear F
    intro g₆ h' tk n2 F kg hn0 hN2
    dsimp only
    have kg6 := kg
    repeat' tb_rel
    rename FN _ _ _ _ _ _ _ _ _ _ => F
    refine name_FN F (by omega) ?_
    clear F
    intro g₇ h' tk n3 F kg hn0 hN3
    dsimp only
    have kg7 := kg
    repeat' tb_rel
    rename FN _ _ _ _ _ _ _ _ _ _ => F
    refine min_FN F (D.handled.trans hh) fun h' tk' tm F => ?_
    obtain ⟨n, hnx, hn⟩ : ∃ n, [Value.ref n1, Value.ref n2, Value.ref n3][(min kd 2).toNat]? = some (.ref n) ∧ TypeW g₇ n kd := by
      have h1 := hN1.up (kg6.tr kg7)
      have h2 := hN2.up kg7
      unfold TypeW
      obtain rfl | rfl | rfl | rfl : kd = 0 ∨ kd = 1 ∨ kd = 2 ∨ kd = 3 := by omega
      · exact ⟨n1, rfl, h1⟩
      · exact ⟨n2, rfl, h2⟩
      · exact ⟨n3, rfl, hN3⟩
      · exact ⟨n3, rfl, hN3⟩
    repeat' tb_rel
    rename FN _ _ _ _ _ _ _ _ _ _ => F
    refine storeD (kvs := [(("Type" : Str), .ref n), (("Length" : Str), .int 0 _)]) [] F.tl ⟨rfl, rfl, rfl, rfl, trivial⟩ (Nat.le_of_ble_eq_true rfl) fun h' tk8 F => ?_
    have F : FN w mg mb g s.heap g₇ L h' _ ((hdA, dicP (PySem.strKind Pg w) [(("Type" : Str), .ref n), (("Length" : Str), .int 0 _)]) :: _) := F
    dsimp only
    obtain ⟨y, l, hy, hl, hV⟩ := hys.get hi'
    have hy' : ys[(0 + (i : Int)).toNat]? = some y := by simpa using hy
    repeat' ((fail_if_success (with_reducible show wpAny _ _ (exec (Stmt.If _ _ _ _) _) _ _ _)); tb_rel)
    refine wpAny_mono (Q := fun (f : Flow) s' => f = Flow.next ∧ ∃ g' h tk m ex tl, s' = { s with heap := h, toks := tk } ∧
      FN w mg mb g s.heap g' L h m [(hdA, dicP (strKind Pg w) ([(("Type" : Str), .ref n), (("Length" : Str), .int 0 tl)] ++ ex)), (I, isP oI₄), (td, dicP (intKind Pg w) (tabFrom 1 ts))] ∧
      Sub g₇ g' ∧ ExtW g' ex l ∧ m "links" = some (.ref lk) ∧ m "kinds" = some (.ref kl) ∧ m "table" = some (.ref td) ∧ m "head" = some (.ref hdA) ∧ m "place" = some (.int (0 + (i : Int)) t₄)) ?first ?nxt (fun _ _ e => e)
    case first =>
      rcases hV with _ | ⟨v, tv⟩
      · repeat' tb_rel
        rename FN _ _ _ _ _ _ _ _ _ _ => F
        exact ⟨rfl, g₇, _, _, _, [], _, rfl, F, Sub.rfl' _, rfl, a1, a2, a3, rfl, rfl⟩
      · repeat' tb_rel
        · rename_i hv0
          have hv0 : 0 < v := of_decide_eq_true hv0
          rename FN _ _ _ _ _ _ _ _ _ _ => F
          refine ref_FN F (by omega) ?_
          clear F
          intro g₈ h' tk r F kg hn0 hr
          dsimp only
          have kg8 := kg
          repeat' tb_rel
          rename FN _ _ _ _ _ _ _ _ _ _ => F
          refine setD [] F (k := ("Extends" : Str)) rfl (Nat.le_of_ble_eq_true rfl) fun h' tk F => ?_
          simp only [List.cons_append, List.nil_append] at F
          dsimp only
          repeat' tb_rel
          exact ⟨rfl, g₈, _, _, _, [(("Extends" : Str), .ref r)], _, rfl, F, kg8, ⟨_, rfl, by rw [if_pos hv0]; exact ⟨r, rfl, hr⟩⟩, a1, a2, a3, rfl, rfl⟩
        · rename_i hv0
          have hv0 : ¬ 0 < v := fun q => hv0 (decide_eq_true q)
          rename FN _ _ _ _ _ _ _ _ _ _ => F
          refine setD [] F (k := ("Extends" : Str)) rfl (Nat.le_of_ble_eq_true rfl) fun h' tk F => ?_
          simp only [List.cons_append, List.nil_append] at F
          dsimp only
          repeat' tb_rel
          exact ⟨rfl, g₇, _, _, _, [(("Extends" : Str), .int 7 _)], _, rfl, F, Sub.rfl' _, ⟨_, rfl, by rw [if_neg hv0]; exact ⟨_, rfl⟩⟩, a1, a2, a3, rfl, rfl⟩
    case nxt =>
      rintro f s' ⟨rfl, g₈, h₉, tk₉, m₉, ex, tl, rfl, F₉, kg8, hex, b1, b2, b3, b4, b5⟩
      dsimp only
      have hn8 := hn.up kg8
      have hent8 := hent.up ((kg5.tr kg6).tr (kg7.tr kg8))
      have kg38 := (kg5.tr kg6).tr (kg7.tr kg8)
      have hs1 : (0 : Int) + (i : Int) + 1 = 1 + (ts.length : Int) := by omega
      repeat' tb_rel
      · rename_i hk _ _ _ _
        have hk : kd = 3 := by simpa using hk
        rename FN _ _ _ _ _ _ _ _ _ _ => F
        refine setD [_, _, _] F (k := (0 + (i : Int) + 1)) (by simp [intKind, Value.isInt]) (by rw [tabFrom_length]; simp [sizeLine]; omega) fun h' tk F => ?_
        simp only [List.cons_append, List.nil_append] at F
        dsimp only
        rw [tabFrom_snoc hs1] at F
        repeat' tb_rel
        obtain ⟨g₉, F, kg9, hf⟩ := FN.freeze (mus := [_, _]) [_, _] F
        have q1 := tupOfP (hf _ (.head _))
        have q2 := dicOfP (hf _ (.tail _ (.head _)))
        exact ⟨g₉, _, _, _, _, rfl, kg38.tr kg9, F, b1, b2, b3, _, rfl, (hent8.up kg9).snoc hts hl hkd ⟨hdA, _, q1, by unfold ValIs; rw [if_pos hk]; exact ⟨hs5, n, _, ex, hn8.up kg9, hex.up kg9, q2⟩⟩, by simp [hts]⟩
      · rename_i hk _ _ _ _
        have hk : ¬ kd = 3 := by simpa using hk
        rename FN _ _ _ _ _ _ _ _ _ _ => F
        refine call_bytes_ints (F.plist (.head _)) (.cons _ _ .nil) (by simp; omega) (by simp [sizeLine]) (D.handled.trans hh) fun h' tb tk kp => ?_
        have F := F.keep kp
        rw [show byteArr [65 + (0 + (i : Int))] = byteArr [65 + (i : Int)] by rw [Int.zero_add]]
        dsimp only
        repeat' tb_rel
        rename FN _ _ _ _ _ _ _ _ _ _ => F
        refine strm_FN F (by omega) fun g₉ h' tk sa F kg9 _ hsa1 hsa2 => ?_
        dsimp only
        repeat' tb_rel
        rename FN _ _ _ _ _ _ _ _ _ _ => F
        refine setD [_, _, _, _] F (k := (0 + (i : Int) + 1)) (by simp [intKind, Value.isInt]) (by rw [tabFrom_length]; simp [sizeLine]; omega) fun h' tk F => ?_
        simp only [List.cons_append, List.nil_append] at F
        dsimp only
        rw [tabFrom_snoc hs1] at F
        repeat' tb_rel
        obtain ⟨gA, F, kgA, hf⟩ := FN.freeze (mus := [_, _, _]) [_, _] F
        have q1 := tupOfP (hf _ (.head _))
        have q2 := dicOfP (hf _ (.tail _ (.tail _ (.head _))))
        have kg9A := kg9.tr kgA
        exact ⟨gA, _, _, _, _, rfl, kg38.tr kg9A, F, b1, b2, b3, _, rfl, (hent8.up kg9A).snoc hts hl hkd ⟨sa, _, q1, by unfold ValIs; rw [if_neg hk]; exact ⟨hdA, _, hsa1.up kgA, hsa2.up kgA, hs5, n, _, ex, hn8.up kg9A, hex.up kg9A, q2⟩⟩, by simp [hts]⟩
  case fin =>
    rintro g₃ h₄ m₄ mus tk₄ kg₃ ⟨a1, a2, a3, ts, rfl, hent, hts⟩ F₄
    clear F₃ hit
    dsimp only
    repeat' tb_rel
    rename FN _ _ _ _ _ _ _ _ _ _ => F
    refine name_FN F (by omega) ?_
    clear F
    intro g₅ h' tk nm F kg hn0 hN1
    dsimp only
    have kg5 := kg
    repeat' tb_rel
    rename FN _ _ _ _ _ _ _ _ _ _ => F
    refine setD [_] F (k := 50) (by exact rfl) (by rw [tabFrom_length]; simp [sizeLine]; omega) fun h' tk F => ?_
    simp only [List.cons_append, List.nil_append] at F
    dsimp only
    rw [tabFrom_fresh (.inr (by omega))] at F
    repeat' tb_rel
    rename FN _ _ _ _ _ _ _ _ _ _ => F
    refine emptyD (strKind Pg w) F fun tr h₇ F hn7 hs7 => ?_
    dsimp only
    repeat' tb_rel
    rename FN _ _ _ _ _ _ _ _ _ _ => F
    obtain ⟨g₈, F, kg8, hf⟩ := F.freezeAll
    have q0 := dicOfP (hf _ (.head _))
    have q1 := tupOfP (hf _ (.tail _ (.head _)))
    have q2 := dicOfP (hf _ (.tail _ (.tail _ (.head _))))
    refine wpAny_call (shelf_mk F.G F.st (by omega) fun g₉ h₉ t₉ x W _ c1 c2 c3 c4 c5 c6 => ?_)
    have kg9 := W.kg
    exact hR _ _ _ _ _ _ _ _ _ (F.after W).ret ⟨c1, c2, c3, c4, c5, c6, hsys, hs7, dicUp q2 kg9, dicUp q0 kg9, ⟨_, tupUp q1 kg9⟩, hN1.up (kg8.tr kg9), hent.up ((kg5.tr kg8).tr kg9), by simp at hts; omega, hln⟩
/-! MKind -/
theorem kitI {w : World} {g : Heap} {x C : Addr} (H : IsI g x C) (hg : plainGet (KK w) C "__class__" = true) (hdct : hasDictIn (KK w) C = true) (ha : findIn (KK w) (.ref C) "__class__" = some (some (.builtin "object.__class__")))
    (hn : specialIn (KK w) (.builtin "object.__class__") "__get__" = some (some (.builtin "getset_descriptor.__get__"))) (htk : takesIn (KK w) (.builtin "object.__class__") = some true) (hm : mroIn (KK w) C (.type "object") = some true) :
    ∃ H, KitX (KK w) (.ref x) (.ref C) H ∧ ∀ h, Sub g h → H h :=
  let ⟨dx, od, h1, h2⟩ := H
  ⟨fun h => InstAt h x (instObj C dx) C (some od), kitx_own hg hdct ha hn htk hm, fun _ k => ⟨k _ _ h1, rfl, rfl, k _ _ h2⟩⟩
theorem kitD {w : World} {K : Type} [DecidableEq K] {knd : KeyKind Pg w K} {g : Heap} {d : Addr} {kvs : List (K × Value)} (H : g.DictOf knd d kvs) : ∃ H, KitX (KK w) (.ref d) (.type "dict") H ∧ ∀ h, Sub g h → H h :=
  ⟨KitAt d "dict", kitx_dict, fun _ k => let ⟨o, _, _, ho, hc, _⟩ := H; ⟨o, k _ _ ho, hc.1⟩⟩
local macro_rules | `(tactic| lcg_sub) => `(tactic| ((with_reducible rename FN _ _ _ _ _ _ _ _ _ _ => Fo); (first | (refine' isi_FN (b := false) Fo ?z ?hH ?hx ?e ?_; (case z => assumption); (case hH => assumption); (case hx => (first | assumption | (intro q; cases q))); (case e => exact rfl)) | (refine' isi_FN (b := true) Fo ?z ?hH ?hx ?e ?_; (case z => assumption); (case hH => assumption); (case hx => (first | assumption | (intro q; cases q))); (case e => exact rfl))); intro tk; (try dsimp only)))
set_option maxHeartbeats 2000000 in
theorem kind_none {A : Around} {s : Shared} {w : World} {mg mb : Str → Option Value} {g : Heap} {R : Result → Shared → Prop} {H : Heap → Prop}
    (G : Gr w mg mb g) (k : Sub g s.heap) (hd : A.depth + 5 < recursionLimit) (Z : KitX (KK w) (.none) (.type "NoneType") H) (hH : ∀ h, Sub g h → H h)
    (hR : ∀ h' t' tk, Grow g s.heap g h' → R (.ok (.ret (.str "null" tk))) { s with heap := h', toks := t' }) :
    codeAny (model Pg w) A (.call (.ref 265) ⟨[(.none)], []⟩) R s := by
  refine' enter (B := s.heap) (binds := [(Str.ofString "value", (.none))]) G k (Sub.rfl' _) ?hroom ?ho ?hcd ?hbind ?hloc ?hcell ?hco ?hgen ?hk ?_
  case hroom => omega
  case ho => exact rfl
  case hcd => exact rfl
  case hbind => exact BindsTo.of_eq rfl
  case hloc => exact locs rfl
  case hcell => decide
  case hco => exact rfl
  case hgen => exact rfl
  case hk => exact rfl
  intro L h₁ A₁ F k₁ hL D
  have hdep := D.depth
  repeat' (first | lcg_sub | tb_rel)
  rename FN _ _ _ _ _ _ _ _ _ _ => F
  exact hR _ _ _ F.ret
set_option maxHeartbeats 2000000 in
theorem kind_int {A : Around} {s : Shared} {w : World} {mg mb : Str → Option Value} {g : Heap} {R : Result → Shared → Prop} {n : Int} {u : Tok} {H : Heap → Prop}
    (G : Gr w mg mb g) (k : Sub g s.heap) (hd : A.depth + 5 < recursionLimit) (Z : KitX (KK w) (.int n u) (.type "int") H) (hH : ∀ h, Sub g h → H h)
    (hR : ∀ h' t' tk, Grow g s.heap g h' → R (.ok (.ret (.str "int" tk))) { s with heap := h', toks := t' }) :
    codeAny (model Pg w) A (.call (.ref 265) ⟨[(.int n u)], []⟩) R s := by
  refine' enter (B := s.heap) (binds := [(Str.ofString "value", (.int n u))]) G k (Sub.rfl' _) ?hroom ?ho ?hcd ?hbind ?hloc ?hcell ?hco ?hgen ?hk ?_
  case hroom => omega
  case ho => exact rfl
  case hcd => exact rfl
  case hbind => exact BindsTo.of_eq rfl
  case hloc => exact locs rfl
  case hcell => decide
  case hco => exact rfl
  case hgen => exact rfl
  case hk => exact rfl
  intro L h₁ A₁ F k₁ hL D
  have hdep := D.depth
  repeat' (first | lcg_sub | tb_rel)
  rename FN _ _ _ _ _ _ _ _ _ _ => F
  exact hR _ _ _ F.ret
set_option maxHeartbeats 2000000 in
theorem kind_name {A : Around} {s : Shared} {w : World} {mg mb : Str → Option Value} {g : Heap} {R : Result → Shared → Prop} {x : Addr} {H : Heap → Prop}
    (G : Gr w mg mb g) (k : Sub g s.heap) (hd : A.depth + 5 < recursionLimit) (Z : KitX (KK w) (.ref x) (.ref 183) H) (hH : ∀ h, Sub g h → H h)
    (hR : ∀ h' t' tk, Grow g s.heap g h' → R (.ok (.ret (.str "name" tk))) { s with heap := h', toks := t' }) :
    codeAny (model Pg w) A (.call (.ref 265) ⟨[(.ref x)], []⟩) R s := by
  refine' enter (B := s.heap) (binds := [(Str.ofString "value", (.ref x))]) G k (Sub.rfl' _) ?hroom ?ho ?hcd ?hbind ?hloc ?hcell ?hco ?hgen ?hk ?_
  case hroom => omega
  case ho => exact rfl
  case hcd => exact rfl
  case hbind => exact BindsTo.of_eq rfl
  case hloc => exact locs rfl
  case hcell => decide
  case hco => exact rfl
  case hgen => exact rfl
  case hk => exact rfl
  intro L h₁ A₁ F k₁ hL D
  have hdep := D.depth
  repeat' (first | lcg_sub | tb_rel)
  rename FN _ _ _ _ _ _ _ _ _ _ => F
  exact hR _ _ _ F.ret
set_option maxHeartbeats 2000000 in
theorem kind_dict {A : Around} {s : Shared} {w : World} {mg mb : Str → Option Value} {g : Heap} {R : Result → Shared → Prop} {x : Addr} {H : Heap → Prop}
    (G : Gr w mg mb g) (k : Sub g s.heap) (hd : A.depth + 5 < recursionLimit) (Z : KitX (KK w) (.ref x) (.type "dict") H) (hH : ∀ h, Sub g h → H h)
    (hR : ∀ h' t' tk, Grow g s.heap g h' → R (.ok (.ret (.str "dict" tk))) { s with heap := h', toks := t' }) :
    codeAny (model Pg w) A (.call (.ref 265) ⟨[(.ref x)], []⟩) R s := by
  refine' enter (B := s.heap) (binds := [(Str.ofString "value", (.ref x))]) G k (Sub.rfl' _) ?hroom ?ho ?hcd ?hbind ?hloc ?hcell ?hco ?hgen ?hk ?_
  case hroom => omega
  case ho => exact rfl
  case hcd => exact rfl
  case hbind => exact BindsTo.of_eq rfl
  case hloc => exact locs rfl
  case hcell => decide
  case hco => exact rfl
  case hgen => exact rfl
  case hk => exact rfl
  intro L h₁ A₁ F k₁ hL D
  have hdep := D.depth
  repeat' (first | lcg_sub | tb_rel)
  rename FN _ _ _ _ _ _ _ _ _ _ => F
  exact hR _ _ _ F.ret
set_option maxHeartbeats 2000000 in
theorem kind_strm {A : Around} {s : Shared} {w : World} {mg mb : Str → Option Value} {g : Heap} {R : Result → Shared → Prop} {x : Addr} {H : Heap → Prop}
    (G : Gr w mg mb g) (k : Sub g s.heap) (hd : A.depth + 5 < recursionLimit) (Z : KitX (KK w) (.ref x) (.ref 226) H) (hH : ∀ h, Sub g h → H h)
    (hR : ∀ h' t' tk, Grow g s.heap g h' → R (.ok (.ret (.str "stream" tk))) { s with heap := h', toks := t' }) :
    codeAny (model Pg w) A (.call (.ref 265) ⟨[(.ref x)], []⟩) R s := by
  refine' enter (B := s.heap) (binds := [(Str.ofString "value", (.ref x))]) G k (Sub.rfl' _) ?hroom ?ho ?hcd ?hbind ?hloc ?hcell ?hco ?hgen ?hk ?_
  case hroom => omega
  case ho => exact rfl
  case hcd => exact rfl
  case hbind => exact BindsTo.of_eq rfl
  case hloc => exact locs rfl
  case hcell => decide
  case hco => exact rfl
  case hgen => exact rfl
  case hk => exact rfl
  intro L h₁ A₁ F k₁ hL D
  have hdep := D.depth
  repeat' (first | lcg_sub | tb_rel)
  rename FN _ _ _ _ _ _ _ _ _ _ => F
  exact hR _ _ _ F.ret
set_option maxHeartbeats 2000000 in
theorem kind_ref {A : Around} {s : Shared} {w : World} {mg mb : Str → Option Value} {g : Heap} {R : Result → Shared → Prop} {x : Addr} {H : Heap → Prop}
    (G : Gr w mg mb g) (k : Sub g s.heap) (hd : A.depth + 5 < recursionLimit) (Z : KitX (KK w) (.ref x) (.ref 254) H) (hH : ∀ h, Sub g h → H h)
    (hR : ∀ h' t' tk, Grow g s.heap g h' → R (.ok (.ret (.str "ref" tk))) { s with heap := h', toks := t' }) :
    codeAny (model Pg w) A (.call (.ref 265) ⟨[(.ref x)], []⟩) R s := by
  refine' enter (B := s.heap) (binds := [(Str.ofString "value", (.ref x))]) G k (Sub.rfl' _) ?hroom ?ho ?hcd ?hbind ?hloc ?hcell ?hco ?hgen ?hk ?_
  case hroom => omega
  case ho => exact rfl
  case hcd => exact rfl
  case hbind => exact BindsTo.of_eq rfl
  case hloc => exact locs rfl
  case hcell => decide
  case hco => exact rfl
  case hgen => exact rfl
  case hk => exact rfl
  intro L h₁ A₁ F k₁ hL D
  have hdep := D.depth
  repeat' (first | lcg_sub | tb_rel)
  rename FN _ _ _ _ _ _ _ _ _ _ => F
  exact hR _ _ _ F.ret
/-! MDict2 -/
section
variable {w : World} {K : Type} [DecidableEq K] {knd : KeyKind Pg w K} {A : Around} {E : Value → Shared → Prop} {s : Shared} {d : Addr} {kvs : List (K × Value)} {mg mb : Str → Option Value} {g₀ h₀ g : Heap} {L : Addr} {m : Str → Option Value} {mus : List (Addr × Ob)} {k : K} {key v dflt : Value}
theorem dget1 {Q : Value → Shared → Prop} (hd : s.heap.DictOf knd d kvs) (hs : (d == sysModules) = false) (hk : knd.is k key = true) (h : Q ((valueAt kvs k).getD .none) { s with toks := s.toks + 1 }) : wpAny (model Pg w) A (call (.builtin "dict.get") [.ref d, key]) Q E s :=
  call_meetsIn PySem.F.slot_dict_get hd.typeIs PySem.F.entry_dict_get (PySem.F.args_dict_get_2 _ _) (meets_dict_get knd d hk hs) ⟨_, hd.mapOf, h⟩
theorem dget2 {Q : Value → Shared → Prop} (hd : s.heap.DictOf knd d kvs) (hs : (d == sysModules) = false) (hk : knd.is k key = true) (h : Q ((valueAt kvs k).getD dflt) { s with toks := s.toks + 1 }) : wpAny (model Pg w) A (call (.builtin "dict.get") [.ref d, key, dflt]) Q E s :=
  call_meetsIn PySem.F.slot_dict_get hd.typeIs PySem.F.entry_dict_get (PySem.F.args_dict_get_3 _ _ _) (meets_dict_get_default knd d hk hs dflt) ⟨_, hd.mapOf, h⟩
theorem itemD {value slice : PySem.Expr} {Q : Value → Shared → Prop} (hd : s.heap.DictOf knd d kvs) (hk : knd.is k key = true) (hv : valueAt kvs k = some v) (h : Q v { s with toks := s.toks + 1 })
    (hs : subscripted slice false (.ref d) key = operate [.ref d, key] (getItem (.ref d) key)) (hg : ∀ r, letTemporaryGo value (.ref d) r = pure ()) : wpAny (model Pg w) A (subscriptTail value slice (.ref d) key) Q E s :=
  subscriptTail_builtin hd.typeIs slot_dict_getitem.lookup (wpAny_getItem_of hk hd.mapOf hv h) hs hg
theorem FN.otup {h : Heap} {t : Addr} {vs : Array Value} (F : FN w mg mb g₀ h₀ g L h m mus) (H : g₀.IsTuple t vs) : h.IsTuple t vs := tupUp H (F.kg.tr F.st)
theorem assign2 {env : Env} {x y : Str} {px py pos : Pos} {x1} {t : Addr} {v1 v2 : Value} {Q : Unit → Shared → Prop} (F : FN w mg mb g₀ h₀ g L s.heap m mus) (hh : A.handled = none) (ht : s.heap.IsTuple t [v1, v2].toArray)
    (h : ∀ h', FN w mg mb g₀ h₀ g L h' m mus → Sub s.heap h' → wpAny (model Pg w) A (storeName env x v1) (fun _ s1 => wpAny (model Pg w) A (storeName env y v2) Q E s1) E { s with heap := h' }) :
    wpAny (model Pg w) A (assign (.Tuple [.Name x px, .Name y py] x1 pos) env (.ref t)) Q E s := by
  refine wpAny_assign_Tuple hh ht rfl rfl fun h' he => ?_
  have k : Sub s.heap h' := fun b o e => he b o (Nat.ne_of_lt (Heap.lt_size e)) e
  have := h h' (F.keep k) k
  refine wpAny_bind (wpAny_holding (wpAny_assign_Name (wpAny_mono this (fun _ s1 q => ?_) fun _ _ e => e)))
  exact wpAny_bind (wpAny_holding (wpAny_assign_Name (wpAny_mono q (fun _ s2 q => wpAny_pure q) fun _ _ e => e)))
end
/-! MFetch -/
set_option maxHeartbeats 2000000 in
theorem fetch_hit {A : Around} {s : Shared} {w : World} {mg mb : Str → Option Value} {g : Heap} {R : Result → Shared → Prop} {sh td r t y : Addr} {v : Int} {tv tg tk : Tok} {kvs : List (Int × Value)} {ty : Value} {H : Heap → Prop}
    (G : Gr w mg mb g) (k : Sub g s.heap) (hd : A.depth + 5 < recursionLimit) (hh : A.handled = none) (h1 : Has g sh 363 "table" (some (.ref td))) (h2 : g.DictOf (intKind Pg w) td kvs) (h3 : (td == sysModules) = false)
    (h4 : Has g r 254 "number" (some (.int v tv))) (h5 : Has g r 254 "generation" (some (.int 0 tg))) (h6 : valueAt kvs v = some (.ref t)) (h7 : g.IsTuple t [.int 0 tk, .ref y].toArray)
    (Z : KitX (KK w) (.ref y) ty H) (hH : ∀ h, Sub g h → H h) (hne : kitOne (KK w) ty (.ref 254) = some false)
    (hR : ∀ g' h' t', Grow g s.heap g' h' → R (.ok (.ret (.ref y))) { s with heap := h', toks := t' }) :
    codeAny (model Pg w) A (.call (.ref 299) ⟨[.ref sh, .ref r], []⟩) R s := by
  refine' enter (B := s.heap) (binds := [(Str.ofString "self", .ref sh), (Str.ofString "value", .ref r)]) G k (Sub.rfl' _) ?hroom ?ho ?hcd ?hbind ?hloc ?hcell ?hco ?hgen ?hk ?_
  case hroom => omega
  case ho => exact rfl
  case hcd => exact rfl
  case hbind => exact BindsTo.of_eq rfl
  case hloc => exact locs rfl
  case hcell => decide
  case hco => exact rfl
  case hgen => exact rfl
  case hk => exact rfl
  intro L h₁ A₁ F k₁ hL D
  have hdep := D.depth
  obtain ⟨Hr, Zr, hHr⟩ := kitI (w := w) h4.isI (by exact rfl) (by exact rfl) (by exact rfl) (by exact rfl) (by exact rfl) (by exact rfl)
  repeat' tb_rel
  rename FN _ _ _ _ _ _ _ _ _ _ => F
  refine range_1 (b := 30) F (by omega) (by omega) fun I h₃ oI tk F₃ hit _ k₃ => ?_
  dsimp only at k₃ ⊢
  clear F
  refine' forLoop_FN (mus₀ := []) (It.range (D.handled.trans hh) I _ _) (fun i g m mus => mus = [] ∧ m "self" = some (.ref sh) ∧ ((i = 0 ∧ m "here" = some (.ref r)) ∨ (i = 1 ∧ m "here" = some (.ref y)))) ?qL ?qx ?qp ?qfp F₃ hit ⟨rfl, rfl, .inl ⟨rfl, rfl⟩⟩ ?turn ?fin
  case qL => exact rfl
  case qx => exact rfl
  case qp => exact rfl
  case qfp => exact fun b hb => .inl (List.mem_singleton.mp hb)
  case turn =>
    rintro i g₃ h₄ m₄ mus v tk₄ oI₄ E' hi ⟨t₄, rfl⟩ kg₃ ⟨rfl, a1, a2⟩ F₄
    clear F₃ hit
    rcases a2 with ⟨rfl, a2⟩ | ⟨rfl, a2⟩
    · repeat' tb_rel
      rename FN _ _ _ _ _ _ _ _ _ _ => F
      refine dget2 (k := v) (F.odic h2) h3 (by simp [intKind, Value.isInt]) ?_
      rw [h6]
      dsimp only [Option.getD_some]
      refine assign2 F (D.handled.trans hh) (F.otup h7) fun h' F _ => ?_
      dsimp only
      repeat' tb_rel
      · rename FN _ _ _ _ _ _ _ _ _ _ => F
        exact ⟨g₃, _, _, [], _, rfl, Sub.rfl' _, F.tl, rfl, a1, .inr ⟨trivial, rfl⟩⟩
    · repeat' tb_rel
      rename FN _ _ _ _ _ _ _ _ _ _ => F
      exact hR _ _ _ F.ret
  case fin =>
    rintro g₃ h₄ m₄ mus tk₄ kg₃ ⟨rfl, a1, a2⟩ F₄
    rcases a2 with ⟨a2, _⟩ | ⟨a2, _⟩ <;> exact absurd a2 (by decide)
set_option maxHeartbeats 2000000 in
theorem fetch_miss {A : Around} {s : Shared} {w : World} {mg mb : Str → Option Value} {g : Heap} {R : Result → Shared → Prop} {sh td r : Addr} {v : Int} {tv tg : Tok} {kvs : List (Int × Value)}
    (G : Gr w mg mb g) (k : Sub g s.heap) (hd : A.depth + 5 < recursionLimit) (hh : A.handled = none) (h1 : Has g sh 363 "table" (some (.ref td))) (h2 : g.DictOf (intKind Pg w) td kvs) (h3 : (td == sysModules) = false)
    (h4 : Has g r 254 "number" (some (.int v tv))) (h5 : Has g r 254 "generation" (some (.int 0 tg))) (h6 : valueAt kvs v = none)
    (hR : ∀ g' h' t', Grow g s.heap g' h' → R (.ok (.ret .none)) { s with heap := h', toks := t' }) :
    codeAny (model Pg w) A (.call (.ref 299) ⟨[.ref sh, .ref r], []⟩) R s := by
  refine' enter (B := s.heap) (binds := [(Str.ofString "self", .ref sh), (Str.ofString "value", .ref r)]) G k (Sub.rfl' _) ?hroom ?ho ?hcd ?hbind ?hloc ?hcell ?hco ?hgen ?hk ?_
  case hroom => omega
  case ho => exact rfl
  case hcd => exact rfl
  case hbind => exact BindsTo.of_eq rfl
  case hloc => exact locs rfl
  case hcell => decide
  case hco => exact rfl
  case hgen => exact rfl
  case hk => exact rfl
  intro L h₁ A₁ F k₁ hL D
  have hdep := D.depth
  obtain ⟨Hr, Zr, hHr⟩ := kitI (w := w) h4.isI (by exact rfl) (by exact rfl) (by exact rfl) (by exact rfl) (by exact rfl) (by exact rfl)
  repeat' tb_rel
  rename FN _ _ _ _ _ _ _ _ _ _ => F
  refine range_1 (b := 30) F (by omega) (by omega) fun I h₃ oI tk F₃ hit _ k₃ => ?_
  dsimp only at k₃ ⊢
  clear F
  refine' forLoop_FN (mus₀ := []) (It.range (D.handled.trans hh) I _ _) (fun i g m mus => mus = [] ∧ m "self" = some (.ref sh) ∧ (i = 0 ∧ m "here" = some (.ref r))) ?qL ?qx ?qp ?qfp F₃ hit ⟨rfl, rfl, rfl, rfl⟩ ?turn ?fin
  case qL => exact rfl
  case qx => exact rfl
  case qp => exact rfl
  case qfp => exact fun b hb => .inl (List.mem_singleton.mp hb)
  case turn =>
    rintro i g₃ h₄ m₄ mus v tk₄ oI₄ E' hi ⟨t₄, rfl⟩ kg₃ ⟨rfl, a1, a2⟩ F₄
    clear F₃ hit
    obtain ⟨rfl, a2⟩ := a2
    repeat' tb_rel
    rename FN _ _ _ _ _ _ _ _ _ _ => F
    refine dget2 (k := v) (F.odic h2) h3 (by simp [intKind, Value.isInt]) ?_
    rw [h6]
    dsimp only [Option.getD_none]
    refine assign2 F (D.handled.trans hh) (F.tup (.head _)) fun h' F _ => ?_
    dsimp only
    repeat' tb_rel
    · rename FN _ _ _ _ _ _ _ _ _ _ => F
      exact hR _ _ _ F.ret
  case fin =>
    rintro g₃ h₄ m₄ mus tk₄ kg₃ ⟨rfl, a1, a2, _⟩ F₄
    exact absurd a2 (by decide)
set_option maxHeartbeats 2000000 in
theorem fetch_same {A : Around} {s : Shared} {w : World} {mg mb : Str → Option Value} {g : Heap} {R : Result → Shared → Prop} {sh : Addr} {y : Value} {ty : Value} {H : Heap → Prop}
    (G : Gr w mg mb g) (k : Sub g s.heap) (hd : A.depth + 5 < recursionLimit) (hh : A.handled = none)
    (Z : KitX (KK w) y ty H) (hH : ∀ h, Sub g h → H h) (hne : kitOne (KK w) ty (.ref 254) = some false) (hx : y ≠ .builtin "__main__.__loader__#opaque")
    (hR : ∀ g' h' t', Grow g s.heap g' h' → R (.ok (.ret y)) { s with heap := h', toks := t' }) :
    codeAny (model Pg w) A (.call (.ref 299) ⟨[.ref sh, y], []⟩) R s := by
  refine' enter (B := s.heap) (binds := [(Str.ofString "self", .ref sh), (Str.ofString "value", y)]) G k (Sub.rfl' _) ?hroom ?ho ?hcd ?hbind ?hloc ?hcell ?hco ?hgen ?hk ?_
  case hroom => omega
  case ho => exact rfl
  case hcd => exact rfl
  case hbind => exact BindsTo.of_eq rfl
  case hloc => exact locs rfl
  case hcell => decide
  case hco => exact rfl
  case hgen => exact rfl
  case hk => exact rfl
  intro L h₁ A₁ F k₁ hL D
  have hdep := D.depth
  repeat' tb_rel
  rename FN _ _ _ _ _ _ _ _ _ _ => F
  refine range_1 (b := 30) F (by omega) (by omega) fun I h₃ oI tk F₃ hit _ k₃ => ?_
  dsimp only at k₃ ⊢
  clear F
  refine' forLoop_FN (mus₀ := []) (It.range (D.handled.trans hh) I _ _) (fun i g m mus => i = 0 ∧ m "here" = some y) ?qL ?qx ?qp ?qfp F₃ hit ⟨rfl, rfl⟩ ?turn ?fin
  case qL => exact rfl
  case qx => exact rfl
  case qp => exact rfl
  case qfp => exact fun b hb => .inl (List.mem_singleton.mp hb)
  case turn =>
    rintro i g₃ h₄ m₄ mus v tk₄ oI₄ E' hi ⟨t₄, rfl⟩ kg₃ ⟨rfl, a2⟩ F₄
    clear F₃ hit
    repeat' tb_rel
    rename FN _ _ _ _ _ _ _ _ _ _ => F
    exact hR _ _ _ F.ret
  case fin =>
    rintro g₃ h₄ m₄ mus tk₄ kg₃ ⟨a2, _⟩ F₄
    exact absurd a2 (by decide)
/-! MGet -/
theorem IsName.isI {g : Heap} {a : Addr} {x : Str} (H : IsName g a x) : IsI g a 183 := let ⟨_, h⟩ := H; h.isI
theorem IsRef.isI {g : Heap} {a : Addr} {v : Int} (H : IsRef g a v) : IsI g a 254 := H.2.2.isI
theorem kitName {w : World} {g : Heap} {x : Addr} (H : IsI g x 183) : ∃ H, KitX (KK w) (.ref x) (.ref 183) H ∧ ∀ h, Sub g h → H h := kitI H (by exact rfl) (by exact rfl) (by exact rfl) (by exact rfl) (by exact rfl) (by exact rfl)
theorem kitRef {w : World} {g : Heap} {x : Addr} (H : IsI g x 254) : ∃ H, KitX (KK w) (.ref x) (.ref 254) H ∧ ∀ h, Sub g h → H h := kitI H (by exact rfl) (by exact rfl) (by exact rfl) (by exact rfl) (by exact rfl) (by exact rfl)
theorem kitStrm {w : World} {g : Heap} {x : Addr} (H : IsI g x 226) : ∃ H, KitX (KK w) (.ref x) (.ref 226) H ∧ ∀ h, Sub g h → H h := kitI H (by exact rfl) (by exact rfl) (by exact rfl) (by exact rfl) (by exact rfl) (by exact rfl)
theorem tabFrom_50 {ts : List Addr} {nt : Addr} (h : ts.length ≤ 6) : valueAt (tabFrom 1 ts ++ [(50, .ref nt)]) (50 : Int) = some (.ref nt) := by
  unfold valueAt
  rw [List.find?_append, show List.find? (fun kv => decide (kv.1 = (50 : Int))) (tabFrom 1 ts) = none by
    rw [List.find?_eq_none]
    rintro ⟨k, v⟩ hm e
    have := tabFrom_keys hm
    have e : k = 50 := of_decide_eq_true e
    omega]
  rfl
set_option maxHeartbeats 2000000 in
theorem get_type {A : Around} {s : Shared} {w : World} {mg mb : Str → Option Value} {g : Heap} {R : Result → Shared → Prop} {sh d td tr nt nm : Addr} {ts : List Addr} {ls : List (Option Int)} {ks : List Int} {l : Option Int} {kd : Int} {t : Tok}
    (G : Gr w mg mb g) (k : Sub g s.heap) (hd : A.depth + 10 < recursionLimit) (hh : A.handled = none) (S : ShelfIs w g sh ls ks td tr nt nm ts) (hl : ls.length ≤ 6) (D : HeadIs w g d l kd)
    (hR : ∀ g' h' t' n, Grow g s.heap g' h' → IsName g' n (if kd = 0 ∨ kd = 1 then "ObjStm" else "XRef") → R (.ok (.ret (.ref n))) { s with heap := h', toks := t' }) :
    codeAny (model Pg w) A (.call (.ref 306) ⟨[.ref sh, .ref d, .str "Type" t], []⟩) R s := by
  have hD := D
  clear D
  refine' enter (B := s.heap) (binds := [(Str.ofString "self", .ref sh), (Str.ofString "head", .ref d), (Str.ofString "key", .str "Type" t)]) G k (Sub.rfl' _) ?hroom ?ho ?hcd ?hbind ?hloc ?hcell ?hco ?hgen ?hk ?_
  case hroom => omega
  case ho => exact rfl
  case hcd => exact rfl
  case hbind => exact BindsTo.of_eq rfl
  case hloc => exact locs rfl
  case hcell => decide
  case hco => exact rfl
  case hgen => exact rfl
  case hk => exact rfl
  intro L h₁ A₁ F k₁ hL D
  have hdep := D.depth
  have f1 := S.fetch
  obtain ⟨hsys, ty, tk, ex, hty, hex, hdd⟩ := hD
  repeat' tb_rel
  rename FN _ _ _ _ _ _ _ _ _ _ => F
  refine dget1 (k := ("Type" : Str)) (F.odic hdd) hsys (by exact rfl) ?_
  rw [show (valueAt ([(("Type" : Str), Value.ref ty), (("Length" : Str), .int 0 tk)] ++ ex) ("Type" : Str)).getD .none = Value.ref ty from rfl]
  repeat' tb_rel
  rename FN _ _ _ _ _ _ _ _ _ _ => F
  have fin : ∀ g' h' t' n, FN w mg mb g s.heap g' L h' _ _ → IsName g' n (if kd = 0 ∨ kd = 1 then "ObjStm" else "XRef") → R (.ok (.ret (.ref n))) { s with heap := h', toks := t' } := fun g' h' t' n F H => hR _ _ _ _ (FN.ret (m := fun y => List.lookup y [(Str.ofString "self", Value.ref sh), (Str.ofString "head", .ref d), (Str.ofString "key", .str "Type" t)].reverse) (mus := []) F) H
  unfold TypeW at hty
  by_cases c0 : kd = 0
  · rw [if_pos c0] at hty
    obtain ⟨H, Z, hH⟩ := kitName (w := w) hty.isI
    refine wpAny_call (fetch_same F.G F.st (by omega) (D.handled.trans hh) Z hH (by exact rfl) (by intro q; cases q) fun g' h' t' W => fin _ _ _ _ (F.after W) ?_)
    rw [if_pos (.inl c0)]
    exact hty.up W.kg
  · rw [if_neg c0] at hty
    by_cases c1 : kd = 1
    · rw [if_pos c1] at hty
      obtain ⟨⟨t1, r1⟩, ⟨t2, r2⟩, r3⟩ := hty
      obtain ⟨H, Z, hH⟩ := kitName (w := w) S.name.isI
      obtain ⟨tk', h50⟩ := S.n50
      refine wpAny_call (fetch_hit F.G F.st (by omega) (D.handled.trans hh) S.table S.dict S.sys r1 r2 (tabFrom_50 (by rw [S.lt]; exact hl)) h50 Z hH (by exact rfl) fun g' h' t' W => fin _ _ _ _ (F.after W) ?_)
      rw [if_pos (.inr c1)]
      exact S.name.up W.kg
    · rw [if_neg c1] at hty
      obtain ⟨H, Z, hH⟩ := kitName (w := w) hty.isI
      refine wpAny_call (fetch_same F.G F.st (by omega) (D.handled.trans hh) Z hH (by exact rfl) (by intro q; cases q) fun g' h' t' W => fin _ _ _ _ (F.after W) ?_)
      rw [if_neg (by simp [c0, c1])]
      exact hty.up W.kg
/-! MIso -/
set_option maxHeartbeats 2000000 in
theorem iso_none {A : Around} {s : Shared} {w : World} {mg mb : Str → Option Value} {g : Heap} {R : Result → Shared → Prop} {sh : Addr} {H : Heap → Prop}
    (G : Gr w mg mb g) (k : Sub g s.heap) (hd : A.depth + 15 < recursionLimit) (hh : A.handled = none) (Z : KitX (KK w) (.none) (.type "NoneType") H) (hH : ∀ h, Sub g h → H h)
    (hR : ∀ g' h' t', Grow g s.heap g' h' → R (.ok (.ret (.bool false))) { s with heap := h', toks := t' }) :
    codeAny (model Pg w) A (.call (.ref 372) ⟨[.ref sh, (.none)], []⟩) R s := by
  refine' enter (B := s.heap) (binds := [(Str.ofString "shelf", .ref sh), (Str.ofString "value", (.none))]) G k (Sub.rfl' _) ?hroom ?ho ?hcd ?hbind ?hloc ?hcell ?hco ?hgen ?hk ?_
  case hroom => omega
  case ho => exact rfl
  case hcd => exact rfl
  case hbind => exact BindsTo.of_eq rfl
  case hloc => exact locs rfl
  case hcell => decide
  case hco => exact rfl
  case hgen => exact rfl
  case hk => exact rfl
  intro L h₁ A₁ F k₁ hL D
  have hdep := D.depth
  repeat' tb_rel
  rename FN _ _ _ _ _ _ _ _ _ _ => F
  refine wpAny_call (kind_none F.G F.st (by omega) Z hH fun h' t' tk W => ?_)
  have F := F.after W
  clear W
  dsimp only
  repeat' tb_rel
  rename FN _ _ _ _ _ _ _ _ _ _ => F
  exact hR _ _ _ F.ret
set_option maxHeartbeats 2000000 in
theorem iso_name {A : Around} {s : Shared} {w : World} {mg mb : Str → Option Value} {g : Heap} {R : Result → Shared → Prop} {sh : Addr} {x : Addr} {H : Heap → Prop}
    (G : Gr w mg mb g) (k : Sub g s.heap) (hd : A.depth + 15 < recursionLimit) (hh : A.handled = none) (Z : KitX (KK w) (.ref x) (.ref 183) H) (hH : ∀ h, Sub g h → H h)
    (hR : ∀ g' h' t', Grow g s.heap g' h' → R (.ok (.ret (.bool false))) { s with heap := h', toks := t' }) :
    codeAny (model Pg w) A (.call (.ref 372) ⟨[.ref sh, (.ref x)], []⟩) R s := by
  refine' enter (B := s.heap) (binds := [(Str.ofString "shelf", .ref sh), (Str.ofString "value", (.ref x))]) G k (Sub.rfl' _) ?hroom ?ho ?hcd ?hbind ?hloc ?hcell ?hco ?hgen ?hk ?_
  case hroom => omega
  case ho => exact rfl
  case hcd => exact rfl
  case hbind => exact BindsTo.of_eq rfl
  case hloc => exact locs rfl
  case hcell => decide
  case hco => exact rfl
  case hgen => exact rfl
  case hk => exact rfl
  intro L h₁ A₁ F k₁ hL D
  have hdep := D.depth
  repeat' tb_rel
  rename FN _ _ _ _ _ _ _ _ _ _ => F
  refine wpAny_call (kind_name F.G F.st (by omega) Z hH fun h' t' tk W => ?_)
  have F := F.after W
  clear W
  dsimp only
  repeat' tb_rel
  rename FN _ _ _ _ _ _ _ _ _ _ => F
  exact hR _ _ _ F.ret
set_option maxHeartbeats 2000000 in
theorem iso_dict {A : Around} {s : Shared} {w : World} {mg mb : Str → Option Value} {g : Heap} {R : Result → Shared → Prop} {sh : Addr} {x : Addr} {H : Heap → Prop}
    (G : Gr w mg mb g) (k : Sub g s.heap) (hd : A.depth + 15 < recursionLimit) (hh : A.handled = none) (Z : KitX (KK w) (.ref x) (.type "dict") H) (hH : ∀ h, Sub g h → H h)
    (hR : ∀ g' h' t', Grow g s.heap g' h' → R (.ok (.ret (.bool false))) { s with heap := h', toks := t' }) :
    codeAny (model Pg w) A (.call (.ref 372) ⟨[.ref sh, (.ref x)], []⟩) R s := by
  refine' enter (B := s.heap) (binds := [(Str.ofString "shelf", .ref sh), (Str.ofString "value", (.ref x))]) G k (Sub.rfl' _) ?hroom ?ho ?hcd ?hbind ?hloc ?hcell ?hco ?hgen ?hk ?_
  case hroom => omega
  case ho => exact rfl
  case hcd => exact rfl
  case hbind => exact BindsTo.of_eq rfl
  case hloc => exact locs rfl
  case hcell => decide
  case hco => exact rfl
  case hgen => exact rfl
  case hk => exact rfl
  intro L h₁ A₁ F k₁ hL D
  have hdep := D.depth
  repeat' tb_rel
  rename FN _ _ _ _ _ _ _ _ _ _ => F
  refine wpAny_call (kind_dict F.G F.st (by omega) Z hH fun h' t' tk W => ?_)
  have F := F.after W
  clear W
  dsimp only
  repeat' tb_rel
  rename FN _ _ _ _ _ _ _ _ _ _ => F
  exact hR _ _ _ F.ret
set_option maxHeartbeats 2000000 in
theorem iso_int {A : Around} {s : Shared} {w : World} {mg mb : Str → Option Value} {g : Heap} {R : Result → Shared → Prop} {sh : Addr} {n : Int} {u : Tok} {H : Heap → Prop}
    (G : Gr w mg mb g) (k : Sub g s.heap) (hd : A.depth + 15 < recursionLimit) (hh : A.handled = none) (Z : KitX (KK w) (.int n u) (.type "int") H) (hH : ∀ h, Sub g h → H h)
    (hR : ∀ g' h' t', Grow g s.heap g' h' → R (.ok (.ret (.bool false))) { s with heap := h', toks := t' }) :
    codeAny (model Pg w) A (.call (.ref 372) ⟨[.ref sh, (.int n u)], []⟩) R s := by
  refine' enter (B := s.heap) (binds := [(Str.ofString "shelf", .ref sh), (Str.ofString "value", (.int n u))]) G k (Sub.rfl' _) ?hroom ?ho ?hcd ?hbind ?hloc ?hcell ?hco ?hgen ?hk ?_
  case hroom => omega
  case ho => exact rfl
  case hcd => exact rfl
  case hbind => exact BindsTo.of_eq rfl
  case hloc => exact locs rfl
  case hcell => decide
  case hco => exact rfl
  case hgen => exact rfl
  case hk => exact rfl
  intro L h₁ A₁ F k₁ hL D
  have hdep := D.depth
  repeat' tb_rel
  rename FN _ _ _ _ _ _ _ _ _ _ => F
  refine wpAny_call (kind_int F.G F.st (by omega) Z hH fun h' t' tk W => ?_)
  have F := F.after W
  clear W
  dsimp only
  repeat' tb_rel
  rename FN _ _ _ _ _ _ _ _ _ _ => F
  exact hR _ _ _ F.ret
set_option maxHeartbeats 2000000 in
theorem iso_strm {A : Around} {s : Shared} {w : World} {mg mb : Str → Option Value} {g : Heap} {R : Result → Shared → Prop} {sh x d td tr nt nm : Addr} {ts : List Addr} {ls : List (Option Int)} {ks : List Int} {l : Option Int} {kd : Int}
    (G : Gr w mg mb g) (k : Sub g s.heap) (hd : A.depth + 15 < recursionLimit) (hh : A.handled = none) (S : ShelfIs w g sh ls ks td tr nt nm ts) (hl : ls.length ≤ 6) (HD : HeadIs w g d l kd) (Hx : Has g x 226 "head" (some (.ref d)))
    (hR : ∀ g' h' t', Grow g s.heap g' h' → R (.ok (.ret (.bool (decide (kd = 0 ∨ kd = 1))))) { s with heap := h', toks := t' }) :
    codeAny (model Pg w) A (.call (.ref 372) ⟨[.ref sh, .ref x], []⟩) R s := by
  refine' enter (B := s.heap) (binds := [(Str.ofString "shelf", .ref sh), (Str.ofString "value", .ref x)]) G k (Sub.rfl' _) ?hroom ?ho ?hcd ?hbind ?hloc ?hcell ?hco ?hgen ?hk ?_
  case hroom => omega
  case ho => exact rfl
  case hcd => exact rfl
  case hbind => exact BindsTo.of_eq rfl
  case hloc => exact locs rfl
  case hcell => decide
  case hco => exact rfl
  case hgen => exact rfl
  case hk => exact rfl
  intro L h₁ A₁ F k₁ hL D
  have hdep := D.depth
  have f1 := S.get
  obtain ⟨H, Z, hH⟩ := kitStrm (w := w) Hx.isI
  repeat' tb_rel
  rename FN _ _ _ _ _ _ _ _ _ _ => F
  refine wpAny_call (kind_strm F.G F.st (by omega) Z hH fun h' t' tk W => ?_)
  have F := F.after W
  clear W
  dsimp only
  repeat' tb_rel
  rename FN _ _ _ _ _ _ _ _ _ _ => F
  refine wpAny_call (get_type F.G F.st (by omega) (D.handled.trans hh) S hl HD fun g2 h2 t2 n W hn => ?_)
  have F := F.after W
  clear W
  dsimp only
  obtain ⟨H2, Z2, hH2⟩ := kitName (w := w) hn.isI
  obtain ⟨tn, hnt⟩ := hn
  repeat' tb_rel
  rename FN _ _ _ _ _ _ _ _ _ _ => F
  refine wpAny_call (kind_name F.G F.st (by omega) Z2 hH2 fun h' t' tk W => ?_)
  have F := F.after W
  clear W
  dsimp only
  repeat' tb_rel
  rename FN _ _ _ _ _ _ _ _ _ _ => F
  have e : ((if kd = 0 ∨ kd = 1 then ("ObjStm" : Str) else "XRef") == "ObjStm") = decide (kd = 0 ∨ kd = 1) := by
    by_cases c : kd = 0 ∨ kd = 1
    · rw [if_pos c, decide_eq_true c]; rfl
    · rw [if_neg c, decide_eq_false c]; rfl
  rw [e]
  exact hR _ _ _ F.ret
/-! MExc -/
section
variable {prog : Program} {w : World} {A : Around} {R : Result → Shared → Prop} {h : Heap} {g : Array GenState} {d : Drawn} {t : Nat} {os : OsState} {E : Value → Shared → Prop}
variable {nm q : Str} {C N : Addr} {bs bm bmB : List Value} {hdct : Bool} {sn : List Str} {sub : List Value} {ab : Bool} {col : Option Bool} {dd : Option Addr} {k0 k1 k2 k3 k5 : Option Value} {B newId initId : String}
theorem xcheck_new (F : ExcBaseFacts B newId initId bmB) (hT : ∀ X b, bmB.contains (.type X) = b → bm.contains (.type X) = b) {M : Model} {rest : List Value} {Q : Unit → Shared → Prop} (hC : h.get? C = some (excClassObj nm q C N bs bm hdct sn sub ab col dd k0 k1 k2 k3 k5 newId))
    (hq : Q () ⟨h, g, d, t, os⟩) : wpAny M A (checkBuiltinCall newId ⟨.ref C :: rest, []⟩) Q E ⟨h, g, d, t, os⟩ := by
  have hcont : (Value.ref C :: bm).contains (.type B) = true := by rw [List.contains_cons, hT _ _ F.hasB, Bool.or_true]
  have hstar := F.noStar
  simp only [checkBuiltinCall, F.newKind, F.newSplit, F.newRow]
  repeat (first | refine wpAny_loadPart_at hC ?_ | (refine wpAny_isSubtype_exc hC ?_; rw [hcont]) | refine wpAny_staticBase_exc hC ?_ | refine wpAny_madeBy_exc hC ?_ | simp only [bne_self_eq_false, Bool.false_eq_true, if_false] | wp_step)
  exact hq
theorem xnew (F : ExcBaseFacts B newId initId bmB) (hT : ∀ X b, bmB.contains (.type X) = b → bm.contains (.type X) = b) {rest : List Value} (hC : h.get? C = some (excClassObj nm q C N bs bm hdct sn sub ab col dd k0 k1 k2 k3 k5 newId))
    (hq : R (.ok (.ret (.ref (h.objs.size + 1)))) ⟨(h.push { cls := .type "tuple", data := .seq rest.toArray }).push
      { cls := .ref C, data := .fields #[.ref h.objs.size, .none, .none, .none, .bool false, .none] }, g, d, t, os⟩) (hrest : rest.length ≤ sizeLine) :
    codeAny (model prog w) A (.builtin newId ⟨.ref C :: rest, []⟩) R ⟨h, g, d, t, os⟩ := by
  have hends := F.ends
  have hcB : (Value.ref C :: bm).contains (.type B) = true := by rw [List.contains_cons, hT _ _ F.hasB, Bool.or_true]
  have hcA : (Value.ref C :: bm).contains (.type "AttributeError") = false := by rw [List.contains_cons, hT _ _ F.noAttr]; rfl
  have hcN : (Value.ref C :: bm).contains (.type "NameError") = false := by rw [List.contains_cons, hT _ _ F.noName]; rfl
  refine codeAny_builtinAt F.entry ?_
  unfold Builtin.«BaseException.__new__»
  refine PySem.wpAt_bind ?_
  show PySem.wpAt _ _ _ (stack >>= _) _ _ _
  refine PySem.wpAt_bind (PySem.wpAt_stack fun p below => PySem.wpAt_of_wpAny ?_)
  wp_walk
  refine PySem.wpAt_of_wpAny ?_
  rw [F.owner]
  repeat (first | with_reducible refine wpAny_madeHere_exc F.canon hC ?_ | with_reducible refine wpAny_loadPart_at hC ?_ | (with_reducible refine wpAny_isSubtype_exc hC ?_; first | rw [hcB] | rw [hcA] | rw [hcN]) | wp_step)
  show R _ _
  rw [Heap.size_push]
  exact hq
theorem xcheck_init (F : ExcBaseFacts B newId initId bmB) (hT : ∀ X b, bmB.contains (.type X) = b → bm.contains (.type X) = b) {M : Model} {e : Addr} {oe : Obj} {rest : List Value} {Q : Unit → Shared → Prop}
    (hC : h.get? C = some (excClassObj nm q C N bs bm hdct sn sub ab col dd k0 k1 k2 k3 k5 newId)) (he : h.get? e = some oe) (hcls : oe.cls = .ref C) (hq : Q () ⟨h, g, d, t, os⟩) :
    wpAny M A (checkBuiltinCall initId ⟨.ref e :: rest, []⟩) Q E ⟨h, g, d, t, os⟩ := by
  have hcB : (Value.ref C :: bm).contains (.type B) = true := by rw [List.contains_cons, hT _ _ F.hasB, Bool.or_true]
  have hshort := F.noStar
  simp only [checkBuiltinCall, F.initKind, F.initSplit, F.initRow]
  repeat (first | (with_reducible refine wpAny_loadPart_at he ?_; rw [hcls]) | with_reducible refine wpAny_loadPart_at hC ?_ | (with_reducible refine wpAny_isSubtype_exc hC ?_; rw [hcB]) | wp_step)
  refine wpAny_onRaise ?_
  rw [show ∀ (a b : String) (n : Nat), Bind.check ⟨.positional, "*", B, .self, [⟨"args", .varPos, false⟩]⟩ a b n (List.map (fun x => x.fst) ({ pos := Value.ref e :: rest } : Args).kw) = pure () from
    fun a b n => check_star_args _ _ _ _ _ _]
  exact wpAny_pure hq
/-- an exception with an own __init__ is made: up to the call of the __init__ -/
theorem xtype_call (F : ExcBaseFacts B newId initId bmB) (hT : ∀ X b, bmB.contains (.type X) = b → bm.contains (.type X) = b) {fI : Addr} {rest : List Value} {Q : Fin → Shared → Prop}
    (hC : h.get? C = some (excClassObj nm q C N bs bm hdct sn sub ab col dd k0 k1 k2 k3 k5 newId)) (hi : Looks (model prog w) h (typeLookup (.ref C) "__init__") (some (.ref fI))) (hb : ∀ self, Looks (model prog w) h (bindSpecial (.ref fI) self) (.ref fI, [self]))
    (hq : wpAny (model prog w) A (call (.ref fI) (.ref (h.objs.size + 1) :: rest)) (fun v s' => v = .none ∧ Q (.done (.ret (.ref (h.objs.size + 1)))) s') E ⟨(h.push { cls := .type "tuple", data := .seq rest.toArray }).push
      { cls := .ref C, data := .fields #[.ref h.objs.size, .none, .none, .none, .bool false, .none] }, g, d, t, os⟩) (hrest : rest.length ≤ sizeLine) :
    wpAny (model prog w) A (Builtin.«type.__call__» ⟨.ref C :: rest, []⟩) Q E ⟨h, g, d, t, os⟩ := by
  repeat (first | with_reducible refine wpAny_loadPart_at hC ?_ | with_reducible refine wpAny_madeBy_exc hC ?_ | wp_step)
  refine codeAny_call_builtin_code (Code.quiet_builtin _ F.quiet) (xcheck_new F hT hC ?_)
  refine xnew F hT hC ?_ hrest
  show wpAny _ _ _ _ _ _
  have hC₁ := Heap.get?_push_of_some { cls := .ref C, data := .fields #[.ref h.objs.size, .none, .none, .none, .bool false, .none] }
    (Heap.get?_push_of_some { cls := .type "tuple", data := .seq rest.toArray } hC)
  have hget : ((h.push { cls := .type "tuple", data := .seq rest.toArray }).push
      { cls := .ref C, data := .fields #[.ref h.objs.size, .none, .none, .none, .bool false, .none] }).get? (h.objs.size + 1) = some
      { cls := .ref C, data := .fields #[.ref h.objs.size, .none, .none, .none, .bool false, .none] } := by heap_get
  have hcC : (Value.ref C :: bm).contains (.ref C) = true := by simp
  have k : ∀ b o, h.get? b = some o → ((h.push { cls := .type "tuple", data := .seq rest.toArray }).push { cls := .ref C, data := .fields #[.ref h.objs.size, .none, .none, .none, .bool false, .none] }).get? b = some o :=
    fun b o e => Heap.get?_push_of_some _ (Heap.get?_push_of_some _ e)
  have i1 := hi.keeps k
  have b1 := (hb (.ref (h.objs.size + 1))).keeps k
  unfold isInstance
  repeat (first | with_reducible refine wpAny_loadPart_at hget ?_ | (with_reducible refine wpAny_isSubtype_exc hC₁ ?_; rw [hcC]) | wp_step)
  refine i1.at ?_
  refine wpAny_holding (wpAny_bind (b1.at ?_))
  dsimp only
  refine wpAny_bind (wpAny_mono hq (fun v s' z => ?_) fun _ _ e => e)
  obtain ⟨rfl, z⟩ := z
  exact wpAny_pure (wpAny_pure z)
theorem xcall (F : ExcBaseFacts B newId initId bmB) (hT : ∀ X b, bmB.contains (.type X) = b → bm.contains (.type X) = b) {fI : Addr} {rest : List Value} {Q : Value → Shared → Prop}
    (hC : h.get? C = some (excClassObj nm q C N bs bm hdct sn sub ab col dd k0 k1 k2 k3 k5 newId)) (hi : Looks (model prog w) h (typeLookup (.ref C) "__init__") (some (.ref fI))) (hb : ∀ self, Looks (model prog w) h (bindSpecial (.ref fI) self) (.ref fI, [self]))
    (hq : ∀ A', A'.depth = A.depth + 1 → A'.handled = A.handled → A'.frames = A.frames → wpAny (model prog w) A' (call (.ref fI) (.ref (h.objs.size + 1) :: rest)) (fun v s' => v = .none ∧ Q (.ref (h.objs.size + 1)) s') E ⟨(h.push { cls := .type "tuple", data := .seq rest.toArray }).push
      { cls := .ref C, data := .fields #[.ref h.objs.size, .none, .none, .none, .bool false, .none] }, g, d, t, os⟩) (hrest : rest.length ≤ sizeLine) :
    wpAny (model prog w) A (call (.ref C) rest) Q E ⟨h, g, d, t, os⟩ := by
  have f1 := tc_lookup
  have f2 := tc_bind (.ref C)
  have hT' : (⟨h, g, d, t, os⟩ : Shared).TypeIs (.ref C) "type" := ⟨_, hC, rfl⟩
  refine wpAny_call (codeAny_of_tree ?_)
  show wpAny _ _ (callAny (.ref C) _) _ _ _
  repeat (any_goals (first | assumption | with_reducible refine wpAny_loadPart_at hC ?_ | wp_step))
  refine ⟨rfl, ?_⟩
  refine codeAny_call_builtin_at (Code.quiet_builtin _ (by decide +kernel)) entry_typeCall (wpAny_check_type_call_sub hC (xtype_call F hT hC hi hb (hq _ ?_ rfl ?_) hrest))
  · exact congrArg (A.depth + ·) (weight_tc C rest)
  · rfl
end
/-! MExc2 -/
abbrev excO (t : Addr) (dx : Option Addr) : Obj := { cls := .ref 59, dict := dx, data := .fields #[.ref t, .none, .none, .none, .bool false, .none] }
abbrev excBm : List Value := [.type "Exception", .type "BaseException", .type "object"]
section
variable {prog : Program} {w : World} {A : Around} {E : Value → Shared → Prop} {s : Shared} {K : Frag} {name : Str}
theorem method_typeX {v : Value} {T : String} {pl : Sem Bool} {Q : Value × List Value → Shared → Prop} (X : K.In s.heap) (ht : typeOf (.type T) = pure (.type "type")) (hs : Manifest.isStub T = false)
    (e : findCls K (.type T) (.type "type") name = some (.val v)) (hh : handedIn v = true) (h : Q (v, []) { s with toks := s.toks + 1 }) : wpAny (model prog w) A (getMethod (.type T) name pl) Q E s := by
  have hstub : opaqueClassAbove (.type T) = pure none := by unfold opaqueClassAbove; dsimp only; rw [hs]; rfl
  have L0 : Looks (model prog w) s.heap (typeOf (.type T)) (.type "type") := Looks.of_pure ht
  have hg : findIn K (.type "type") "__getattribute__" = some (some (.builtin "type.__getattribute__")) := type_tga
  unfold getMethod specialOf
  refine wpAny_bind (wpAny_bind (L0.here ((looks_findIn X hg).here ?_)))
  dsimp only
  rw [if_pos canon_tga]
  refine wpAny_bind (wpAny_mono (Q := fun v => Q (v, [])) (E := E) ?_ (fun _ _ z => wpAny_pure z) fun _ _ z => z)
  have LO : Looks (model prog w) s.heap (opaqueClassAbove (.type T)) none := Looks.of_pure hstub
  refine cls_open X LO L0 hg (looks_hook X (r := none) (by rfl)) (by show subIn K _ _ = _; rfl) e
    (wpAny_pure (by show wpAny _ _ (handedOut v) _ _ _; rw [handedOut_of hh]; exact wpAny_pure h))
end
theorem bm59 : ∀ X b, excBm.contains (.type X) = b → (Value.ref 46 :: excBm).contains (.type X) = b := fun X b h => by rw [List.contains_cons, h]; rfl
theorem cls59 {w : World} {h : Heap} (X : (KK w).In h) : ∃ nm q N bs hdct sn sub ab col dd k0 k1 k2 k3 k5, h.get? 59 = some (excClassObj nm q 59 N bs (Value.ref 46 :: excBm) hdct sn sub ab col dd k0 k1 k2 k3 k5 "Exception.__new__") :=
  ⟨_, _, _, _, _, _, _, _, _, _, _, _, _, _, _, X _ _ (by exact rfl)⟩
section
variable {A : Around} {E : Value → Shared → Prop} {s : Shared} {w : World} {mg mb : Str → Option Value} {g₀ h₀ g : Heap} {L : Addr} {m : Str → Option Value} {mus : List (Addr × Ob)}
theorem exc_init_call {e t : Addr} {v : Value} {Q : Value → Shared → Prop} (F : FN w mg mb g₀ h₀ g L s.heap m ((e, isP (excO t none)) :: mus))
    (h : ∀ h' ti, FN w mg mb g₀ h₀ g L h' m ((e, isP (excO ti none)) :: mus) → g₀.get? ti = none → h₀.get? ti = none → Q .none { s with heap := h' }) :
    wpAny (model Pg w) A (call (.builtin "Exception.__init__") [.ref e, v]) Q E s := by
  obtain ⟨nm, q, N, bs, hdct, sn, sub, ab, col, dd, k0, k1, k2, k3, k5, hC⟩ := cls59 F.GH.X
  have he := F.at (.head _)
  have FF := PySem.F.excBase_Exception
  obtain ⟨hh, gg, dg, tk, os⟩ := s
  refine wpAny_call (codeAny_call_builtin FF.init.plain FF.initEntry (xcheck_init FF bm59 hC he rfl ?_))
  wp_walk
  have F1 := F.keep (sub_push hh { cls := Value.type "tuple", data := Data.seq #[v] })
  have he1 := F1.at (.head _)
  have z := Heap.get?_update_self (Obj.mapFields fun x => x.setIfInBounds 0 (Value.ref hh.objs.size)) he1 rfl
  refine h _ hh.objs.size (F1.upd (fun b x hb q => (Heap.get?_update_ne _ _ _ _ hb).trans q) ⟨_, z, rfl⟩) ?_ ?_
  · exact none_of_sub (F.kg.tr F.st) (Heap.get?_none_of_le (Nat.le_refl _))
  · exact none_of_sub F.kh (Heap.get?_none_of_le (Nat.le_refl _))
end
/-! MExc3 -/
section
open Builtin Builtin.ObjectAttr
theorem cd59 (w : World) : ∃ cd, clsIn (KK w) 59 = some cd ∧ cd.mro = .ref 59 :: .ref 46 :: excBm ∧ cd.hasDict = true := ⟨_, by exact rfl, by exact rfl, by exact rfl⟩
section
variable {A : Around} {E : Value → Shared → Prop} {R : Result → Shared → Prop} {s : Shared} {w : World} {mg mb : Str → Option Value} {g₀ h₀ g : Heap} {L : Addr} {m : Str → Option Value} {mus : List (Addr × Ob)} {e t : Addr} {name : Str} {v : Value}
theorem osaX {tk : Tok} {ox : Obj} {od : Option Obj} (X : (KK w).In s.heap) (I : InstAt s.heap e ox 59 od) (ht : takerIn (KK w) 59 name = some none)
    (h : ∀ b, wpAny (model Pg w) A.in1 (storeInOwnDict (.ref e) (.ref 59) (.str name tk) name v b)
      (fun fin s' => match fin with | .done f => R (.ok f) s' | .again c' => c'.quiet = true ∧ codeAny (model Pg w) A c' R s') (fun e s' => R (.error e) s') s) :
    codeAny (model Pg w) A (.call (.builtin "object.__setattr__") ⟨[.ref e, .str name tk, v], []⟩) R s := by
  have SF := PySem.F.store_object
  have SE := PySem.F.store_Exception
  obtain ⟨cd, hc, hm', hd'⟩ := cd59 w
  have ne : cd.mro.isEmpty = false := by rw [hm']; rfl
  have sub : Looks (model Pg w) s.heap (isInstance (.ref e) (.type "object")) true := I.type.andThen (looks_mroIn X (by unfold mroIn; rw [hc, Option.bind_some, if_neg (by rw [ne]; decide), hm']; rfl))
  refine codeAny_call_builtin SF.slot.plain SF.entry (@check_slot (model Pg w) _ _ s "object.__setattr__" "object" "__setattr__" (.ref e) [.str name tk, v] [] _ SF.kind SF.split sub (SF.args (.ref e) (.str name tk) v) ?_)
  obtain ⟨attr, ha, hr⟩ := Option.bind_eq_some_iff.mp ht
  have hm : Looks (model Pg w) s.heap (mroOf (.ref 59)) cd.mro := (looks_clsIn X hc).andThen .now
  have L3 : Looks (model Pg w) s.heap (storeTaker? attr) none := by
    cases attr with
    | none => cases hr; exact .now
    | some a =>
      obtain ⟨b, hb, hq⟩ := Option.map_eq_some_iff.mp hr
      refine (looks_takesIn X hb).andThen ?_
      cases b with
      | true => cases hq
      | false => exact .now
  rw [osa_eq, refuse_eq]
  refine wpAny_bind (wpAny_bind (I.type.here (wpAny_bind (hm.here ?_))))
  rw [hm', refuseLoop_ref, refuseLoop_ref, SE.passes]
  refine wpAny_pure (wpAny_bind (I.type.here (wpAny_bind ((looks_findIn X ha).here (wpAny_bind (L3.here ?_))))))
  exact h _
theorem putdict {dx : Addr} {es : List DictEntry} {n : Nat} {QQ : PySem.Fin → Shared → Prop} {EE : Value → Shared → Prop} {mus₁ mus₂ : List (Addr × Ob)} {tk : Tok} (F : FN w mg mb g₀ h₀ g L s.heap m (mus₁ ++ (dx, isP (dictOf es n)) :: mus₂)) (hl : (getL name es).isSome = true) (hz : es.length ≤ 900)
    (h : ∀ h', FN w mg mb g₀ h₀ g L h' m (mus₁ ++ (dx, isP (dictOf (putL name (PyData.keyHash w.params name) (.str name s.toks) v es) (putN name es n))) :: mus₂) → QQ (.done (.ret .none)) { s with heap := h', toks := s.toks + 1 }) :
    wpAny (model Pg w) A (storeInDict dx (.str name tk) name v) QQ EE s := by
  have F1 : FN w mg mb g₀ h₀ g L s.heap m ((dx, isP (dictOf es n)) :: (mus₁ ++ mus₂)) := F.perm (List.perm_middle.symm)
  have D := F1.at (.head _)
  have lenP : ∀ (k : Value) (hsh : Int) (l : List DictEntry), (putL name hsh k v l).length ≤ l.length + 1 := by
    intro k hsh l
    induction l with
    | nil => simp [putL]
    | cons e r ih => unfold putL; split <;> simp; omega
  have e : Obj.putName name (PyData.keyHash w.params name) (.str name s.toks) v (dictOf es n) = dictOf (putL name (PyData.keyHash w.params name) (.str name s.toks) v es) (putN name es n) := putName_dict ..
  have D' : (s.heap.update dx (Obj.putName name (PyData.keyHash w.params name) (.str name s.toks) v)).get? dx = some (dictOf (putL name (PyData.keyHash w.params name) (.str name s.toks) v es) (putN name es n)) := by
    rw [← e]; exact Heap.get?_update_self _ D (by rw [e]; rfl)
  have F2 := F1.upd (P' := isP (dictOf (putL name (PyData.keyHash w.params name) (.str name s.toks) v es) (putN name es n))) (h' := s.heap.update dx (Obj.putName name (PyData.keyHash w.params name) (.str name s.toks) v))
    (fun b y hb q => (Heap.get?_update_ne _ _ _ _ hb).trans q) ⟨_, D', rfl⟩
  have fin := h _ (F2.perm List.perm_middle)
  unfold storeInDict newKeyGuard
  refine wpAny_bind (wpAny_pure (wpAny_bind ?_))
  unfold nsSet
  refine wpAny_bind (wpAny_bind (wpAny_askSetting (wpAny_pure (wpAny_bind (wpAny_mkText (wpAny_bind (wpAny_loadPart D ?_)))))))
  have hl' : (lookIn name (dictOf es n)).isSome = true := by rw [lookIn_dict]; exact hl
  unfold lookIn at hl'
  dsimp only at hl'
  have c : (!es.toArray.any (·.key.isStr name) && es.toArray.any (·.refKey)) = false := by
    rw [← Array.any_toList, ← Array.any_toList]
    split at hl'
    · rename_i en he
      rw [List.any_eq_true.mpr ⟨en, List.mem_of_find?_eq_some he, List.find?_some he⟩]; rfl
    · split at hl'
      · cases hl'
      · rename_i z; rw [Bool.not_eq_true] at z; rw [z, Bool.and_false]
  dsimp only
  rw [aRefKeyMayBeTheName_at, c]
  refine wpAny_updatePart D ?_
  refine wpAny_bind (wpAny_lookBehind D' (pastItsLine_dict (by rw [List.size_toArray, sizeLine_eq]; have := lenP (.str name s.toks) (PyData.keyHash w.params name) es; omega)) ?_)
  exact wpAny_pure fin
theorem setX0 {Q : Unit → Shared → Prop} (F : FN w mg mb g₀ h₀ g L s.heap m ((e, isP (excO t none)) :: mus)) (ht : takerIn (KK w) 59 name = some none)
    (h : ∀ h' t' dx, FN w mg mb g₀ h₀ g L h' m ((e, isP (excO t (some dx))) :: (dx, isP (dictOf [⟨PyData.keyHash w.params name, .str name t', v⟩] 1)) :: mus) → Q () { s with heap := h', toks := s.toks + 2 }) :
    wpAny (model Pg w) A (setAttr (.ref e) name v) Q E s := by
  have X := F.GH.X
  have he := F.at (.head _)
  have I : InstAt s.heap e (excO t none) 59 none := ⟨he, rfl, rfl, trivial⟩
  obtain ⟨cd, hc, _, hd'⟩ := cd59 w
  refine set_plain X I (by exact rfl) (osaX (s := { s with toks := s.toks + 1 }) X I ht fun b => ?_)
  refine wpAny_bind (wpAny_pure (wpAny_bind (wpAny_bind (wpAny_loadPart he (wpAny_bind (looks_clsIn X hc _ _ _ _ (fun _ _ e => e) ?_))))))
  rw [hd', if_neg (by decide)]
  dsimp only
  rw [if_neg (by simp [typeHasDict])]
  have F1 := (F.push emptyDict (isP (dictOf [] 0)) rfl).swap
  have hx₁ := F1.at (.head _)
  have z := Heap.get?_update_self (fun o : Obj => { cls := o.cls, dict := some s.heap.objs.size, data := o.data, slots := o.slots }) hx₁ rfl
  have F2 := F1.upd (P' := isP (excO t (some s.heap.objs.size))) (h' := (s.heap.push emptyDict).update e fun o => { cls := o.cls, dict := some s.heap.objs.size, data := o.data, slots := o.slots })
    (fun b x hb q => (Heap.get?_update_ne _ _ _ _ hb).trans q) ⟨_, z, rfl⟩
  refine wpAny_bind (wpAny_alloc' ?_)
  refine wpAny_bind (wpAny_update' hx₁ ?_)
  refine wpAny_pure ?_
  dsimp only
  refine putdict (mus₁ := [_]) (s := ⟨_, _, _, _, _⟩) F2 rfl (by decide) fun h' F3 => ?_
  exact h _ _ _ F3
theorem setX1 {dx : Addr} {es : List DictEntry} {n : Nat} {Q : Unit → Shared → Prop} (F : FN w mg mb g₀ h₀ g L s.heap m ((e, isP (excO t (some dx))) :: (dx, isP (dictOf es n)) :: mus)) (ht : takerIn (KK w) 59 name = some none) (hl : (getL name es).isSome = true) (hz : es.length ≤ 900)
    (h : ∀ h' t', FN w mg mb g₀ h₀ g L h' m ((e, isP (excO t (some dx))) :: (dx, isP (dictOf (putL name (PyData.keyHash w.params name) (.str name t') v es) (putN name es n))) :: mus) → Q () { s with heap := h', toks := s.toks + 2 }) :
    wpAny (model Pg w) A (setAttr (.ref e) name v) Q E s := by
  have X := F.GH.X
  have he := F.at (.head _)
  have I : InstAt s.heap e (excO t (some dx)) 59 (some (dictOf es n)) := ⟨he, rfl, rfl, F.at (.tail _ (.head _))⟩
  obtain ⟨cd, hc, _, hd'⟩ := cd59 w
  refine set_plain X I (by exact rfl) (osaX (s := { s with toks := s.toks + 1 }) X I ht fun b => ?_)
  refine wpAny_bind (wpAny_pure (wpAny_bind (wpAny_bind (wpAny_loadPart he (wpAny_bind (looks_clsIn X hc _ _ _ _ (fun _ _ e => e) ?_))))))
  rw [hd', if_neg (by decide)]
  refine wpAny_pure (a := some dx) ?_
  dsimp only
  refine putdict (mus₁ := [_]) (s := { s with toks := s.toks + 1 }) F hl hz fun h' F3 => ?_
  exact h _ _ F3
end
end
/-! MExcI -/
set_option maxHeartbeats 2000000 in
theorem excinit {A : Around} {s : Shared} {w : World} {mg mb : Str → Option Value} {g B : Heap} {R : Result → Shared → Prop} {e t : Addr} {x : Str} {tx : Tok}
    (G : Gr w mg mb g) (k : Sub g B) (kB : Sub B s.heap) (hd : A.depth + 5 < recursionLimit) (he : s.heap.get? e = some (excO t none)) (he0 : B.get? e = none)
    (hR : ∀ h' t' ti dx, Sub B h' → B.get? ti = none → B.get? dx = none → h'.get? e = some (excO ti (some dx)) → R (.ok (.ret .none)) { s with heap := h', toks := t' }) :
    codeAny (model Pg w) A (.call (.ref 36) ⟨[.ref e, .str x tx], []⟩) R s := by
  have X := G.X.keeps (k.tr kB)
  refine' enter (B := B) (binds := [(Str.ofString "self", .ref e), (Str.ofString "what", .str x tx), (Str.ofString "at", _)]) G k kB ?hroom ?ho ?hcd ?hbind ?hloc ?hcell ?hco ?hgen ?hk ?_
  case hroom => omega
  case ho => exact rfl
  case hcd => exact rfl
  case hbind => exact binds_K (T := 29) X (by exact rfl) (by exact rfl) (by exact rfl) (by exact rfl) (by exact rfl)
  case hloc => exact locs rfl
  case hcell => decide
  case hco => exact rfl
  case hgen => exact rfl
  case hk => exact rfl
  intro L h₁ A₁ F k₁ hL D
  have heL : e ≠ L := fun q => by rw [← q, he] at hL; cases hL
  have F := F.add (P := isP (excO t none)) ⟨_, k₁ _ _ he, rfl⟩ heL (none_of_sub k he0) he0 (fun _ hq => nomatch hq)
  repeat' tb_rel
  rename FN _ _ _ _ _ _ _ _ _ _ => F
  refine method_typeX (K := KK w) F.GH.X (by first | rfl | kernel_rfl) (by first | rfl | kernel_rfl) (v := .builtin "Exception.__init__") (by first | rfl | exact rfl) rfl ?_
  dsimp only
  repeat' tb_rel
  rename FN _ _ _ _ _ _ _ _ _ _ => F
  refine exc_init_call F fun h2 ti F q1 q2 => ?_
  dsimp only
  repeat' tb_rel
  rename FN _ _ _ _ _ _ _ _ _ _ => F
  refine setX0 F (by exact rfl) fun h3 t3 dx F => ?_
  dsimp only
  repeat' tb_rel
  rename FN _ _ _ _ _ _ _ _ _ _ => F
  refine setX1 F (by exact rfl) (by exact rfl) (Nat.le_of_ble_eq_true rfl) fun h4 t4 F => ?_
  dsimp only
  repeat' tb_rel
  exact hR _ _ _ _ F.kh q2 (F.nw _ (.tail _ (.head _))).2.2.2 (F.at (.head _))
/-! MFly -/
def Fly (B : Heap) (l : List Env) (e : Addr) (h : Heap) : Prop := ∃ a0, Heap.FlyingW B l e (.ref 59) a0 h
def Held (B : Heap) (l : List Env) (e L : Addr) (h : Heap) : Prop := ∃ a0, Heap.HeldW B l e (.ref 59) a0 L h
section
variable {M : Model} {A : Around} {E : Value → Shared → Prop} {s : Shared} {B : Heap} {env : Env} {outer : List Env} {e L : Addr} {Q : Unit → Shared → Prop}
theorem note_first {ti dx : Addr} (hfr : A.frames = some (env :: outer)) (hf : env.frame = some L) (hl : s.heap.FunFrames B (env :: outer)) (he : s.heap.get? e = some (excO ti (some dx))) (hkb : Sub B s.heap) (hen : B.get? e = none)
    (hQ : ∀ h', Held B (env :: outer) e L h' → s.heap.UpToSlots h' → Q () { s with heap := h' }) : wpAny M A (noteFrame (.ref e) env) Q E s := by
  unfold noteFrame
  simp only [hf]
  refine wpAny_bind (wpAny_field he rfl (x := .none) rfl ?_)
  rw [if_neg (by decide)]
  exact wpAny_entryW (a0 := .ref ti) hfr hl hf he hkb hen rfl (Nat.le_of_ble_eq_true rfl) rfl fun h' hN => hQ h' ⟨_, hN.1, hen, hN.2.1, hN.2.2.1⟩ hN.2.2.2
theorem flight_on (hh : Held B (env :: outer) e L s.heap) (hf : env.frame = some L) (hQ : ∀ h', Held B (env :: outer) e L h' → s.heap.UpToSlots h' → Q () { s with heap := h' }) :
    wpAny M A (do
      if (← field (.ref e) 1) == .none then unsupported "frame.own-activation:exception-without-traceback"
      setFlight (.ref e) env.frame) Q E s := by
  obtain ⟨a0, hkb, hen, hl, oe, vs, T, oT, ts, he, hcls, hd, h1, hnT, hTe, hT, hdT, h3⟩ := hh
  have hsz3 : 3 < ts.size := (Array.getElem?_eq_some_iff.mp h3).1
  refine wpAny_bind (wpAny_field he hd h1 ?_)
  rw [if_neg (show ¬ ((Value.ref T == Value.none) = true) from by simp)]
  rw [hf]
  have other : ∀ b, b ≠ T → (s.heap.update T (Obj.mapFields (·.setIfInBounds 3 ((some L : Option Addr).elim Value.none fun f => rawInt f)))).get? b = s.heap.get? b :=
    fun b hb => Heap.get?_update_other _ _ (Ne.symm hb)
  have noRecord : ∀ b o, s.heap.get? b = some o → (∀ vs, o.data ≠ .fields vs) → b ≠ T := fun b o hb hnf q => by
    rw [q, hT] at hb; injection hb with hb; subst hb; exact hnf ts hdT
  show wpAny M A (setFlight (.ref e) (some L)) Q E s
  unfold setFlight
  refine wpAny_bind (wpAny_field he hd h1 ?_)
  rw [if_pos (show (Value.ref T != Value.none) = true from by simp)]
  refine wpAny_setField hT hdT hsz3 (hQ _ ⟨a0, fun b o hbo => (other b fun q => by rw [q, hnT] at hbo; cases hbo).trans (hkb b o hbo), hen, hl.of_keeps fun b o hb hnf => ⟨o, (other b (noRecord b o hb hnf)).trans hb, rfl⟩, ?_⟩
    fun b o hb hnf => ⟨o.slots, (other b (noRecord b o hb hnf)).trans hb⟩)
  exact ⟨oe, vs, T, _, _, (other e (Ne.symm hTe)).trans he, hcls, hd, h1, hnT, hTe, Heap.get?_update_self _ hT (Obj.isFreed_of_fields (Obj.data_mapFields hdT _)), Obj.data_mapFields hdT _, by simp [hsz3]⟩
theorem leave_held (hf : env.frame = some L) (hh : Held B (env :: outer) e L s.heap) (hQ : ∀ h', Fly B outer e h' → s.heap.UpToSlots h' → Q () { s with heap := h' }) : wpAny M A (leaving env (.ref e)) Q E s := by
  obtain ⟨a0, hh⟩ := hh
  unfold leaving
  refine wpAny_bind (wpAny_noteFrame_againW hf hh.2.2.2 ?_)
  refine wpAny_landsW hh fun h' hfl hsm => ?_
  obtain ⟨k1, k2, ⟨_, _, k3⟩, k4⟩ := hfl
  exact hQ h' ⟨a0, k1, k2, k3, k4⟩ hsm
theorem leave_fly (hfr : A.frames = some (env :: outer)) (hf : env.frame = some L) (hh : Fly B (env :: outer) e s.heap) (hQ : ∀ h', Fly B outer e h' → s.heap.UpToSlots h' → Q () { s with heap := h' }) : wpAny M A (leaving env (.ref e)) Q E s := by
  obtain ⟨a0, hh⟩ := hh
  exact wpAny_leaves_onW hfr hf hh fun h' x1 x2 => hQ h' ⟨a0, x1⟩ x2
/-- a raise inside a loop: noted, back in the own activation, left -/
theorem raise_in_loop {ti dx : Addr} {R : Value → Shared → Prop} (hfr : A.frames = some (env :: outer)) (hf : env.frame = some L) (hl : s.heap.FunFrames B (env :: outer)) (he : s.heap.get? e = some (excO ti (some dx))) (hkb : Sub B s.heap) (hen : B.get? e = none)
    (hQ : ∀ h', Fly B outer e h' → s.heap.UpToSlots h' → R (.ref e) { s with heap := h' }) :
    notedBy M A env (fun x s' => cameBackBy M A env (fun x' s'' => wpAny M A (leaving env x') (fun _ s3 => R x' s3) (fun x3 s3 => R x3 s3) s'') x s') (.ref e) s := by
  refine note_first hfr hf hl he hkb hen fun h1 H1 u1 => ?_
  refine flight_on (s := { s with heap := h1 }) H1 hf fun h2 H2 u2 => ?_
  exact leave_held (s := { s with heap := h2 }) hf H2 fun h3 H3 u3 => hQ h3 H3 (u1.trans (u2.trans u3))
end
/-! MRaise -/
section
variable {A : Around} {E : Value → Shared → Prop} {s : Shared} {w : World} {mg mb : Str → Option Value} {g₀ h₀ g : Heap} {L : Addr} {m : Str → Option Value} {mus : List (Addr × Ob)}
theorem make_exc {x : Str} {t : Tok} {Q : Value → Shared → Prop} (F : FN w mg mb g₀ h₀ g L s.heap m mus) (hd : A.depth + 10 < recursionLimit)
    (hQ : ∀ h' tk e ti dx, Sub s.heap h' → s.heap.get? e = none → h'.get? e = some (excO ti (some dx)) → Q (.ref e) { s with heap := h', toks := tk }) :
    wpAny (model Pg w) A (call (.ref 59) [.str x t]) Q E s := by
  have G := F.G
  have k := F.st
  have X := F.GH.X
  clear F
  obtain ⟨hh, gg, dg, tk, os⟩ := s
  dsimp only at X k hQ
  obtain ⟨nm, q, N, bs, hdct, sn, sub, ab, col, dd, k0, k1, k2, k3, k5, hC⟩ := cls59 X
  refine xcall PySem.F.excBase_Exception bm59 hC (looks_findIn X (by exact rfl)) (fun self => bind_fn (f := 36) X self (by exact rfl)) (fun A' hA1 hA2 hA3 => ?_) (by simp [sizeLine])
  have kB : Sub hh ((hh.push { cls := .type "tuple", data := .seq [Value.str x t].toArray }).push { cls := .ref 59, data := .fields #[.ref hh.objs.size, .none, .none, .none, .bool false, .none] }) := (sub_push _ _).tr (sub_push _ _)
  refine wpAny_call (excinit (t := hh.objs.size) G k kB (by omega) ?_ (Heap.get?_none_of_le (Nat.le_succ _)) fun h' t' ti dx k' q1 q2 q3 => ⟨rfl, hQ h' t' _ ti dx k' (Heap.get?_none_of_le (Nat.le_succ _)) q3⟩)
  have := Heap.get?_push_size (hh.push { cls := .type "tuple", data := .seq [Value.str x t].toArray }) (o := { cls := .ref 59, data := .fields #[.ref hh.objs.size, .none, .none, .none, .bool false, .none] }) rfl
  rwa [Heap.size_push] at this
theorem raiseStmtX {M : Model} {env : Env} {x : Sem Value} {Q : Flow → Shared → Prop} (hh : A.handled = none)
    (h : wpAny M A x (fun v s₁ => ∃ e t dx, v = .ref e ∧ (KK w).In s₁.heap ∧ s₁.heap.get? e = some (excO t (some dx)) ∧ E (.ref e) s₁) E s) :
    wpAny M A (raiseStmt env (some x) none) Q E s := by
  unfold raiseStmt
  refine wpAny_bind (wpAny_mono h (fun v s₁ h₁ => ?_) fun _ _ x => x)
  obtain ⟨e, t, dx, rfl, X, he, hE⟩ := h₁
  obtain ⟨nm, q, N, bs, hdct, sn, sub, ab, col, dd, k0, k1, k2, k3, k5, hC⟩ := cls59 X
  have hcB : (Value.ref 59 :: Value.ref 46 :: excBm).contains (.type "BaseException") = true := by simp
  obtain ⟨hp, g, d, tk, os⟩ := s₁
  repeat (first | with_reducible refine wpAny_loadPart_at he ?_ | with_reducible refine wpAny_loadPart_at hC ?_ | (with_reducible refine wpAny_isSubtype_exc hC ?_; rw [hcB]) | wp_step)
  exact wpAny_raiseNew_none hh hE
theorem raiseX {env : Env} {exc : PySem.Expr} {pos : Pos} {Q : Flow → Shared → Prop} (hh : A.handled = none)
    (h : wpAny (model Pg w) A (eval exc env) (fun v s₁ => ∃ e t dx, v = .ref e ∧ (KK w).In s₁.heap ∧ s₁.heap.get? e = some (excO t (some dx)) ∧ E (.ref e) s₁) E s) :
    wpAny (model Pg w) A (exec (.Raise (some exc) none pos) env) Q E s := by
  rw [arm_exec_Raise]
  first
    | refine wpAny_bind (wpAny_standAt (raiseStmtX (w := w) hh (wpAny_bind (wpAny_mono h (fun v s₃ h₃ => wpAny_bind (wpAny_standAt (wpAny_pure h₃))) fun _ _ x => x))))
    | (simp only [evalOpt, Option.map]; refine wpAny_bind (wpAny_standAt (raiseStmtX (w := w) hh (wpAny_bind (wpAny_mono h (fun v s₃ h₃ => wpAny_bind (wpAny_standAt (wpAny_pure h₃))) fun _ _ x => x)))))
end
/-! MChain -/
/-! the plain chain -/
def kAt (ks : List Int) (v : Int) : Int := (ks[(v - 1).toNat]?).getD 9
def lAt (ls : List (Option Int)) (v : Int) : Option Int := (ls[(v - 1).toNat]?).getD none
abbrev okv (ls : List (Option Int)) (ks : List Int) (v : Int) : Prop := 1 ≤ v ∧ v ≤ (ls.length : Int) ∧ kAt ks v ≤ 1
def walkF (ls : List (Option Int)) (ks : List Int) : Nat → List Int → Option Int → Option (List Int)
  | _, line, none => some line
  | 0, _, some _ => none
  | f + 1, line, some v => if okv ls ks v ∧ v ∉ line then walkF ls ks f (line ++ [v]) (lAt ls v) else none
theorem walkF_none (ls : List (Option Int)) (ks : List Int) (line : List Int) : ∀ f, walkF ls ks f line none = some line
  | 0 => rfl
  | _ + 1 => rfl
theorem walkF_bad {ls : List (Option Int)} {ks : List Int} {line : List Int} {v : Int} (h : ¬ (okv ls ks v ∧ v ∉ line)) : ∀ f, walkF ls ks f line (some v) = none
  | 0 => rfl
  | f + 1 => by rw [walkF, if_neg h]
structure Good (ls : List (Option Int)) (ks : List Int) (line : List Int) : Prop where
  nodup : line.Nodup
  ok : ∀ v ∈ line, okv ls ks v
theorem Good.nil {ls : List (Option Int)} {ks : List Int} : Good ls ks [] := ⟨List.nodup_nil, fun _ h => nomatch h⟩
theorem Good.snoc {ls : List (Option Int)} {ks : List Int} {line : List Int} {v : Int} (G : Good ls ks line) (h : okv ls ks v) (n : v ∉ line) : Good ls ks (line ++ [v]) :=
  ⟨by rw [List.nodup_append]; exact ⟨G.nodup, by simp, fun a ha b hb => by rw [List.mem_singleton.mp hb]; exact fun e => n (e ▸ ha)⟩,
   fun u hu => by rcases List.mem_append.mp hu with hu | hu; exact G.ok u hu; rw [List.mem_singleton.mp hu]; exact h⟩
theorem pigeon : ∀ (n : Nat) (l : List Int), l.Nodup → (∀ v ∈ l, 1 ≤ v ∧ v ≤ (n : Int)) → l.length ≤ n
  | 0, l, _, h => by
    cases l with
    | nil => exact Nat.le_refl _
    | cons a r => have := h a (.head _); omega
  | n + 1, l, hd, h => by
    by_cases hm : ((n + 1 : Nat) : Int) ∈ l
    · have := pigeon n (l.erase ((n + 1 : Nat) : Int)) (hd.erase _) fun v hv => by
        have h1 := h v (List.mem_of_mem_erase hv)
        have h2 : v ≠ ((n + 1 : Nat) : Int) := fun e => by rw [e] at hv; exact (List.Nodup.not_mem_erase hd) hv
        omega
      rw [List.length_erase_of_mem hm] at this
      omega
    · have := pigeon n l hd fun v hv => by
        have h1 := h v hv
        have h2 : v ≠ ((n + 1 : Nat) : Int) := fun e => hm (e ▸ hv)
        omega
      omega
theorem Good.length {ls : List (Option Int)} {ks : List Int} {line : List Int} (G : Good ls ks line) : line.length ≤ ls.length := pigeon _ _ G.nodup fun v hv => ⟨(G.ok v hv).1, (G.ok v hv).2.1⟩
/-- the value under here -/
def HereV (g : Heap) : Value → Option Int → Prop
  | u, none => u = .none
  | u, some v => if 0 < v then ∃ r, u = .ref r ∧ IsRef g r v else ∃ t, u = .int 7 t
theorem HereV.up {g h : Heap} (k : Sub g h) : ∀ {u : Value} {l : Option Int}, HereV g u l → HereV h u l
  | u, none, H => H
  | u, some v, H => by
    have H : if 0 < v then ∃ r, u = .ref r ∧ IsRef g r v else ∃ t, u = .int 7 t := H
    show if 0 < v then ∃ r, u = .ref r ∧ IsRef h r v else ∃ t, u = .int 7 t
    by_cases q : 0 < v
    · rw [if_pos q] at H ⊢; exact let ⟨r, e, H⟩ := H; ⟨r, e, H.up k⟩
    · rw [if_neg q] at H ⊢; exact H
theorem ExtW.here {g : Heap} {ex : List (Str × Value)} {ty : Addr} {tk : Tok} : ∀ {l : Option Int}, ExtW g ex l → HereV g ((valueAt ([(("Type" : Str), Value.ref ty), (("Length" : Str), .int 0 tk)] ++ ex) ("Extends" : Str)).getD .none) l
  | none, H => by rw [show ex = [] from H]; rfl
  | some v, ⟨u, e, H⟩ => by rw [e]; exact H
/-- what fetch tells of a reference v -/
inductive FetchR (w : World) (g : Heap) (ls : List (Option Int)) (ks : List Int) (v : Int) : Value → Prop
  | miss (h : ¬ okv ls ks v) : FetchR w g ls ks v .none
  | name {n : Addr} (h : ¬ okv ls ks v) (H : IsI g n 183) : FetchR w g ls ks v (.ref n)
  | dict {x : Addr} {l : Option Int} {k : Int} (h : ¬ okv ls ks v) (H : HeadIs w g x l k) : FetchR w g ls ks v (.ref x)
  | strm {x d : Addr} {l : Option Int} {k : Int} {tk : Tok} {i : Nat} (hi : v = (i : Int) + 1) (hl : ls[i]? = some l) (hk : ks[i]? = some k) (H1 : Has g x 226 "head" (some (.ref d)))
      (H2 : Has g x 226 "octets" (some (.bytes (byteArr [65 + (i : Int)]) tk))) (H : HeadIs w g d l k) : FetchR w g ls ks v (.ref x)
theorem FetchR.up {w : World} {g h : Heap} {ls : List (Option Int)} {ks : List Int} {v : Int} {y : Value} (k : Sub g h) : FetchR w g ls ks v y → FetchR w h ls ks v y
  | .miss a => .miss a
  | .name a H => .name a (H.up k)
  | .dict a H => .dict a (H.up k)
  | .strm a b c H1 H2 H => .strm a b c (H1.up k) (H2.up k) (H.up k)
theorem tabFrom_get (ts : List Addr) (nt : Addr) {v : Int} (h : ts.length ≤ 6) : valueAt (tabFrom 1 ts ++ [(50, .ref nt)]) v = if 1 ≤ v ∧ v ≤ (ts.length : Int) then (ts[(v - 1).toNat]?).map (.ref ·) else if v = 50 then some (.ref nt) else none := by
  have gen : ∀ (ts : List Addr) (i : Int), (List.find? (fun kv => decide (kv.1 = v)) (tabFrom i ts)).map (·.2) = if i ≤ v ∧ v < i + ts.length then (ts[(v - i).toNat]?).map (.ref ·) else none := by
    intro ts
    induction ts with
    | nil => intro i; simp [tabFrom]
    | cons t ts ih =>
      intro i
      rw [tabFrom, List.find?_cons]
      by_cases e : i = v
      · subst e
        simp
        omega
      · rw [decide_eq_false e]
        dsimp only
        rw [ih (i + 1)]
        by_cases c : i + 1 ≤ v ∧ v < i + 1 + ts.length
        · rw [if_pos c, if_pos (by simp only [List.length_cons]; push_cast; omega)]
          rw [show (v - i).toNat = (v - (i + 1)).toNat + 1 by omega]
          simp
        · rw [if_neg c, if_neg (by simp only [List.length_cons]; push_cast; omega)]
  unfold valueAt
  rw [List.find?_append]
  have q := gen ts 1
  by_cases c : 1 ≤ v ∧ v ≤ (ts.length : Int)
  · rw [if_pos c]
    rw [if_pos (by omega)] at q
    cases hf : List.find? (fun kv => decide (kv.1 = v)) (tabFrom 1 ts) with
    | none =>
      rw [hf] at q
      have : (v - 1).toNat < ts.length := by omega
      rw [List.getElem?_eq_getElem this] at q
      cases q
    | some kv => rw [hf] at q; exact q
  · rw [if_neg c]
    rw [if_neg (by omega)] at q
    have hn : List.find? (fun kv => decide (kv.1 = v)) (tabFrom 1 ts) = none := by
      cases hf : List.find? (fun kv => decide (kv.1 = v)) (tabFrom 1 ts) with
      | none => rfl
      | some kv => rw [hf] at q; cases q
    rw [hn]
    by_cases e : v = 50
    · subst e; rfl
    · rw [if_neg e]
      simp [List.find?_cons, Ne.symm e]
/-! MFI -/
theorem kitHead {w : World} {g : Heap} {x : Addr} {l : Option Int} {k : Int} (H : HeadIs w g x l k) : ∃ H, KitX (KK w) (.ref x) (.type "dict") H ∧ ∀ h, Sub g h → H h := by
  obtain ⟨_, _, _, _, _, _, hdd⟩ := H
  exact kitD (knd := strKind Pg w) hdd
section
variable {A : Around} {E : Value → Shared → Prop} {s : Shared} {w : World} {mg mb : Str → Option Value} {g₀ h₀ g : Heap} {L : Addr} {m : Str → Option Value} {mus : List (Addr × Ob)} {Q : Value → Shared → Prop}
  {sh td tr nt nm r : Addr} {ts : List Addr} {ls : List (Option Int)} {ks : List Int} {v : Int} {y : Value}
theorem fetch_FN (F : FN w mg mb g₀ h₀ g L s.heap m mus) (hd : A.depth + 5 < recursionLimit) (hh : A.handled = none) (S : ShelfIs w g sh ls ks td tr nt nm ts) (hl : ls.length ≤ 6) (hr : IsRef g r v)
    (h : ∀ g' h' tk y, FN w mg mb g₀ h₀ g' L h' m mus → Sub g g' → FetchR w g' ls ks v y → Q y { s with heap := h', toks := tk }) : wpAny (model Pg w) A (call (.ref 299) [.ref sh, .ref r]) Q E s := by
  obtain ⟨⟨t1, r1⟩, ⟨t2, r2⟩, _⟩ := hr
  have lt := S.lt
  have hg := tabFrom_get ts nt (v := v) (by omega)
  by_cases c : 1 ≤ v ∧ v ≤ (ts.length : Int)
  · rw [if_pos c] at hg
    have hi : (v - 1).toNat < ts.length := by omega
    rw [List.getElem?_eq_getElem hi] at hg
    have hl' : (v - 1).toNat < ls.length := by omega
    have hk' : (v - 1).toNat < ks.length := by have := S.lk; omega
    have hgl := List.getElem?_eq_getElem hl'
    have hgk := List.getElem?_eq_getElem hk'
    obtain ⟨x, tk, ht, hv⟩ := S.ents _ _ _ _ (List.getElem?_eq_getElem hi) hgl hgk
    unfold ValIs at hv
    by_cases c3 : ks[(v - 1).toNat] = 3
    · rw [if_pos c3] at hv
      obtain ⟨H, Z, hH⟩ := kitHead hv
      refine wpAny_call (fetch_hit F.G F.st hd hh S.table S.dict S.sys r1 r2 hg ht Z hH (by exact rfl) fun g' h' t' W => h _ _ _ _ (F.after W) W.kg (.dict ?_ (hv.up W.kg)))
      rintro ⟨_, _, q⟩
      unfold kAt at q
      rw [hgk, c3] at q
      exact absurd q (by decide)
    · rw [if_neg c3] at hv
      obtain ⟨d, tk', h1, h2, h3⟩ := hv
      obtain ⟨H, Z, hH⟩ := kitStrm (w := w) h1.isI
      exact wpAny_call (fetch_hit F.G F.st hd hh S.table S.dict S.sys r1 r2 hg ht Z hH (by exact rfl) fun g' h' t' W => h _ _ _ _ (F.after W) W.kg (.strm (by omega) hgl hgk (h1.up W.kg) (h2.up W.kg) (h3.up W.kg)))
  · rw [if_neg c] at hg
    have nok : ¬ okv ls ks v := fun q => c ⟨q.1, by have := q.2.1; omega⟩
    by_cases c5 : v = 50
    · rw [if_pos c5] at hg
      obtain ⟨tk, h50⟩ := S.n50
      obtain ⟨H, Z, hH⟩ := kitName (w := w) S.name.isI
      exact wpAny_call (fetch_hit F.G F.st hd hh S.table S.dict S.sys r1 r2 hg h50 Z hH (by exact rfl) fun g' h' t' W => h _ _ _ _ (F.after W) W.kg (.name nok (S.name.isI.up W.kg)))
    · rw [if_neg c5] at hg
      exact wpAny_call (fetch_miss F.G F.st hd hh S.table S.dict S.sys r1 r2 hg fun g' h' t' W => h _ _ _ _ (F.after W) W.kg (.miss nok))
theorem iso_FN (F : FN w mg mb g₀ h₀ g L s.heap m mus) (hd : A.depth + 15 < recursionLimit) (hh : A.handled = none) (S : ShelfIs w g sh ls ks td tr nt nm ts) (hl : ls.length ≤ 6) (hk0 : ∀ k ∈ ks, 0 ≤ k) (hr : FetchR w g ls ks v y)
    (h : ∀ g' h' tk, FN w mg mb g₀ h₀ g' L h' m mus → Sub g g' → Q (.bool (decide (okv ls ks v))) { s with heap := h', toks := tk }) : wpAny (model Pg w) A (call (.ref 372) [.ref sh, y]) Q E s := by
  have no : ∀ g' h' tk, ¬ okv ls ks v → FN w mg mb g₀ h₀ g' L h' m mus → Sub g g' → Q (.bool false) { s with heap := h', toks := tk } := fun g' h' tk n F k => by
    have := h g' h' tk F k
    rwa [decide_eq_false n] at this
  cases hr with
  | miss n => exact wpAny_call (iso_none F.G F.st hd hh kitx_none (fun _ _ => trivial) fun g' h' t' W => no _ _ _ n (F.after W) W.kg)
  | name n H =>
    obtain ⟨H', Z, hH⟩ := kitName (w := w) H
    exact wpAny_call (iso_name F.G F.st hd hh Z hH fun g' h' t' W => no _ _ _ n (F.after W) W.kg)
  | dict n H =>
    obtain ⟨H', Z, hH⟩ := kitHead H
    exact wpAny_call (iso_dict F.G F.st hd hh Z hH fun g' h' t' W => no _ _ _ n (F.after W) W.kg)
  | @strm x d l k tk i hi hgl hgk H1 H2 H3 =>
    refine wpAny_call (iso_strm F.G F.st hd hh S hl H3 H1 fun g' h' t' W => ?_)
    have := h g' h' t' (F.after W) W.kg
    have hk := hk0 k (List.mem_of_getElem? hgk)
    have hil : i < ls.length := by
      rcases Nat.lt_or_ge i ls.length with q | q
      · exact q
      · rw [List.getElem?_eq_none q] at hgl; cases hgl
    have e : kAt ks v = k := by unfold kAt; rw [show (v - 1).toNat = i by omega, hgk]; rfl
    have e2 : decide (okv ls ks v) = decide (k = 0 ∨ k = 1) := by
      apply decide_eq_decide.mpr
      unfold okv
      rw [e]
      omega
    rwa [e2] at this
end
/-! MExt -/
set_option maxHeartbeats 2000000 in
theorem ext_spec {A : Around} {s : Shared} {w : World} {mg mb : Str → Option Value} {g : Heap} {R : Result → Shared → Prop} {sh td tr nt nm r : Addr} {ts : List Addr} {ls : List (Option Int)} {ks : List Int} {v : Int} {lf : List Env} {B : Heap}
    (G : Gr w mg mb g) (k : Sub g s.heap) (hd : A.depth + 30 < recursionLimit) (hh : A.handled = none) (hfr : A.frames = some lf) (hB : Sub B s.heap) (hF : s.heap.FunFrames B lf)
    (S : ShelfIs w g sh ls ks td tr nt nm ts) (hl : ls.length ≤ 6) (hk0 : ∀ k ∈ ks, 0 ≤ k) (hr : IsRef g r v) (hv : 0 < v)
    (hok : ∀ g' h' t' fl rs line, walkF ls ks (ls.length + 1) [] (some v) = some line → Grow g s.heap g' h' → g'.IsList fl (rs.map Value.ref).toArray → All2 (IsRef g') rs line → R (.ok (.ret (.ref fl))) { s with heap := h', toks := t' })
    (hbad : walkF ls ks (ls.length + 1) [] (some v) = none → ∀ h' t' e, Fly B lf e h' → s.heap.UpToSlots h' → R (.error (.ref e)) { s with heap := h', toks := t' }) :
    codeAny (model Pg w) A (.call (.ref 377) ⟨[.ref sh, .ref r], []⟩) R s := by
  refine' enter (B := s.heap) (binds := [(Str.ofString "shelf", .ref sh), (Str.ofString "reference", .ref r)]) G k (Sub.rfl' _) ?hroom ?ho ?hcd ?hbind ?hloc ?hcell ?hco ?hgen ?hk ?_
  case hroom => omega
  case ho => exact rfl
  case hcd => exact rfl
  case hbind => exact BindsTo.of_eq rfl
  case hloc => exact locs rfl
  case hcell => decide
  case hco => exact rfl
  case hgen => exact rfl
  case hk => exact rfl
  intro L h₁ A₁ F k₁ hL D
  have hdep := D.depth
  have f1 := S.fetch
  have hfrA := D.frames
  rw [hfr, Option.map_some] at hfrA
  have hBL : B.get? L = none := none_of_sub hB hL
  have hA1 : A₁.handled = none := D.handled.trans hh
  repeat' tb_rel
  rename_i fl _ _ _ _ _ _ F
  refine wpAny_While ?_
  refine codeAny_whileLoop (fun k s' => ∃ g' h m line rs ho u tk, s' = { s with heap := h, toks := tk } ∧ Sub g g' ∧ FN w mg mb g s.heap g' L h m [(fl, plP (rs.map Value.ref))] ∧ m "found" = some (.ref fl) ∧ m "here" = some u ∧ m "shelf" = some (.ref sh) ∧
    HereV g' u ho ∧ All2 (IsRef g') rs line ∧ Good ls ks line ∧ line.length + k = ls.length + 1 ∧ walkF ls ks k line ho = walkF ls ks (ls.length + 1) [] (some v)) ?turn (ls.length + 1)
    ⟨g, _, _, [], [], some v, .ref r, _, rfl, Sub.rfl' _, F, rfl, rfl, rfl, by show if 0 < v then _ else _; rw [if_pos hv]; exact ⟨r, rfl, hr⟩, .nil, .nil, by simp, rfl⟩
  case turn =>
    clear F
    rintro k s' ⟨g₂, h₂, m₂, line, rs, ho, u, tk₂, rfl, kg, F, a1, a2, a3, hu, hrs, hgood, hlen, hW⟩
    have boom : ∀ (h : Heap) (m : Str → Option Value) (mus : List (Addr × Ob)) (e ti dx : Addr) (tk : Tok) (g' : Heap), FN w mg mb g s.heap g' L h m mus → s.heap.get? e = none → h.get? e = some (excO ti (some dx)) → walkF ls ks (ls.length + 1) [] (some v) = none → ∀ env : Env, env.frame = some L → A₁.frames = some (env :: lf) → env.scope.kind ≠ .module →
        notedBy (model Pg w) A₁ env (fun x s' => cameBackBy (model Pg w) A₁ env (fun x' s'' => wpAny (model Pg w) A₁ (leaving env x') (fun _ s3 => R (.error x') s3) (fun x3 s3 => R (.error x3) s3) s'') x s') (.ref e) { s with heap := h, toks := tk } := by
      intro h m mus e ti dx tk g' F he0 he hw env hf hfrA hk
      refine raise_in_loop (outer := lf) hfrA hf (Heap.FunFrames.cons hk hf F.ns hBL (hF.of_keeps fun b o q _ => ⟨o, F.kh _ _ q, rfl⟩)) he (hB.tr F.kh) (none_of_sub hB he0) fun h3 H3 u3 => ?_
      exact hbad hw _ _ _ H3 ((Heap.UpToSlots.of_keeps F.kh).trans u3)
    cases ho with
    | none =>
      have hu : u = .none := hu
      subst hu
      repeat' tb_rel
      rename FN _ _ _ _ _ _ _ _ _ _ => F
      obtain ⟨g₃, F, kg3, hf⟩ := F.freezeAll
      exact hok _ _ _ _ rs line (by rw [← hW, walkF_none]) F.ret (plOfP (hf _ (.head _))) (hrs.mono fun _ _ q => q.up kg3)
    | some v' =>
      by_cases hv' : 0 < v'
      · obtain ⟨r', rfl, hr'⟩ : ∃ r, u = .ref r ∧ IsRef g₂ r v' := by have q : if 0 < v' then _ else _ := hu; rwa [if_pos hv'] at q
        obtain ⟨H, Z, hH⟩ := kitRef (w := w) hr'.isI
        repeat' tb_rel
        rename FN _ _ _ _ _ _ _ _ _ _ => F
        refine wpAny_call (kind_ref F.G F.st (by omega) Z hH fun h' t' tk W => ?_)
        have F := F.after W
        clear W
        dsimp only
        repeat' tb_rel
        rename FN _ _ _ _ _ _ _ _ _ _ => F
        refine fetch_FN F (by omega) hA1 (S.up kg) hl hr' fun g₃ h' tk y F kg3 hy => ?_
        dsimp only
        repeat' tb_rel
        rename FN _ _ _ _ _ _ _ _ _ _ => F
        refine iso_FN F (by omega) hA1 (S.up (kg.tr kg3)) hl hk0 hy fun g₄ h' tk F kg4 => ?_
        by_cases c : okv ls ks v'
        · rw [decide_eq_true c]
          have hrs4 := hrs.mono fun _ _ q => q.up (kg3.tr kg4)
          have hr4 := hr'.up (kg3.tr kg4)
          obtain ⟨⟨tn, hn⟩, _⟩ := hr4
          dsimp only
          repeat' tb_rel
          rename FN _ _ _ _ _ _ _ _ _ _ => F
          have hrl := hrs4.length
          have hll := hgood.length
          refine iter_list F (F.plist (.head _)) fun I h₅ oI F₅ hit hl5 hne _ k₅ => ?_
          dsimp only
          refine comp_run (mus₀ := []) (It.list hA1 I fl hne _) (fun i g mus ys => mus = [] ∧ IntsAre ys (line.take i)) (by decide) rfl rfl ?n F₅ ⟨hit, hl5⟩ ⟨rfl, .nil⟩ (fun i g mus ys h p hp => by rw [h.1] at hp; cases hp) (fpC hl5 (fun _ hp => nomatch hp)) ?cturn ?cfin
          case n => simp [sizeLine]; omega
          case cturn =>
            rintro C i g' h m' mus ys D1 x tk oI1 E' hi hx kg' ⟨rfl, hys⟩ hlen' hCn F'
            have hi : i < rs.length := by simpa using hi
            obtain ⟨ri, li, e1, e2, hri⟩ := hrs4.get hi
            have hx : x = .ref ri := by
              simp only [List.getElem?_toArray, List.getElem?_map, e1, Option.map_some, Option.some.injEq] at hx
              exact hx.symm
            subst hx
            obtain ⟨⟨ti, hti⟩, _⟩ := hri.up kg'
            clear F F₅
            repeat' tb_rel
            rename FN _ _ _ _ _ _ _ _ _ _ => F
            exact ⟨g', _, _, [], _, rfl, Sub.rfl' _, F, rfl, by rw [List.take_add_one, e2]; exact hys.append (.cons _ _ .nil)⟩
          case cfin =>
            rintro g' h' m' mus ys tk D1 C kg' ⟨rfl, hys⟩ hlen' hCn F' hgC hsC hCL hne1
            clear F F₅
            refine comp_val hCn F' hgC hsC hCL hne1 fun h₆ F => ?_
            dsimp only
            rw [List.take_of_length_le (by simp; omega)] at hys
            refine in_list_ints (F.list (.head _)) hys ?_
            by_cases hm : v' ∈ line
            · rw [show (line.any fun x => x == v') = true by rw [List.any_eq_true]; exact ⟨v', hm, by simp⟩]
              have hbad' : walkF ls ks (ls.length + 1) [] (some v) = none := by rw [← hW]; exact walkF_bad (fun q => q.2 hm) _
              repeat' tb_rel
              refine raiseX hA1 ?_
              repeat' tb_rel
              rename FN _ _ _ _ _ _ _ _ _ _ => F
              refine make_exc F (by omega) fun h' tk e ti dx kk he0 he => ?_
              have he0 := none_of_sub F.kh he0
              have F := F.keep kk
              refine ⟨e, ti, dx, rfl, F.GH.X, he, ?_⟩
              exact boom _ _ _ _ _ _ _ _ F he0 he hbad' _ rfl hfrA (by intro q; cases q)
            · rw [show (line.any fun x => x == v') = false by rw [List.any_eq_false]; intro x hx; simp; rintro rfl; exact hm hx]
              have hlr : (rs.map Value.ref).length ≤ 6 := by simp; omega
              repeat' tb_rel
              · rename_i q
                have := of_decide_eq_true q
                omega
              · rename FN _ _ _ _ _ _ _ _ _ _ => F
                refine appL [_] F (Nat.le_trans hlr (by simp [sizeLine])) fun h' F => ?_
                simp only [List.cons_append, List.nil_append] at F
                rw [show rs.map Value.ref ++ [Value.ref r'] = (rs ++ [r']).map Value.ref by simp] at F
                dsimp only
                repeat' tb_rel
                rename FN _ _ _ _ _ _ _ _ _ _ => F
                have kgg := (kg3.tr kg4).tr kg'
                refine fetch_FN F (by omega) hA1 (S.up (kg.tr kgg)) hl (hr'.up kgg) fun gA h' tk yA F kgA hyA => ?_
                cases hyA with
                | miss n => exact absurd c n
                | name n => exact absurd c n
                | dict n => exact absurd c n
                | @strm x d l kd tk i hi hgl hgk H1 H2 H3 =>
                  obtain ⟨hsd, ty, tk9, ex, _, hex, hdd⟩ := H3
                  dsimp only
                  repeat' tb_rel
                  rename FN _ _ _ _ _ _ _ _ _ _ => F
                  refine getMD (knd := strKind Pg w) (dicUp hdd F.st) ?_
                  dsimp only
                  repeat' tb_rel
                  rename FN _ _ _ _ _ _ _ _ _ _ => F
                  refine dget1 (knd := strKind Pg w) (k := ("Extends" : Str)) (dicUp hdd F.st) hsd (by exact rfl) ?_
                  have hHere := hex.here (ty := ty) (tk := tk9)
                  generalize (valueAt ([(("Type" : Str), Value.ref ty), (("Length" : Str), .int 0 tk9)] ++ ex) ("Extends" : Str)).getD .none = uA at hHere ⊢
                  have hlA : lAt ls v' = l := by unfold lAt; rw [show (v' - 1).toNat = i by omega, hgl]; rfl
                  repeat' tb_rel
                  rename FN _ _ _ _ _ _ _ _ _ _ => F
                  have hll := hgood.length
                  obtain ⟨k', rfl⟩ : ∃ k', k = k' + 1 := ⟨k - 1, by omega⟩
                  exact ⟨k', Nat.lt_succ_self _, gA, _, _, line ++ [v'], rs ++ [r'], l, uA, _, rfl, (kg.tr kgg).tr kgA, F.tl, a1, rfl, a3, hHere, (hrs.mono fun _ _ q => q.up (kgg.tr kgA)).snoc (hr'.up (kgg.tr kgA)), hgood.snoc c hm, by simp; omega,
                    by rw [← hW, walkF, if_pos ⟨c, hm⟩, hlA]⟩
        · rw [decide_eq_false c]
          have hbad' : walkF ls ks (ls.length + 1) [] (some v) = none := by rw [← hW]; exact walkF_bad (fun q => c q.1) _
          dsimp only
          repeat' tb_rel
          refine raiseX hA1 ?_
          repeat' tb_rel
          rename FN _ _ _ _ _ _ _ _ _ _ => F
          refine make_exc F (by omega) fun h' tk e ti dx kk he0 he => ?_
          have he0 := none_of_sub F.kh he0
          have F := F.keep kk
          refine ⟨e, ti, dx, rfl, F.GH.X, he, ?_⟩
          exact boom _ _ _ _ _ _ _ _ F he0 he hbad' _ rfl hfrA (by intro q; cases q)
      · obtain ⟨t7, rfl⟩ : ∃ t, u = .int 7 t := by have q : if 0 < v' then _ else _ := hu; rwa [if_neg hv'] at q
        have hbad' : walkF ls ks (ls.length + 1) [] (some v) = none := by rw [← hW]; exact walkF_bad (fun q => hv' (by have := q.1.1; omega)) _
        repeat' tb_rel
        rename FN _ _ _ _ _ _ _ _ _ _ => F
        refine wpAny_call (kind_int F.G F.st (by omega) kitx_int (fun _ _ => trivial) fun h' t' tk W => ?_)
        have F := F.after W
        clear W
        dsimp only
        repeat' tb_rel
        refine raiseX hA1 ?_
        repeat' tb_rel
        rename FN _ _ _ _ _ _ _ _ _ _ => F
        refine make_exc F (by omega) fun h' tk e ti dx kk he0 he => ?_
        have he0 := none_of_sub F.kh he0
        have F := F.keep kk
        refine ⟨e, ti, dx, rfl, F.GH.X, he, ?_⟩
        exact boom _ _ _ _ _ _ _ _ F he0 he hbad' _ rfl hfrA (by intro q; cases q)
/-! MPair -/
section
variable {A : Around} {R : Result → Shared → Prop} {s : Shared} {w : World} {mg mb : Str → Option Value} {g₀ h₀ gs : Heap} {I L l : Addr} {m₀ : Str → Option Value} {mus₀ : List (Addr × Ob)} {items : List Value}
/-- a for over a list of pairs -/
theorem forPair_FN {x y : Str} {px py pos : Pos} {x1} {body : List Stmt} {env : Env} (PP : Nat → Value → Value → Prop)
    (hh : A.handled = none) (Inv : Nat → Heap → (Str → Option Value) → List (Addr × Ob) → Prop)
    (hP : ∀ i, i < items.length → ∃ ta v1 v2, items[i]? = some (.ref ta) ∧ gs.IsTuple ta [v1, v2].toArray ∧ PP i v1 v2)
    (hL : env.locals = L) (hx : env.kindOf x = some .local) (hy : env.kindOf y = some .local) (hk : env.scope.kind = .function)
    (hl : gs.IsList l items.toArray) (hne : l ≠ I) {oI : Obj}
    (F : FN w mg mb g₀ h₀ gs L s.heap m₀ ((I, isP oI) :: mus₀)) (hit : s.heap.IsListIter I l 0) (hI : Inv 0 gs m₀ mus₀)
    (turn : ∀ (i : Nat) (g h : Heap) (m : Str → Option Value) (mus : List (Addr × Ob)) (v1 v2 : Value) (tk : Tok) (oI : Obj) (E' : Value → Shared → Prop), i < items.length → PP i v1 v2 → Sub gs g → Inv i g m mus →
      FN w mg mb g₀ h₀ g L h (fun z => if z = y then some v2 else if z = x then some v1 else m z) ((I, isP oI) :: mus) →
      wpAny (model Pg w) A (execs body env) (fun f s' => match f with
        | .next | .cont => ∃ g' h' m' mus' tk', s' = { s with heap := h', toks := tk' } ∧ Sub g g' ∧ FN w mg mb g₀ h₀ g' L h' m' ((I, isP oI) :: mus') ∧ Inv (i + 1) g' m' mus'
        | .brk => R (.ok .next) s'
        | .ret v => R (.ok (.ret v)) s') E' { s with heap := h, toks := tk })
    (fin : ∀ (g h : Heap) (m : Str → Option Value) (mus : List (Addr × Ob)) (tk : Tok), Sub gs g → Inv items.length g m mus → FN w mg mb g₀ h₀ g L h m mus → R (.ok .next) { s with heap := h, toks := tk }) :
    codeAny (model Pg w) A (.forLoop (.Tuple [.Name x px, .Name y py] x1 pos) (.ref I) body [] env) R s := by
  have W := It.list (w := w) hh I l hne items.toArray
  have hfp := fpL (gs := gs) (h₀ := h₀) (I := I) hl
  have hsz : items.toArray.size = items.length := by simp
  rw [hsz] at W
  refine codeAny_forLoop_any (fun k s' => ∃ i g h m mus tk oI, s' = { s with heap := h, toks := tk } ∧ Sub gs g ∧ FN w mg mb g₀ h₀ g L h m ((I, isP oI) :: mus) ∧ (h.IsListIter I l i ∧ h.IsList l items.toArray) ∧ Inv i g m mus ∧ i ≤ items.length ∧ k = items.length - i)
    ?_ items.length ⟨0, gs, s.heap, m₀, mus₀, s.toks, oI, rfl, Sub.rfl' _, F, ⟨hit, stays_list F.st hl⟩, hI, Nat.zero_le _, rfl⟩
  rintro k s' ⟨i, g, h, m, mus, tk, oI, rfl, kg, F, st, hInv, hin, rfl⟩
  by_cases hlt : i < items.length
  · refine W.W.item i _ _ _ hlt st fun v h₁ tk₁ hPv st₁ hk₁ => ?_
    obtain ⟨oI₁, F₁⟩ := W.step F st₁ hk₁
    obtain ⟨ta, v1, v2, e1, e2, hPP⟩ := hP i hlt
    have hv : v = .ref ta := by simp only [List.getElem?_toArray] at hPv; rw [e1] at hPv; exact (Option.some.inj hPv).symm
    subst hv
    refine wpAny_letOwnedTupleGo_listiter st₁.1 ?_
    refine assign2 F₁ hh (tupUp e2 (kg.tr F₁.st)) fun h₂ F₂ k₂ => ?_
    have st₂ : h₂.IsListIter I l (i + 1) ∧ h₂.IsList l items.toArray := W.kept hfp F₁ F₂ kg kg (.head _) (.head _) st₁
    refine sL F₂ (fun h₃ t₃ F₃ => ?_) hk hL hx
    have st₃ : h₃.IsListIter I l (i + 1) ∧ h₃.IsList l items.toArray := W.kept hfp F₂ F₃ kg kg (.head _) (.head _) st₂
    refine sL F₃ (fun h₄ t₄ F₄ => ?_) hk hL hy
    have st₄ : h₄.IsListIter I l (i + 1) ∧ h₄.IsList l items.toArray := W.kept hfp F₃ F₄ kg kg (.head _) (.head _) st₃
    refine wpAny_mono (turn i g h₄ _ mus v1 v2 _ oI₁ _ hlt hPP kg hInv F₄) (fun f s₃ h₃ => ?_) fun _ _ e => e
    have go : (∃ g' h' m' mus' tk', s₃ = { s with heap := h', toks := tk' } ∧ Sub g g' ∧ FN w mg mb g₀ h₀ g' L h' m' ((I, isP oI₁) :: mus') ∧ Inv (i + 1) g' m' mus') →
        ∃ m_1, m_1 < items.length - i ∧ ∃ i g h m mus tk oI, s₃ = { s with heap := h, toks := tk } ∧ Sub gs g ∧ FN w mg mb g₀ h₀ g L h m ((I, isP oI) :: mus) ∧ (h.IsListIter I l i ∧ h.IsList l items.toArray) ∧ Inv i g m mus ∧ i ≤ items.length ∧ m_1 = items.length - i := by
      rintro ⟨g₃, h₅, m₃, mus₃, tk₃, rfl, kg₃, F₅, hI₃⟩
      exact ⟨items.length - (i + 1), by omega, i + 1, g₃, h₅, m₃, mus₃, tk₃, oI₁, rfl, kg.tr kg₃, F₅, W.kept hfp F₄ F₅ kg (kg.tr kg₃) (.head _) (.head _) st₄, hI₃, hlt, rfl⟩
    cases f with
    | next => exact go h₃
    | cont => exact go h₃
    | brk => exact h₃
    | ret v => exact h₃
  · have hin' : i = items.length := by omega
    subst hin'
    refine W.W.done _ _ _ st fun h₁ tk₁ hk₁ => ?_
    exact wpAny_execs_nil (fin g h₁ m mus tk₁ kg hInv (F.drop fun b x hb e => hk₁ b x (by simpa using hb) e))
end
/-! MRows -/
theorem walkF_good {ls : List (Option Int)} {ks : List Int} : ∀ {f : Nat} {pre : List Int} {ho : Option Int} {full : List Int}, walkF ls ks f pre ho = some full → Good ls ks pre → Good ls ks full
  | f, pre, none, full, h, G => by rw [walkF_none] at h; cases h; exact G
  | 0, pre, some v, full, h, _ => by cases h
  | f + 1, pre, some v, full, h, G => by
    rw [walkF] at h
    split at h
    · rename_i q
      exact walkF_good h (G.snoc q.1 q.2)
    · cases h
def TupAt2 (g : Heap) (ta : Addr) (p : Int × Int) : Prop := ∃ t1 t2, g.IsTuple ta [.int p.1 t1, .int p.2 t2].toArray
theorem TupAt2.up {g h : Heap} {ta : Addr} {p : Int × Int} (H : TupAt2 g ta p) (k : Sub g h) : TupAt2 h ta p := let ⟨a, b, c⟩ := H; ⟨a, b, tupUp c k⟩
def RowAt (rows : Nat → List (Int × Int)) (g : Heap) (i : Nat) (ra : Addr) : Prop := ∃ tas : List Addr, g.IsList ra (tas.map Value.ref).toArray ∧ All2 (TupAt2 g) tas (rows i)
theorem RowAt.up {rows : Nat → List (Int × Int)} {g h : Heap} {i : Nat} {ra : Addr} (H : RowAt rows g i ra) (k : Sub g h) : RowAt rows h i ra := let ⟨a, b, c⟩ := H; ⟨a, stays_list k b, c.mono fun _ _ q => q.up k⟩
def KV (kv : Int × Value) (p : Int × Int) : Prop := kv.1 = p.1 ∧ ∃ t, kv.2 = .int p.2 t
def addNew (acc : List (Int × Int)) (p : Int × Int) : List (Int × Int) := if acc.any (fun q => q.1 = p.1) then acc else acc ++ [p]
theorem addNew_old {acc : List (Int × Int)} {p : Int × Int} (h : acc.any (fun q => decide (q.1 = p.1)) = true) : addNew acc p = acc := if_pos h
theorem addNew_new {acc : List (Int × Int)} {p : Int × Int} (h : acc.any (fun q => decide (q.1 = p.1)) = false) : addNew acc p = acc ++ [p] := if_neg (by rw [h]; decide)
def rowsOf (rows : Nat → List (Int × Int)) (line : List Int) : List (Int × Int) := line.flatMap fun v => rows (v - 1).toNat
theorem KV.any {k : Int} : ∀ {kvs : List (Int × Value)} {acc : List (Int × Int)}, All2 KV kvs acc → (valueAt kvs k).isSome = acc.any (fun q => q.1 = k)
  | _, _, .nil => rfl
  | (k', v') :: kvs, (n, x) :: acc, .cons h t => by
    have ih := KV.any (k := k) t
    obtain ⟨h1, _⟩ := h
    dsimp only at h1
    subst h1
    unfold valueAt at *
    rw [List.find?_cons, List.any_cons, ← ih]
    by_cases e : k' = k
    · simp [e]
    · simp [e]
theorem KV.fresh {k : Int} {v : Value} {kvs : List (Int × Value)} {acc : List (Int × Int)} (H : All2 KV kvs acc) (h : acc.any (fun q => q.1 = k) = false) : stored kvs k v = kvs ++ [(k, v)] := by
  unfold stored
  rw [if_neg]
  have any2 : ∀ {kvs : List (Int × Value)} {acc : List (Int × Int)}, All2 KV kvs acc → (kvs.any fun kv => decide (kv.1 = k)) = acc.any (fun q => decide (q.1 = k)) := by
    intro kvs acc H
    induction H with
    | nil => rfl
    | cons hab _ ih => rw [List.any_cons, List.any_cons, ih, hab.1]
  rw [any2 H, h]
  decide
/-- what a call of read does -/
def Reads1 (w : World) (mg mb : Str → Option Value) (g : Heap) (rd sh : Addr) (n : Nat) (rows : Nat → List (Int × Int)) : Prop :=
  ∀ (A' : Around) (s' : Shared) (g' : Heap) (x : Addr) (i : Nat) (tk : Tok) (R' : Result → Shared → Prop), A'.depth + 5 < recursionLimit → A'.handled = none → Gr w mg mb g' → Sub g g' → Sub g' s'.heap →
    Has g' x 226 "octets" (some (.bytes (byteArr [65 + (i : Int)]) tk)) → i < n →
    (∀ g'' h'' t'' ra, Grow g' s'.heap g'' h'' → RowAt rows g'' i ra → R' (.ok (.ret (.ref ra))) { s' with heap := h'', toks := t'' }) → codeAny (model Pg w) A' (.call (.ref rd) ⟨[.ref sh, .ref x], []⟩) R' s'
theorem FnAt.up {q : Addr} {g h : Heap} (H : FnAt q g) (k : Sub g h) : FnAt q h := let ⟨a, b, c, d, e⟩ := H; ⟨a, b, c, d, k _ _ e⟩
/-! MRead -/
set_option maxHeartbeats 2000000 in
theorem rc_spec {A : Around} {s : Shared} {w : World} {mg mb : Str → Option Value} {g : Heap} {R : Result → Shared → Prop} {sh td tr nt nm r rd : Addr} {ts : List Addr} {ls : List (Option Int)} {ks : List Int} {v : Int} {lf : List Env} {B : Heap} {rows : Nat → List (Int × Int)}
    (G : Gr w mg mb g) (k : Sub g s.heap) (hd : A.depth + 40 < recursionLimit) (hh : A.handled = none) (hfr : A.frames = some lf) (hB : Sub B s.heap) (hF : s.heap.FunFrames B lf)
    (S : ShelfIs w g sh ls ks td tr nt nm ts) (hl : ls.length ≤ 6) (hk0 : ∀ k ∈ ks, 0 ≤ k) (hr : IsRef g r v) (hv : 0 < v)
    (hfn : FnAt rd g) (hrd : Reads1 w mg mb g rd sh ls.length rows) (hrw : ∀ i, (rows i).length ≤ 3)
    (hok : ∀ g' h' t' D kvs line, walkF ls ks (ls.length + 1) [] (some v) = some line → Grow g s.heap g' h' → g'.DictOf (intKind Pg w) D kvs → (D == sysModules) = false → All2 KV kvs ((rowsOf rows line).foldl addNew []) → kvs.length ≤ 18 → R (.ok (.ret (.ref D))) { s with heap := h', toks := t' })
    (hbad : walkF ls ks (ls.length + 1) [] (some v) = none → ∀ h' t' e, Fly B lf e h' → s.heap.UpToSlots h' → R (.error (.ref e)) { s with heap := h', toks := t' }) :
    codeAny (model Pg w) A (.call (.ref 384) ⟨[.ref sh, .ref r, .ref rd], []⟩) R s := by
  refine' enter (B := s.heap) (binds := [(Str.ofString "shelf", .ref sh), (Str.ofString "reference", .ref r), (Str.ofString "read", .ref rd)]) G k (Sub.rfl' _) ?hroom ?ho ?hcd ?hbind ?hloc ?hcell ?hco ?hgen ?hk ?_
  case hroom => omega
  case ho => exact rfl
  case hcd => exact rfl
  case hbind => exact BindsTo.of_eq rfl
  case hloc => exact locs rfl
  case hcell => decide
  case hco => exact rfl
  case hgen => exact rfl
  case hk => exact rfl
  intro L h₁ A₁ F k₁ hL D
  have hdep := D.depth
  have f1 := S.fetch
  have hfrA := D.frames
  rw [hfr, Option.map_some] at hfrA
  have hBL : B.get? L = none := none_of_sub hB hL
  have hA1 : A₁.handled = none := D.handled.trans hh
  repeat' tb_rel
  rename FN _ _ _ _ _ _ _ _ _ _ => F
  refine emptyD (intKind Pg w) F fun fd h₂ F hd2 hsys => ?_
  dsimp only
  repeat' tb_rel
  rename FN _ _ _ _ _ _ _ _ _ _ => F
  refine wpAny_call (ext_spec F.G F.st (by omega) hA1 hfrA (hB.tr F.kh) (Heap.FunFrames.cons (by intro q; cases q) rfl F.ns hBL (hF.of_keeps fun b o q _ => ⟨o, F.kh _ _ q, rfl⟩)) S hl hk0 hr hv ?ok ?bad)
  case bad =>
    intro hW h' t' e H u
    refine leave_fly (s := { s with heap := h', toks := t' }) hfrA rfl H fun h3 H3 u3 => ?_
    exact hbad hW _ _ _ H3 ((Heap.UpToSlots.of_keeps F.kh).trans (u.trans u3))
  case ok =>
    intro g₃ h₃ t₃ fl rs line hW W hfl hrs
    have F := F.after W
    have kg3 := W.kg
    clear W
    have hgood := walkF_good hW Good.nil
    have hll := hgood.length
    have hrl := hrs.length
    dsimp only
    refine iter_list F (stays_list F.st hfl) fun I h₄ oI F₄ hit hl4 hne _ k₄ => ?_
    dsimp only
    clear F
    refine' forLoop_FN (mus₀ := [(fd, dicP (intKind Pg w) [])]) (It.list hA1 I fl hne _) (fun i g m mus => m "found" = some (.ref fd) ∧ m "read" = some (.ref rd) ∧ m "shelf" = some (.ref sh) ∧ ∃ kvs, mus = [(fd, dicP (intKind Pg w) kvs)] ∧ All2 KV kvs ((rowsOf rows (line.take i)).foldl addNew []) ∧ kvs.length ≤ 3 * i)
      ?qL ?qx ?qp (fpL hfl) F₄ ⟨hit, hl4⟩ ⟨rfl, rfl, rfl, [], rfl, .nil, by simp⟩ ?turn ?fin
    case qL => exact rfl
    case qx => exact rfl
    case qp => exact rfl
    case turn =>
      rintro i g₅ h₅ m₅ mus x tk₅ oI₅ E' hi hx kg5 ⟨a1, a2, a3, kvs, rfl, hkv, hkl⟩ F₅
      clear F₄ hit
      have hi : i < rs.length := by simpa using hi
      obtain ⟨ri, li, e1, e2, hri⟩ := hrs.get hi
      have hx : x = .ref ri := by
        simp only [List.getElem?_toArray, List.getElem?_map, e1, Option.map_some, Option.some.injEq] at hx
        exact hx.symm
      subst hx
      have hli := hgood.ok li (List.mem_of_getElem? e2)
      repeat' tb_rel
      rename FN _ _ _ _ _ _ _ _ _ _ => F
      refine callWith_F (FnAt.up hfn (F.kg.tr F.st)) ?_
      repeat' tb_rel
      rename FN _ _ _ _ _ _ _ _ _ _ => F
      refine fetch_FN F (by omega) hA1 (S.up (kg3.tr kg5)) hl (hri.up kg5) fun g₆ h₆ t₆ y F kg6 hy => ?_
      dsimp only
      repeat' tb_rel
      rename FN _ _ _ _ _ _ _ _ _ _ => F
      refine ⟨FnAt.up hfn (F.kg.tr F.st), ?_⟩
      cases hy with
      | miss n => exact absurd hli n
      | name n => exact absurd hli n
      | dict n => exact absurd hli n
      | @strm x d l kd tk j hj hgl hgk H1 H2 H3 =>
        have hjn : j < ls.length := by have := hli.2.1; omega
        refine wpAny_call (hrd _ _ g₆ x j tk _ (by omega) hA1 F.G ((kg3.tr kg5).tr kg6) F.st H2 hjn fun g₇ h₇ t₇ ra W hra => ?_)
        have F := F.after W
        have kg7 := W.kg
        clear W
        obtain ⟨tas, hra1, hra2⟩ := hra
        have hrl2 := hra2.length
        dsimp only
        refine iter_list F (stays_list F.st hra1) fun I2 h₈ oI2 F₈ hit2 hl8 hne2 _ k₈ => ?_
        dsimp only
        clear F
        refine' forPair_FN (mus₀ := [(I, isP oI₅), (fd, dicP (intKind Pg w) kvs)]) (fun i v1 v2 => ∃ n wv t1 t2, (rows j)[i]? = some (n, wv) ∧ v1 = .int n t1 ∧ v2 = .int wv t2) hA1
          (fun i2 g m mus => m "found" = some (.ref fd) ∧ m "read" = some (.ref rd) ∧ m "shelf" = some (.ref sh) ∧ ∃ kvs', mus = [(I, isP oI₅), (fd, dicP (intKind Pg w) kvs')] ∧ All2 KV kvs' (((rows j).take i2).foldl addNew ((rowsOf rows (line.take i)).foldl addNew [])) ∧ kvs'.length ≤ kvs.length + i2)
          ?hP ?pL ?px ?py ?pk hra1 hne2 F₈ hit2 ⟨a1, a2, a3, kvs, rfl, hkv, by simp⟩ ?pturn ?pfin
        case pL => exact rfl
        case px => exact rfl
        case py => exact rfl
        case pk => exact rfl
        case hP =>
          intro q hq
          obtain ⟨ta, ⟨n, wv⟩, c1, c2, t1, t2, c3⟩ := hra2.get (i := q) (by simpa using hq)
          exact ⟨ta, _, _, by rw [List.getElem?_map, c1]; rfl, c3, n, wv, t1, t2, c2, rfl, rfl⟩
        case pturn =>
          rintro q g₉ h₉ m₉ mus v1 v2 tk₉ oI₉ E2 hq ⟨n, wv, t1, t2, hrow, rfl, rfl⟩ kg9 ⟨b1, b2, b3, kvs', rfl, hkv', hkl'⟩ F₉
          clear F₈ hit2
          have hq : q < (rows j).length := by rw [← hrl2]; simpa using hq
          have hstep : ((rows j).take (q + 1)).foldl addNew ((rowsOf rows (line.take i)).foldl addNew []) = addNew (((rows j).take q).foldl addNew ((rowsOf rows (line.take i)).foldl addNew [])) (n, wv) := by
            rw [List.take_add_one, hrow, List.foldl_append]; rfl
          repeat' tb_rel
          rename FN _ _ _ _ _ _ _ _ _ _ => F
          refine wpAny_notIn_of (knd := intKind Pg w) (k := n) (by simp [intKind, Value.isInt]) hsys (F.dic (.tail _ (.tail _ (.head _)))).mapOf ?_
          rw [KV.any hkv']
          cases hany : ((((rows j).take q).foldl addNew ((rowsOf rows (line.take i)).foldl addNew [])).any fun q => decide (q.1 = n)) with
          | true =>
            dsimp only
            repeat' tb_rel
            rename FN _ _ _ _ _ _ _ _ _ _ => F
            exact ⟨g₉, _, _, _, _, rfl, Sub.rfl' _, F, b1, b2, b3, kvs', rfl, by rw [hstep, addNew_old hany]; exact hkv', by omega⟩
          | false =>
            dsimp only
            repeat' tb_rel
            have hr3 := hrw j
            rename FN _ _ _ _ _ _ _ _ _ _ => F
            refine setD [_, _] F (k := n) (by simp [intKind, Value.isInt]) (by simp only [sizeLine]; omega) fun h' tk F => ?_
            simp only [List.cons_append, List.nil_append] at F
            dsimp only
            rw [KV.fresh hkv' hany] at F
            repeat' tb_rel
            exact ⟨g₉, _, _, _, _, rfl, Sub.rfl' _, F, b1, b2, b3, _, rfl, by rw [hstep, addNew_new hany]; exact hkv'.snoc ⟨rfl, _, rfl⟩, by simp; omega⟩
        case pfin =>
          rintro g₉ h₉ m₉ mus tk₉ kg9 ⟨b1, b2, b3, kvs', rfl, hkv', hkl'⟩ F₉
          clear F₈ hit2
          dsimp only
          repeat' tb_rel
          rename FN _ _ _ _ _ _ _ _ _ _ => F
          have hr3 := hrw j
          refine ⟨g₉, _, _, _, _, rfl, (kg6.tr kg7).tr kg9, F, b1, b2, b3, kvs', rfl, ?_, ?_⟩
          · rw [List.take_of_length_le (l := rows j) (by simp; omega)] at hkv'
            rw [List.take_add_one, e2]
            unfold rowsOf at hkv' ⊢
            rw [Option.toList_some, List.flatMap_append, List.foldl_append]
            simp only [List.flatMap_cons, List.flatMap_nil, List.append_nil]
            rw [show (li - 1).toNat = j by omega]
            exact hkv'
          · simp at hkl'; omega
    case fin =>
      rintro g₅ h₅ m₅ mus tk₅ kg5 ⟨a1, a2, a3, kvs, rfl, hkv, hkl⟩ F₅
      clear F₄ hit
      dsimp only
      repeat' tb_rel
      rename FN _ _ _ _ _ _ _ _ _ _ => F
      obtain ⟨g₆, F, kg6, hf⟩ := F.freezeAll
      refine hok _ _ _ _ kvs line hW F.ret (dicOfP (hf _ (.head _))) hsys ?_ ?_
      · rwa [List.take_of_length_le (by simp; omega)] at hkv
      · simp at hkl; omega
/-! MLWalk -/
set_option maxHeartbeats 2000000 in
theorem lw_spec {A : Around} {s : Shared} {w : World} {mg mb : Str → Option Value} {g : Heap} {R : Result → Shared → Prop} {lk kl : Addr} {ys zs : List Value} {ls : List (Option Int)} {ks : List Int} {v : Int} {tv : Tok}
    (G : Gr w mg mb g) (k : Sub g s.heap) (hd : A.depth + 5 < recursionLimit) (hlk : g.IsList lk ys.toArray) (hkl : g.IsList kl zs.toArray) (hys : All2 LinkV ys ls) (hzs : IntsAre zs ks) (hlen : ls.length ≤ 6) (hln : ks.length = ls.length)
    (hok : ∀ g' h' t' D vs line, walkF ls ks (ls.length + 1) [] (some v) = some line → Grow g s.heap g' h' → g'.IsList D vs.toArray → IntsAre vs line → R (.ok (.ret (.ref D))) { s with heap := h', toks := t' })
    (hbad : walkF ls ks (ls.length + 1) [] (some v) = none → ∀ g' h' t', Grow g s.heap g' h' → R (.ok (.ret .none)) { s with heap := h', toks := t' }) :
    codeAny (model Pg w) A (.call (.ref 417) ⟨[.ref lk, .ref kl, .int v tv], []⟩) R s := by
  refine' enter (B := s.heap) (binds := [(Str.ofString "links", .ref lk), (Str.ofString "kinds", .ref kl), (Str.ofString "begin", .int v tv)]) G k (Sub.rfl' _) ?hroom ?ho ?hcd ?hbind ?hloc ?hcell ?hco ?hgen ?hk ?_
  case hroom => omega
  case ho => exact rfl
  case hcd => exact rfl
  case hbind => exact BindsTo.of_eq rfl
  case hloc => exact locs rfl
  case hcell => decide
  case hco => exact rfl
  case hgen => exact rfl
  case hk => exact rfl
  intro L h₁ A₁ F k₁ hL D
  have hdep := D.depth
  have hl1 := hys.length
  have hl2 := hzs.length
  repeat' tb_rel
  rename_i fl _ _ _ _ _ _ F
  refine wpAny_While ?_
  refine codeAny_whileLoop (fun k s' => ∃ h m line vs ho u tk, s' = { s with heap := h, toks := tk } ∧ FN w mg mb g s.heap g L h m [(fl, plP vs)] ∧ m "line" = some (.ref fl) ∧ m "here" = some u ∧ m "links" = some (.ref lk) ∧ m "kinds" = some (.ref kl) ∧
    LinkV u ho ∧ IntsAre vs line ∧ Good ls ks line ∧ line.length + k = ls.length + 1 ∧ walkF ls ks k line ho = walkF ls ks (ls.length + 1) [] (some v)) ?turn (ls.length + 1)
    ⟨_, _, [], [], some v, _, _, rfl, F, rfl, rfl, rfl, rfl, .int _ _, .nil, .nil, by simp, rfl⟩
  case turn =>
    clear F
    rintro k s' ⟨h₂, m₂, line, vs, ho, u, tk₂, rfl, F, a1, a2, a3, a4, hu, hvs, hgood, hlen2, hW⟩
    have hvl := hvs.length
    have hgl := hgood.length
    cases hu with
    | none =>
      repeat' tb_rel
      rename FN _ _ _ _ _ _ _ _ _ _ => F
      obtain ⟨g₃, F, kg3, hf⟩ := F.freezeAll
      exact hok _ _ _ _ vs line (by rw [← hW, walkF_none]) F.ret (plOfP (hf _ (.head _))) hvs
    | int b tb =>
      have nope : ¬ (okv ls ks b ∧ b ∉ line) → walkF ls ks (ls.length + 1) [] (some v) = none := fun q => by rw [← hW]; exact walkF_bad q _
      repeat' tb_rel
      · rename_i q1 q2
        have q2 : ¬ b ≤ (ys.length : Int) := by simpa using q2
        rename FN _ _ _ _ _ _ _ _ _ _ => F
        exact hbad (nope fun q => q2 (by have := q.1.2.1; omega)) _ _ _ F.ret
      · rename_i q1 q2
        have q1 : 1 ≤ b := of_decide_eq_true q1
        have q2 : b ≤ (ys.length : Int) := by simpa using q2
        have hi : (b - 1).toNat < ks.length := by omega
        have hil : (b - 1).toNat < ys.length := by omega
        have hkd := List.getElem?_eq_getElem hi
        generalize ks[(b - 1).toNat] = kd at hkd
        obtain ⟨tkd, hz⟩ := hzs.get _ kd hkd
        obtain ⟨y, l, hy, hl, hV⟩ := hys.get hil
        have hka : kAt ks b = kd := by unfold kAt; rw [hkd]; rfl
        have hla : lAt ls b = l := by unfold lAt; rw [hl]; rfl
        repeat' tb_rel
        · rename_i q3
          have q3 : 1 < kd := of_decide_eq_true q3
          rename FN _ _ _ _ _ _ _ _ _ _ => F
          exact hbad (nope fun q => by have := q.1.2.2; omega) _ _ _ F.ret
        · rename_i q3
          have q3 : ¬ 1 < kd := fun h => q3 (decide_eq_true h)
          rename FN _ _ _ _ _ _ _ _ _ _ => F
          refine in_list_ints (F.plist (.head _)) hvs ?_
          by_cases hm : b ∈ line
          · rw [show (line.any fun x => x == b) = true by rw [List.any_eq_true]; exact ⟨b, hm, by simp⟩]
            repeat' tb_rel
            rename FN _ _ _ _ _ _ _ _ _ _ => F
            exact hbad (nope fun q => q.2 hm) _ _ _ F.ret
          · rw [show (line.any fun x => x == b) = false by rw [List.any_eq_false]; intro x hx; simp; rintro rfl; exact hm hx]
            have hok1 : okv ls ks b := ⟨q1, by omega, by omega⟩
            repeat' tb_rel
            rename FN _ _ _ _ _ _ _ _ _ _ => F
            refine' appL [] F ?aln ?_
            case aln => (simp [sizeLine]; omega)
            clear F
            intro h' F
            simp only [List.cons_append, List.nil_append] at F
            dsimp only
            repeat' tb_rel
            rename FN _ _ _ _ _ _ _ _ _ _ => F
            obtain ⟨k', rfl⟩ : ∃ k', k = k' + 1 := ⟨k - 1, by omega⟩
            exact ⟨k', Nat.lt_succ_self _, _, _, line ++ [b], _, l, y, _, rfl, F, a1, rfl, a3, a4, hV, hvs.append (.cons _ _ .nil), hgood.snoc hok1 hm, by simp; omega, by rw [← hW, walkF, if_pos ⟨hok1, hm⟩, hla]⟩
      · rename_i q1
        have q1 : ¬ 1 ≤ b := fun h => q1 (decide_eq_true h)
        rename FN _ _ _ _ _ _ _ _ _ _ => F
        exact hbad (nope fun q => q1 q.1.1) _ _ _ F.ret
/-! MRep -/
/-- a told value -/
inductive PT
  | int (n : Int)
  | str (x : Str)
  | byt (a : Array UInt8)
  | tup (l : List PT)
mutual
/-- a value tells p; its depth is at most the number -/
inductive Rep (g : Heap) : Nat → PT → Value → Prop
  | int {d : Nat} (n : Int) (t : Tok) : Rep g d (.int n) (.int n t)
  | str {d : Nat} (x : Str) (t : Tok) : Rep g d (.str x) (.str x t)
  | byt {d : Nat} (a : Array UInt8) (t : Tok) : Rep g d (.byt a) (.bytes a t)
  | tup {d : Nat} {l : List PT} {a : Addr} {vs : List Value} (ht : g.IsTuple a vs.toArray) (h : RepL g d l vs) : Rep g (d + 1) (.tup l) (.ref a)
inductive RepL (g : Heap) : Nat → List PT → List Value → Prop
  | nil {d : Nat} : RepL g d [] []
  | cons {d : Nat} {p : PT} {v : Value} {ps : List PT} {vs : List Value} (h : Rep g d p v) (t : RepL g d ps vs) : RepL g d (p :: ps) (v :: vs)
end
mutual
theorem Rep.up {g h : Heap} (k : Sub g h) : ∀ {d : Nat} {p : PT} {v : Value}, Rep g d p v → Rep h d p v
  | _, _, _, .int n t => .int n t
  | _, _, _, .str x t => .str x t
  | _, _, _, .byt a t => .byt a t
  | _, _, _, .tup ht q => .tup (tupUp ht k) (RepL.up k q)
theorem RepL.up {g h : Heap} (k : Sub g h) : ∀ {d : Nat} {p : List PT} {v : List Value}, RepL g d p v → RepL h d p v
  | _, _, _, .nil => .nil
  | _, _, _, .cons a b => .cons (Rep.up k a) (RepL.up k b)
end
theorem RepL.length {g : Heap} : ∀ {d : Nat} {p : List PT} {v : List Value}, RepL g d p v → p.length = v.length
  | _, _, _, .nil => rfl
  | _, _, _, .cons _ t => by simp [t.length]
theorem RepL.append {g : Heap} : ∀ {d : Nat} {p q : List PT} {v u : List Value}, RepL g d p v → RepL g d q u → RepL g d (p ++ q) (v ++ u)
  | _, _, _, _, _, .nil, h => h
  | _, _, _, _, _, .cons a b, h => .cons a (b.append h)
theorem EqAt.bytes (A : Around) (s : Shared) (a : Array UInt8) (t u : Tok) : SeqAt.EqAt A s (.bytes a t) (.bytes a u) true := fun prog w E Q h => by
  unfold eqBool
  refine wpAny_holding ?_
  refine wpAny_ite_split (fun _ => wpAny_bind (wpAny_rule (wpAny_pure h))) (fun _ => ?_)
  refine wpAny_bind ?_
  show wpAny _ _ (compareOp .Eq _ _) _ _ _
  refine eq_bytes ?_
  rw [show (a.toList == a.toList) = true by simp]
  exact wpAny_truthy_bool h
theorem EqAt.tuples {A : Around} {s : Shared} {a b : Addr} {vs us : List Value} (hl : s.heap.IsTuple a vs.toArray) (hb : s.heap.IsTuple b us.toArray) (hlen : vs.length = us.length) (hu : A.units < cLine)
    (he : ∀ (j : Nat) (v u : Value), vs[j]? = some v → us[j]? = some u → SeqAt.EqAt A.in1 s v u true) : SeqAt.EqAt A s (.ref a) (.ref b) true := by
  by_cases e : a = b
  · subst e; exact SeqAt.EqAt.same _
  · have := SeqAt.RcAt.tuples (e := fun _ => true) hl hb hu (fun j h1 h2 => he j _ _ (by simp at h1 ⊢) (by simp at h2 ⊢))
    rw [show ((List.range (min vs.toArray.size us.toArray.size)).all (fun _ => true) && vs.toArray.size == us.toArray.size) = true by simp [hlen]] at this
    exact SeqAt.EqAt.of_refs e this
mutual
theorem Rep.eq {s : Shared} {g : Heap} (k : Sub g s.heap) : ∀ {d : Nat} {p : PT} {v u : Value} {A : Around}, Rep g d p v → Rep g d p u → A.units + d < cLine → SeqAt.EqAt A s v u true
  | _, _, _, _, A, .int n t, .int _ t', _ => by have := SeqAt.EqAt.int_int (A := A) (s := s) n t n t'; simpa using this
  | _, _, _, _, A, .str n t, .str _ t', _ => by have := SeqAt.EqAt.str_str (A := A) (s := s) n t n t'; simpa using this
  | _, _, _, _, _, .byt n t, .byt _ t', _ => EqAt.bytes _ _ _ _ _
  | _, _, _, _, A, .tup ht q, .tup ht' q', hu => EqAt.tuples (tupUp ht k) (tupUp ht' k) (by rw [← q.length, ← q'.length]) (by omega) (RepL.eq k q q' (A := A.in1) (by have : A.in1.units = A.units + 1 := rfl; omega))
theorem RepL.eq {s : Shared} {g : Heap} (k : Sub g s.heap) : ∀ {d : Nat} {p : List PT} {vs us : List Value} {A : Around}, RepL g d p vs → RepL g d p us → A.units + d < cLine → ∀ (j : Nat) (v u : Value), vs[j]? = some v → us[j]? = some u → SeqAt.EqAt A s v u true
  | _, _, _, _, _, .nil, .nil, _ => fun j v u h => nomatch h
  | _, _, _, _, _, .cons a b, .cons a' b', hu => fun j v u h h' => match j, h, h' with
    | 0, h, h' => by
      cases h; cases h'
      exact Rep.eq k a a' hu
    | j + 1, h, h' => RepL.eq k b b' hu j v u h h'
end
/-! MPlain -/
def ptInt (n : Int) : PT := .tup [.str "int", .int n]
def ptName (x : Str) : PT := .tup [.str "name", .str x]
def ptRef (v : Int) : PT := .tup [.str "ref", .int v, .int 0]
set_option maxHeartbeats 2000000 in
theorem plain_int {A : Around} {s : Shared} {w : World} {mg mb : Str → Option Value} {g : Heap} {R : Result → Shared → Prop} {n : Int} {t u : Tok}
    (G : Gr w mg mb g) (k : Sub g s.heap) (hd : A.depth + 5 < recursionLimit)
    (hR : ∀ g' h' t' a, Grow g s.heap g' h' → (∀ d, Rep g' (d + 1) (ptInt n) (.ref a)) → R (.ok (.ret (.ref a))) { s with heap := h', toks := t' }) :
    codeAny (model Pg w) A (.call (.ref 272) ⟨[.str "int" t, .int n u], []⟩) R s := by
  refine' enter (B := s.heap) (binds := [(Str.ofString "kind", .str "int" t), (Str.ofString "value", .int n u)]) G k (Sub.rfl' _) ?hroom ?ho ?hcd ?hbind ?hloc ?hcell ?hco ?hgen ?hk ?_
  case hroom => omega
  case ho => exact rfl
  case hcd => exact rfl
  case hbind => exact BindsTo.of_eq rfl
  case hloc => exact locs rfl
  case hcell => decide
  case hco => exact rfl
  case hgen => exact rfl
  case hk => exact rfl
  intro L h₁ A₁ F k₁ hL D
  have hdep := D.depth
  repeat' tb_rel
  rename FN _ _ _ _ _ _ _ _ _ _ => F
  obtain ⟨g₃, F, kg3, hf⟩ := F.freezeAll
  exact hR _ _ _ _ F.ret fun d => .tup (tupOfP (hf _ (.head _))) (.cons (.str _ _) (.cons (.int _ _) .nil))
set_option maxHeartbeats 2000000 in
theorem plain_name {A : Around} {s : Shared} {w : World} {mg mb : Str → Option Value} {g : Heap} {R : Result → Shared → Prop} {x : Str} {a : Addr} {t : Tok}
    (G : Gr w mg mb g) (k : Sub g s.heap) (hd : A.depth + 5 < recursionLimit) (H : IsName g a x)
    (hR : ∀ g' h' t' b, Grow g s.heap g' h' → (∀ d, Rep g' (d + 1) (ptName x) (.ref b)) → R (.ok (.ret (.ref b))) { s with heap := h', toks := t' }) :
    codeAny (model Pg w) A (.call (.ref 272) ⟨[.str "name" t, .ref a], []⟩) R s := by
  obtain ⟨tn, hn⟩ := H
  refine' enter (B := s.heap) (binds := [(Str.ofString "kind", .str "name" t), (Str.ofString "value", .ref a)]) G k (Sub.rfl' _) ?hroom ?ho ?hcd ?hbind ?hloc ?hcell ?hco ?hgen ?hk ?_
  case hroom => omega
  case ho => exact rfl
  case hcd => exact rfl
  case hbind => exact BindsTo.of_eq rfl
  case hloc => exact locs rfl
  case hcell => decide
  case hco => exact rfl
  case hgen => exact rfl
  case hk => exact rfl
  intro L h₁ A₁ F k₁ hL D
  have hdep := D.depth
  repeat' tb_rel
  rename FN _ _ _ _ _ _ _ _ _ _ => F
  obtain ⟨g₃, F, kg3, hf⟩ := F.freezeAll
  exact hR _ _ _ _ F.ret fun d => .tup (tupOfP (hf _ (.head _))) (.cons (.str _ _) (.cons (.str _ _) .nil))
set_option maxHeartbeats 2000000 in
theorem plain_ref {A : Around} {s : Shared} {w : World} {mg mb : Str → Option Value} {g : Heap} {R : Result → Shared → Prop} {v : Int} {a : Addr} {t : Tok}
    (G : Gr w mg mb g) (k : Sub g s.heap) (hd : A.depth + 5 < recursionLimit) (H : IsRef g a v)
    (hR : ∀ g' h' t' b, Grow g s.heap g' h' → (∀ d, Rep g' (d + 1) (ptRef v) (.ref b)) → R (.ok (.ret (.ref b))) { s with heap := h', toks := t' }) :
    codeAny (model Pg w) A (.call (.ref 272) ⟨[.str "ref" t, .ref a], []⟩) R s := by
  obtain ⟨⟨tn, hn⟩, ⟨tg, hg⟩, _⟩ := H
  refine' enter (B := s.heap) (binds := [(Str.ofString "kind", .str "ref" t), (Str.ofString "value", .ref a)]) G k (Sub.rfl' _) ?hroom ?ho ?hcd ?hbind ?hloc ?hcell ?hco ?hgen ?hk ?_
  case hroom => omega
  case ho => exact rfl
  case hcd => exact rfl
  case hbind => exact BindsTo.of_eq rfl
  case hloc => exact locs rfl
  case hcell => decide
  case hco => exact rfl
  case hgen => exact rfl
  case hk => exact rfl
  intro L h₁ A₁ F k₁ hL D
  have hdep := D.depth
  repeat' tb_rel
  rename FN _ _ _ _ _ _ _ _ _ _ => F
  obtain ⟨g₃, F, kg3, hf⟩ := F.freezeAll
  exact hR _ _ _ _ F.ret fun d => .tup (tupOfP (hf _ (.head _))) (.cons (.str _ _) (.cons (.int _ _) (.cons (.int _ _) .nil)))
/-! MCallC -/
section
variable {A : Around} {s : Shared} {w : World} {mg mb : Str → Option Value} {g B : Heap} {R : Result → Shared → Prop}
  {name qual : Str} {params : Arguments} {body : List Stmt} {scope : Scope} {dV kV doc pm cdv ct oc : Value} {an od : Option Addr} {osl : Array (Option Value)} {f : Addr} {vals : List Value} {binds : List (Str × Value)} {cn : Str} {cv : Value}
/-- the entry of a def of the top with one cell, a parameter -/
theorem enterC (G : Gr w mg mb g) (k : Sub g B) (kB : Sub B s.heap) (hroom : A.depth < recursionLimit)
    (ho : (KK w).lookup f = some ⟨oc, od, .func (fnOf name qual params body scope dV kV doc pm an cdv ct), osl⟩) (hcd : codeIn (KK w) cdv qual = true)
    (hbind : bindArgs (fnOf name qual params body scope dV kV doc pm an cdv ct) ⟨vals, []⟩ = pure binds)
    (hcells : ∀ n, cellsFrom n scope.names [] = [(cn, n)])
    (hkind : ∀ x ∈ binds, scope.names.lookup x.1 = some .local ∨ (scope.names.lookup x.1 = some .cell ∧ x.1 = cn))
    (hcv : ∀ L, bindC (envX qual scope L f cdv [(cn, L + 1)]).kindOf binds (fun _ => none) cn = some cv)
    (hco : scope.isCoroutine = false) (hgen : scope.isGenerator = false) (hk : scope.kind = .function)
    (h : ∀ L h₁ tk A₁ c, FN w mg mb g B g L h₁ (bindL (envX qual scope L f cdv [(cn, c)]).kindOf binds fun _ => none) [(c, cellP (some cv))] → Sub s.heap h₁ → s.heap.get? L = none → Deep A (envX qual scope L f cdv [(cn, c)]) A₁ →
      wpAny (model Pg w) A₁ (execs body (envX qual scope L f cdv [(cn, c)]))
        (fun fl s' => R (.ok (.ret (match fl with | .ret v => v | _ => .none))) s')
        (fun e s' => wpAny (model Pg w) A₁ (leaving (envX qual scope L f cdv [(cn, c)]) e) (fun _ s'' => R (.error e) s'') (fun e' s'' => R (.error e') s'') s')
        { s with heap := h₁, toks := tk }) : codeAny (model Pg w) A (.call (.ref f) ⟨vals, []⟩) R s := by
  have X := G.X.keeps (k.tr kB)
  refine codeAny_call_cells (fd := fnOf name qual params body scope dV kV doc pm an cdv ct) (body := body) (binds := binds) hroom (X _ _ ho) rfl (G.nolimit.keeps (k.tr kB)) (codeRec_of X hcd) rfl hbind rfl
    (fun x hx => (hkind x hx).imp_right fun q => ⟨q.1, by show ((cellsFrom (s.heap.objs.size + 1) scope.names []).lookup x.1).isSome = true; rw [hcells, q.2]; simp⟩) (fun s₁ hC => ?_) hco hgen hk
  have ee : callEnvC (fnOf name qual params body scope dV kV doc pm an cdv ct) s.heap.objs.size f = envX qual scope s.heap.objs.size f cdv [(cn, s.heap.objs.size + 1)] := by
    show newEnv scope s.heap.objs.size mainGlobals (cellsFrom (s.heap.objs.size + 1) scope.names []) _ _ _ _ _ = _
    rw [hcells]; rfl
  rw [ee] at hC ⊢
  obtain ⟨⟨⟨h₁, tk, rfl⟩, hns, hkeep, hfresh⟩, hcell, hap, hab⟩ := hC
  have hL : s.heap.get? s.heap.objs.size = none := Heap.get?_none_of_le (Nat.le_refl _)
  have hc : s.heap.get? (s.heap.objs.size + 1) = none := Heap.get?_none_of_le (Nat.le_succ _)
  have F := FN.start (mg := mg) (mb := mb) (w := w) G k hns (kB.tr hkeep) (none_of_sub kB hL)
  have hc' := hcell cn (s.heap.objs.size + 1) (by show List.lookup cn [(cn, s.heap.objs.size + 1)] = _; simp)
  rw [hcv] at hc'
  obtain ⟨oc', hoc, hdc⟩ := hc'
  exact h _ h₁ tk _ _ (F.add ⟨oc', hoc, hdc⟩ (Nat.succ_ne_self _) (none_of_sub (k.tr kB) hc) (none_of_sub kB hc) (fun _ hq => nomatch hq)) hkeep hL ⟨rfl, rfl, rfl, rfl, rfl⟩
end
/-! MTold -/
set_option maxHeartbeats 600000 in
theorem told_int {A : Around} {s : Shared} {w : World} {mg mb : Str → Option Value} {g : Heap} {R : Result → Shared → Prop} {n : Int} {u : Tok}
    (G : Gr w mg mb g) (k : Sub g s.heap) (hd : A.depth + 10 < recursionLimit) 
    (hR : ∀ g' h' t' b, Grow g s.heap g' h' → (∀ d, Rep g' (d + 1) (ptInt n) (.ref b)) → R (.ok (.ret (.ref b))) { s with heap := h', toks := t' }) :
    codeAny (model Pg w) A (.call (.ref 277) ⟨[.int n u], []⟩) R s := by
  skip
  refine' enterC (B := s.heap) (binds := [(Str.ofString "value", .int n u)]) (cn := Str.ofString "value") (cv := (.int n u)) G k (Sub.rfl' _) ?hroom ?ho ?hcd ?hbind ?hcells ?hkind ?hcv ?hco ?hgen ?hk ?_
  case hroom => omega
  case ho => exact rfl
  case hcd => exact rfl
  case hbind => exact rfl
  case hcells => intro n; exact rfl
  case hkind => intro x hx; rw [List.mem_singleton.mp hx]; exact .inr ⟨rfl, rfl⟩
  case hcv => intro L; exact rfl
  case hco => exact rfl
  case hgen => exact rfl
  case hk => exact rfl
  intro L h₁ tkC A₁ cC F k₁ hL D
  have hdep := D.depth
  repeat' tb_rel
  rename FN _ _ _ _ _ _ _ _ _ _ => F
  refine wpAny_call (kind_int F.G F.st (by omega) kitx_int (fun _ _ => trivial) fun h' t' tk W => ?_)
  have F := F.after W
  clear W
  dsimp only
  repeat' tb_rel
  rename FN _ _ _ _ _ _ _ _ _ _ => F
  refine wpAny_call (plain_int F.G F.st (by omega)  fun g' h' t' b W hb => ?_)
  exact hR _ _ _ _ (F.after W).ret hb
set_option maxHeartbeats 600000 in
theorem told_name {A : Around} {s : Shared} {w : World} {mg mb : Str → Option Value} {g : Heap} {R : Result → Shared → Prop} {x : Str} {a : Addr}
    (G : Gr w mg mb g) (k : Sub g s.heap) (hd : A.depth + 10 < recursionLimit) (H : IsName g a x)
    (hR : ∀ g' h' t' b, Grow g s.heap g' h' → (∀ d, Rep g' (d + 1) (ptName x) (.ref b)) → R (.ok (.ret (.ref b))) { s with heap := h', toks := t' }) :
    codeAny (model Pg w) A (.call (.ref 277) ⟨[.ref a], []⟩) R s := by
  obtain ⟨H', Z, hH⟩ := kitName (w := w) H.isI
  refine' enterC (B := s.heap) (binds := [(Str.ofString "value", .ref a)]) (cn := Str.ofString "value") (cv := (.ref a)) G k (Sub.rfl' _) ?hroom ?ho ?hcd ?hbind ?hcells ?hkind ?hcv ?hco ?hgen ?hk ?_
  case hroom => omega
  case ho => exact rfl
  case hcd => exact rfl
  case hbind => exact rfl
  case hcells => intro n; exact rfl
  case hkind => intro x hx; rw [List.mem_singleton.mp hx]; exact .inr ⟨rfl, rfl⟩
  case hcv => intro L; exact rfl
  case hco => exact rfl
  case hgen => exact rfl
  case hk => exact rfl
  intro L h₁ tkC A₁ cC F k₁ hL D
  have hdep := D.depth
  repeat' tb_rel
  rename FN _ _ _ _ _ _ _ _ _ _ => F
  refine wpAny_call (kind_name F.G F.st (by omega) Z hH fun h' t' tk W => ?_)
  have F := F.after W
  clear W
  dsimp only
  repeat' tb_rel
  rename FN _ _ _ _ _ _ _ _ _ _ => F
  refine wpAny_call (plain_name F.G F.st (by omega) H fun g' h' t' b W hb => ?_)
  exact hR _ _ _ _ (F.after W).ret hb
set_option maxHeartbeats 600000 in
theorem told_ref {A : Around} {s : Shared} {w : World} {mg mb : Str → Option Value} {g : Heap} {R : Result → Shared → Prop} {v : Int} {a : Addr}
    (G : Gr w mg mb g) (k : Sub g s.heap) (hd : A.depth + 10 < recursionLimit) (H : IsRef g a v)
    (hR : ∀ g' h' t' b, Grow g s.heap g' h' → (∀ d, Rep g' (d + 1) (ptRef v) (.ref b)) → R (.ok (.ret (.ref b))) { s with heap := h', toks := t' }) :
    codeAny (model Pg w) A (.call (.ref 277) ⟨[.ref a], []⟩) R s := by
  obtain ⟨H', Z, hH⟩ := kitRef (w := w) H.isI
  refine' enterC (B := s.heap) (binds := [(Str.ofString "value", .ref a)]) (cn := Str.ofString "value") (cv := (.ref a)) G k (Sub.rfl' _) ?hroom ?ho ?hcd ?hbind ?hcells ?hkind ?hcv ?hco ?hgen ?hk ?_
  case hroom => omega
  case ho => exact rfl
  case hcd => exact rfl
  case hbind => exact rfl
  case hcells => intro n; exact rfl
  case hkind => intro x hx; rw [List.mem_singleton.mp hx]; exact .inr ⟨rfl, rfl⟩
  case hcv => intro L; exact rfl
  case hco => exact rfl
  case hgen => exact rfl
  case hk => exact rfl
  intro L h₁ tkC A₁ cC F k₁ hL D
  have hdep := D.depth
  repeat' tb_rel
  rename FN _ _ _ _ _ _ _ _ _ _ => F
  refine wpAny_call (kind_ref F.G F.st (by omega) Z hH fun h' t' tk W => ?_)
  have F := F.after W
  clear W
  dsimp only
  repeat' tb_rel
  rename FN _ _ _ _ _ _ _ _ _ _ => F
  refine wpAny_call (plain_ref F.G F.st (by omega) H fun g' h' t' b W hb => ?_)
  exact hR _ _ _ _ (F.after W).ret hb
/-! MSort -/
section
variable {w : World} {K : Type} [DecidableEq K] {knd : PySem.KeyKind Pg w K} {A : Around} {E : Value → Shared → Prop} {s : Shared} {d : Addr} {kvs : List (K × Value)} {mg mb : Str → Option Value} {g₀ h₀ g : Heap} {L : Addr} {m : Str → Option Value} {mus : List (Addr × Ob)} {Q : Value → Shared → Prop}
theorem sortedD (F : FN w mg mb g₀ h₀ g L s.heap m mus) (hh : A.handled = none) (hD : s.heap.DictOf knd d kvs) (lo : (d == sysModules) = false) (hn : kvs.length ≤ 60)
    (h : ∀ (D : Addr) (h' : Heap) (tk : Nat) (vs : List Value), FN w mg mb g₀ h₀ g L h' m ((D, isP (seqObj "list" vs.toArray 0)) :: mus) → vs.length = kvs.length → (∀ (j : Nat) (v : Value), vs[j]? = some v → ∃ k x, kvs[j]? = some (k, x) ∧ knd.is k v = true) →
      wpAny (model Pg w) A.in1 (call (.builtin "list.sort") [.ref D]) (fun _ s' => Q (.ref D) s') E { s with heap := h', toks := tk }) :
    wpAny (model Pg w) A (call (.builtin "sorted") [.ref d]) Q E s := by
  obtain ⟨ep, hat⟩ := hD.dictAt
  have hn' : kvs.length ≤ sizeLine := by simp only [sizeLine]; omega
  refine call_function_entry kind_sorted plain_sorted entry_sorted (args_sorted1 _) ?_
  unfold Builtin.«sorted»
  refine wpAny_bind (m := checkCount "sorted" 1 1 _) (wpAny_pure ?_)
  refine wpAny_bind (kdu_collect (A := A.in1) (kdl_dict (knd := knd) (kvs := kvs) (ep := ep) lo) hh hat hn' fun h' tk acc hk hacc => ?_)
  have hl : acc.toList.length = kvs.length := by rw [Array.length_toList]; exact hacc.1
  refine wpAny_bind (wpAny_newList ?_ (by rw [hl]; exact hn'))
  have hg := h h'.objs.size (h'.push { cls := .type "list", data := .seq acc.toList.toArray }) tk acc.toList ((F.keep hk).push { cls := .type "list", data := .seq acc.toList.toArray } (isP _) rfl) hl (fun j v e => hacc.2 j v (by rw [← Array.getElem?_toList]; exact e))
  refine wpAny_bind (wpAny_holding (wpAny_mono hg (fun _ s' x => ?_) fun _ _ e => e))
  exact wpAny_pure ⟨_, rfl, x⟩
theorem sortI {D : Addr} {vs : List Value} {ns : List Int} (F : FN w mg mb g₀ h₀ g L s.heap m ((D, isP (seqObj "list" vs.toArray 0)) :: mus)) (hi : IntsAre vs ns) (h64 : vs.length < 64)
    (h : ∀ h' us ns', FN w mg mb g₀ h₀ g L h' m ((D, listP us) :: mus) → IntsAre us ns' → ns'.Perm ns → ns'.Pairwise (· ≤ ·) → Q .none { s with heap := h' }) : wpAny (model Pg w) A (call (.builtin "list.sort") [.ref D]) Q E s := by
  have hD := F.at (.head _)
  refine wpAny_call_entry PyProof.Rows.slot_list_sort ⟨_, hD, rfl⟩ PyProof.Rows.entry_list_sort (list_sort_tree hD hi h64 fun out ns' hI hp hP => ⟨.none, rfl, ?_⟩) (PyProof.Rows.args_list_sort _)
  obtain ⟨e, he⟩ := sortedHeap_at (out := out) hD
  refine h _ out.toList ns' (F.upd (fun b x hb q => ?_) ⟨_, he, rfl, e, by simp⟩) hI hp hP
  exact (sortedHeap_old hb (Heap.lt_size q)).trans q
theorem sortS {D : Addr} {vs : List Value} {ss : List Str} (F : FN w mg mb g₀ h₀ g L s.heap m ((D, isP (seqObj "list" vs.toArray 0)) :: mus)) (hS : StrsAre vs ss) (h64 : vs.length < 64)
    (h : ∀ h' us ss', FN w mg mb g₀ h₀ g L h' m ((D, listP us) :: mus) → StrsAre us ss' → ss'.Perm ss → sortedS ss' = true → Q .none { s with heap := h' }) : wpAny (model Pg w) A (call (.builtin "list.sort") [.ref D]) Q E s := by
  have hD := F.at (.head _)
  refine wpAny_call_entry PyProof.Rows.slot_list_sort ⟨_, hD, rfl⟩ PyProof.Rows.entry_list_sort (list_sort_treeK strKind_oneLt hD hS.keysOf (fun v₁ v₂ rest e => keyKind_strs (by rw [← e]; exact hS)) h64 fun st' hp hs => ⟨.none, rfl, ?_⟩) (PyProof.Rows.args_list_sort _)
  obtain ⟨ss', h1, h2, h3⟩ := sorted_out_str hS hp hs
  obtain ⟨e, he⟩ := sortedHeap_at (out := (arrOf st').map (·.2)) hD
  refine h _ _ ss' (F.upd (fun b x hb q => ?_) ⟨_, he, rfl, e, by rw [Array.toArray_toList]⟩) h1 h2 h3
  exact (sortedHeap_old hb (Heap.lt_size q)).trans q
theorem uniqI {a b : List Int} (p : a.Perm b) (ha : a.Pairwise (· ≤ ·)) (hb : b.Pairwise (· ≤ ·)) : a = b := lks_uniq p ha hb
end
/-! MComp2 -/
section
variable {A : Around} {R : Result → Shared → Prop} {s : Shared} {w : World} {mg mb : Str → Option Value} {g₀ h₀ gs : Heap} {I D C L : Addr} {m₀ : Str → Option Value} {mus₀ : List (Addr × Ob)}
  {fp : List Addr} {n : Nat} {P : Nat → Value → Prop} {St : Nat → Heap → Prop}
/-- the loop of a list comprehension over any walk, without tests -/
theorem compLoopT_FN {elt test iter : PySem.Expr} {x : Str} {px : Pos} {scope : Scope} {pos : Pos} {cenv : Env}
    (W : It w A I fp n P St) (Inv : Nat → Heap → List (Addr × Ob) → List Value → Prop)
    (hC : cenv.locals = C) (hx : cenv.kindOf x = some .local) (hp : (cenv.scope.kind == .class || (cenv.scope.kind == .module && cenv.locals != cenv.globals)) = false)
    (hfp : ∀ b ∈ fp, b = I ∨ (∃ o, gs.get? b = some o) ∨ ∃ o, h₀.get? b = some o) (hn : n ≤ sizeLine) {oI : Obj}
    (F : FN w mg mb g₀ h₀ gs C s.heap m₀ ((I, isP oI) :: (D, listP []) :: mus₀)) (hst : St 0 s.heap) (hI : Inv 0 gs mus₀ [])
    (turn : ∀ (i : Nat) (g h : Heap) (m : Str → Option Value) (mus : List (Addr × Ob)) (ys : List Value) (v : Value) (tk : Tok) (oI : Obj) (E' : Value → Shared → Prop), i < n → P i v → Sub gs g → Inv i g mus ys → ys.length = i →
      FN w mg mb g₀ h₀ g C h (fun y => if y = x then some v else m y) ((I, isP oI) :: (D, listP ys) :: mus) →
      wpAny (model Pg w) A (isTrue test cenv (eval test cenv)) (fun b s'' => b = true ∧ wpAny (model Pg w) A (eval elt cenv) (fun y s' => ∃ g' h' m' mus' tk', s' = { s with heap := h', toks := tk' } ∧ Sub g g' ∧
        FN w mg mb g₀ h₀ g' C h' m' ((I, isP oI) :: (D, listP ys) :: mus') ∧ Inv (i + 1) g' mus' (ys ++ [y])) E' s'') E' { s with heap := h, toks := tk })
    (fin : ∀ (g h : Heap) (m : Str → Option Value) (mus : List (Addr × Ob)) (ys : List Value) (tk : Tok), Sub gs g → Inv n g mus ys → ys.length = n → FN w mg mb g₀ h₀ g C h m ((D, listP ys) :: mus) → R (.ok .next) { s with heap := h, toks := tk }) :
    codeAny (model Pg w) A (.compLoop (.ListComp elt [⟨.Name x px, iter, [test], 0⟩] scope pos) 0 (.ref I) (.ref D) cenv) R s := by
  subst hC
  refine codeAny_compLoop_tests (fun k s' => ∃ i g h m mus ys tk oI, s' = { s with heap := h, toks := tk } ∧ Sub gs g ∧ FN w mg mb g₀ h₀ g cenv.locals h m ((I, isP oI) :: (D, listP ys) :: mus) ∧ St i h ∧ Inv i g mus ys ∧ ys.length = i ∧ i ≤ n ∧ k = n - i)
    ?_ n ⟨0, gs, s.heap, m₀, mus₀, [], s.toks, oI, rfl, Sub.rfl' _, F, hst, hI, rfl, Nat.zero_le _, rfl⟩
  rintro k s' ⟨i, g, h, m, mus, ys, tk, oI, rfl, kg, F, st, hInv, hlen, hin, rfl⟩
  by_cases hlt : i < n
  · refine W.W.item i _ _ _ hlt st fun v h₁ tk₁ hPv st₁ hk₁ => ?_
    obtain ⟨oI₁, F₁⟩ := W.step F st₁ hk₁
    refine wpAny_assign_Name (wpAny_storeName_local hx F₁.ns (fun h₂ hn₂ hs₂ => ?_) hp)
    have F₂ := F₁.set hn₂ hs₂
    have st₂ : St (i + 1) h₂ := W.kept hfp F₁ F₂ kg kg (.head _) (.head _) st₁
    refine wpAny_tests_one (wpAny_mono (turn i g h₂ _ mus ys v _ oI₁ _ hlt hPv kg hInv hlen F₂) (fun b s₃ hb => ?_) fun _ _ e => e)
    obtain ⟨rfl, hb⟩ := hb
    rw [if_pos rfl]
    refine wpAny_mono hb (fun y s₃ h₃ => ?_) fun _ _ e => e
    obtain ⟨g₃, h₃, m₃, mus₃, tk₃, rfl, kg₃, F₃, hI₃⟩ := h₃
    have st₃ : St (i + 1) h₃ := W.kept hfp F₂ F₃ kg (kg.tr kg₃) (.head _) (.head _) st₂
    refine wpAny_list_append (F₃.list (.tail _ (.head _))) (fun h₄ hl₄ hs₄ => ?_) (by simp; omega)
    have F₄ := F₃.swap.upd (P' := listP (ys ++ [y])) (fun b x hb e => (hs₄.2 b hb).trans e) (let ⟨o, ho, hc, n, hd⟩ := hl₄; ⟨o, ho, hc, n, by rw [hd]; simp⟩)
    have st₄ : St (i + 1) h₄ := W.kept hfp F₃ F₄.swap (kg.tr kg₃) (kg.tr kg₃) (.head _) (.head _) st₃
    exact ⟨n - (i + 1), by omega, i + 1, g₃, h₄, m₃, mus₃, ys ++ [y], tk₃, oI₁, rfl, kg.tr kg₃, F₄.swap, st₄, hI₃, by simp [hlen], hlt, rfl⟩
  · have hin' : i = n := by omega
    subst hin'
    refine W.W.done _ _ _ st fun h₁ tk₁ hk₁ => ?_
    exact fin g h₁ m mus ys tk₁ kg hInv hlen (F.drop fun b x hb e => hk₁ b x (by simpa using hb) e)
/-- a list comprehension from its iterator on -/
theorem comp_runT {env : Env} {E : Value → Shared → Prop} {elt test iter : PySem.Expr} {x : Str} {px : Pos} {scope : Scope} {pos : Pos} {cl : List (Str × Addr)} {g : Heap} {m : Str → Option Value} {mus₁ : List (Addr × Ob)} {oI : Obj} {RR : Value → Addr → Result → Shared → Prop}
    (W : It w A I fp n P St) (Inv : Nat → Heap → List (Addr × Ob) → List Value → Prop)
    (hcell : ∀ y ∈ scope.names, y.2 ≠ .cell) (hkind : scope.kind = .function) (hx : scope.names.lookup x = some .local) (hn : n ≤ sizeLine)
    (F : FN w mg mb g₀ h₀ g L s.heap m (((I, isP oI) :: mus₀) ++ mus₁)) (hst : St 0 s.heap) (hI : Inv 0 g mus₀ [])
    (hkeys : ∀ i g mus ys, Inv i g mus ys → ∀ p ∈ mus, ∃ q ∈ mus₀, q.1 = p.1)
    (hfp : ∀ b ∈ fp, b = I ∨ ((∃ o, s.heap.get? b = some o) ∧ ∀ p ∈ mus₀, p.1 ≠ b))
    (turn : ∀ (C : Addr) (i : Nat) (g' h : Heap) (m' : Str → Option Value) (mus : List (Addr × Ob)) (ys : List Value) (D : Addr) (v : Value) (tk : Tok) (oI : Obj) (E' : Value → Shared → Prop), i < n → P i v → Sub g g' → Inv i g' mus ys → ys.length = i → s.heap.get? C = none →
      FN w mg mb g (less s.heap ((I, isP oI) :: mus₀)) g' C h (fun y => if y = x then some v else m' y) ((I, isP oI) :: (D, listP ys) :: mus) →
      wpAny (model Pg w) A (isTrue test (compEnvC scope cl C env) (eval test (compEnvC scope cl C env))) (fun b s'' => b = true ∧ wpAny (model Pg w) A (eval elt (compEnvC scope cl C env)) (fun y s' => ∃ g'' h' m'' mus' tk', s' = { s with heap := h', toks := tk' } ∧ Sub g' g'' ∧
        FN w mg mb g (less s.heap ((I, isP oI) :: mus₀)) g'' C h' m'' ((I, isP oI) :: (D, listP ys) :: mus') ∧ Inv (i + 1) g'' mus' (ys ++ [y])) E' s'') E' { s with heap := h, toks := tk })
    (fin : ∀ (g' h' : Heap) (m' : Str → Option Value) (mus : List (Addr × Ob)) (ys : List Value) (tk : Tok) (D C : Addr), Sub g g' → Inv n g' mus ys → ys.length = n → h'.Ns C m' → FN w mg mb g₀ h₀ g' L h' m ((D, listP ys) :: (mus ++ mus₁)) → g'.get? C = none → h₀.get? C = none → C ≠ L → (∀ p ∈ ((D, listP ys) :: (mus ++ mus₁) : List (Addr × Ob)), p.1 ≠ C) →
      RR (.ref D) C (.ok .next) { s with heap := h', toks := tk }) :
    wpAny (model Pg w) A (newList []) (fun acc s₃ => wpAny (model Pg w) A (newFunctionEnv scope env.globals cl [] env.qual none .none (some env)) (fun cenv s₄ =>
      codeAny (model Pg w) A (.compStart (.ListComp elt [⟨.Name x px, iter, [test], 0⟩] scope pos) 0 (.ref I) acc { cenv with scope := relabel scope env }) (RR acc cenv.locals) s₄) E s₃) E s := by
  refine wpAny_newObj_type (wpAny_newFunctionEnv hcell (by intro y hy; simp at hy) (fun h₁ hns₁ hsb₁ => ?_) hkind)
  dsimp only at hns₁ hsb₁ ⊢
  have less_eq : ∀ o o', less s.heap ((I, isP o) :: mus₀) = less s.heap ((I, isP o') :: mus₀) := fun o o' => by
    unfold less
    have e : (fun b => ∀ p ∈ ((I, isP o) :: mus₀ : List (Addr × Ob)), p.1 ≠ b) = fun b => ∀ p ∈ ((I, isP o') :: mus₀ : List (Addr × Ob)), p.1 ≠ b := by
      funext b
      simp only [List.forall_mem_cons]
    rw [e]
  have hDn : s.heap.get? s.heap.objs.size = none := Heap.get?_none_of_le (Nat.le_refl _)
  have hCn : s.heap.get? (s.heap.push { cls := .type "list", dict := none, data := .seq ([] : List Value).toArray }).objs.size = none := Heap.get?_none_of_le (by rw [Heap.size_push]; omega)
  have hDC : s.heap.objs.size ≠ (s.heap.push { cls := .type "list", dict := none, data := .seq ([] : List Value).toArray }).objs.size := by rw [Heap.size_push]; omega
  generalize hH2 : s.heap.push { cls := .type "list", dict := none, data := .seq ([] : List Value).toArray } = H2 at hns₁ hsb₁ hCn hDC ⊢
  generalize hCc : H2.objs.size = Cc at hns₁ hsb₁ hCn hDC ⊢
  generalize hDd : s.heap.objs.size = Dd at hDn hDC ⊢
  have old : Sub s.heap h₁ := fun b o e => hsb₁.extBut b o (fun q => by rw [q, hCn] at e; cases e) (Heap.get?_push_of_some _ (hH2 ▸ Heap.get?_push_of_some _ e))
  have hD₁ : ∃ o, h₁.get? Dd = some o ∧ listP [] o := ⟨_, hsb₁.extBut _ _ hDC (Heap.get?_push_of_some _ (hH2 ▸ hDd ▸ Heap.get?_push_size _ rfl)), rfl, 0, rfl⟩
  have nm : ∀ p ∈ ((I, isP oI) :: mus₀ : List (Addr × Ob)), g.get? p.1 = none := fun p hp => (F.nw p (List.mem_append_left _ hp)).2.2.1
  have Fc : FN w mg mb g (less s.heap ((I, isP oI) :: mus₀)) g Cc h₁ (fun _ => none) [] := by
    have := FN.start F.G (sub_less F.st nm) hns₁ ((less_sub _ _).tr old) (none_of_sub (less_sub _ _) hCn)
    simpa using this
  -- the objects handed on
  have handed : ∀ mu : List (Addr × Ob), (∀ p ∈ mu, p ∈ ((I, isP oI) :: mus₀ : List (Addr × Ob))) → (mu.Pairwise fun p q => p.1 ≠ q.1) → FN w mg mb g (less s.heap ((I, isP oI) :: mus₀)) g Cc h₁ (fun _ => none) mu := by
    intro mu hm hp
    refine ⟨Fc.toGrow, Fc.gr, Fc.ns, Fc.oL, Fc.gL, fun p hpm => ?_, hp⟩
    obtain ⟨⟨o, ho, hP⟩, r⟩ := F.nw p (List.mem_append_left _ (hm p hpm))
    exact ⟨⟨o, old _ _ ho, hP⟩, (fun q => by rw [q, hCn] at ho; cases ho), r.2.1, less_none (hm p hpm)⟩
  have F₁ := handed ((I, isP oI) :: mus₀) (fun _ h => h) (List.pairwise_append.mp F.nd).1
  have F₂ := F₁.add (P := listP []) hD₁ (fun q => hDC q) (none_of_sub F.st hDn) (none_of_sub (less_sub _ _) hDn)
    (fun q hq e => by obtain ⟨⟨o, ho, _⟩, _⟩ := F.nw q (List.mem_append_left _ hq); rw [e, hDn] at ho; cases ho)
  have hst₁ : St 0 h₁ := W.W.frame _ _ _ hst fun b _ o e => old b o e
  have loop : ∀ s₃ : Shared, s₃ = { s with heap := h₁, toks := s.toks + ([] : List (Str × Value)).length } →
      codeAny (model Pg w) A (.compLoop (.ListComp elt [⟨.Name x px, iter, [test], 0⟩] scope pos) 0 (.ref I) (.ref Dd) (compEnvC scope cl Cc env)) (RR (.ref Dd) Cc) s₃ := by
    rintro s₃ rfl
    refine compLoopT_FN (gs := g) (C := Cc) (h₀ := less s.heap ((I, isP oI) :: mus₀)) (g₀ := g) (mus₀ := mus₀) W Inv rfl (lookup_relabel_local hx) (by simp [compEnvC, relabel, hkind]) (fun b hb => ?_) hn F₂.swap hst₁ hI ?_ ?_
    · rcases hfp b hb with e | ⟨⟨o, ho⟩, hne⟩
      · exact .inl e
      · by_cases q : b = I
        · exact .inl q
        · exact .inr (.inr ⟨o, less_some.mpr ⟨fun p hp => by
            rcases List.mem_cons.mp hp with rfl | hp
            · exact fun e => q e.symm
            · exact hne p hp, ho⟩⟩)
    · intro i g' h m' mus ys v tk oI' E' hi hPv kg hInv hlen F'
      rw [less_eq oI oI'] at F' ⊢
      exact turn Cc i g' h m' mus ys Dd v tk oI' E' hi hPv kg hInv hlen hCn F'
    · intro g' h' m' mus ys tk kg hInv hlen F'
      have hCL : Cc ≠ L := fun q => by obtain ⟨o, _, _, ho, _⟩ := F.ns; rw [q, ho] at hCn; cases hCn
      have Fb := FN.back F F' (fun p hp => by
        rcases List.mem_cons.mp hp with rfl | hp
        · exact .inr hDn
        · obtain ⟨q, hq, e⟩ := hkeys _ _ _ _ hInv p hp
          exact .inl ⟨q, .tail _ hq, e⟩)
      refine fin g' h' m' mus ys tk Dd Cc kg hInv hlen F'.ns Fb F'.gL (none_of_sub F.kh hCn) hCL fun p hp => ?_
      rcases List.mem_append.mp (show p ∈ ((Dd, listP ys) :: mus) ++ mus₁ from hp) with hp | hp
      · exact (F'.nw p hp).2.1
      · intro e; obtain ⟨⟨o, ho, _⟩, _⟩ := F.nw p (List.mem_append_right _ hp); rw [e, hCn] at ho; cases ho
  refine codeAny_compStart_list (loop _ rfl) (W.W.self 0 _ _ _ hst₁ (loop _ rfl))
end
/-! MKeys -/
theorem keys2 {ss : List Str} (h : ss.Perm [("Type" : Str), "Length"]) (hs : sortedS ss = true) : ss = [("Length" : Str), "Type"] := by
  have hl := h.length_eq
  match ss, hl with
  | [a, b], _ =>
    have ha := h.mem_iff.mp (List.Mem.head (a := a) [b])
    have hb := h.mem_iff.mp (List.Mem.tail a (List.Mem.head (a := b) []))
    simp only [List.mem_cons, List.not_mem_nil, or_false] at ha hb
    rcases ha with rfl | rfl <;> rcases hb with rfl | rfl <;> first | rfl | (exfalso; revert h; decide) | (exfalso; revert hs; decide +kernel)
theorem keys3 {ss : List Str} (h : ss.Perm [("Type" : Str), "Length", "Extends"]) (hs : sortedS ss = true) : ss = [("Extends" : Str), "Length", "Type"] := by
  have hl := h.length_eq
  match ss, hl with
  | [a, b, c], _ =>
    have ha := h.mem_iff.mp (List.Mem.head (a := a) [b, c])
    have hb := h.mem_iff.mp (List.Mem.tail a (List.Mem.head (a := b) [c]))
    have hc := h.mem_iff.mp (List.Mem.tail a (List.Mem.tail b (List.Mem.head (a := c) [])))
    simp only [List.mem_cons, List.not_mem_nil, or_false] at ha hb hc
    rcases ha with rfl | rfl | rfl <;> rcases hb with rfl | rfl | rfl <;> rcases hc with rfl | rfl | rfl <;> first | rfl | (exfalso; revert h; decide) | (exfalso; revert hs; decide +kernel)
/-! MTupOps -/
section
variable {A : Around} {E : Value → Shared → Prop} {s : Shared} {w : World} {mg mb : Str → Option Value} {g₀ h₀ g : Heap} {L : Addr} {m : Str → Option Value} {mus : List (Addr × Ob)} {Q : Value → Shared → Prop}
theorem addT {a b : Addr} {vs us : List Value} (F : FN w mg mb g₀ h₀ g L s.heap m mus) (ha : s.heap.IsTuple a vs.toArray) (hb : s.heap.IsTuple b us.toArray) (hn : vs.length + us.length ≤ 1000) (hv : vs ≠ []) (hw : us ≠ [])
    (h : ∀ D h', FN w mg mb g₀ h₀ g L h' m ((D, tupP (vs ++ us)) :: mus) → Q (.ref D) { s with heap := h' }) : wpAny (model Pg w) A (binaryOp .Add (.ref a) (.ref b)) Q E s := by
  obtain ⟨⟨cls, dd, data, sl⟩, ho, hc, n, hd⟩ := id ha
  obtain ⟨⟨cls2, dd2, data2, sl2⟩, ho2, hc2, n2, hd2⟩ := id hb
  simp only at hc hd hc2 hd2
  subst hc hd hc2 hd2
  have e : vs.toArray ++ us.toArray = (vs ++ us).toArray := by simp
  refine concat_meets ⟨_, ho, rfl⟩ ⟨_, ho2, rfl⟩ noFill_tuple_add seq_tuple_add PySem.F.slot_tuple_add PySem.F.entry_tuple_add (PySem.F.args_tuple_add_2 _ _)
    (tuple_addW2 a b vs.toArray us.toArray n n2 dd dd2 sl sl2 (by simpa using hv) (by simpa using hw) (by rw [List.size_toArray, List.size_toArray]; simp only [sizeLine]; omega)) ⟨ho, ho2, ?_⟩
  rw [e]
  exact h _ _ (F.push { cls := .type "tuple", data := .seq (vs ++ us).toArray } (tupP (vs ++ us)) ⟨rfl, 0, rfl⟩)
theorem toTup {a : Addr} {vs : List Value} (F : FN w mg mb g₀ h₀ g L s.heap m mus) (ha : s.heap.IsList a vs.toArray) (hn : vs.length ≤ 1000)
    (h : ∀ D h' tk, FN w mg mb g₀ h₀ g L h' m ((D, tupP vs) :: mus) → Q (.ref D) { s with heap := h', toks := tk }) : wpAny (model Pg w) A (call (.type "tuple") [.ref a]) Q E s := by
  refine call_tuple_list ha (fun h' hk => ?_) (by simp only [List.size_toArray, sizeLine]; omega)
  exact h _ _ _ ((F.keep hk).push { cls := .type "tuple", data := .seq vs.toArray } (tupP vs) ⟨rfl, 0, rfl⟩)
end
theorem keysI {w : World} : ∀ {vs : List Value} {kvs : List (Int × Value)}, vs.length = kvs.length → (∀ (j : Nat) (v : Value), vs[j]? = some v → ∃ k x, kvs[j]? = some (k, x) ∧ (intKind Pg w).is k v = true) → IntsAre vs (kvs.map (·.1))
  | [], [], _, _ => .nil
  | v :: vs, (k, x) :: kvs, hl, h => by
    obtain ⟨k', x', e, hk⟩ := h 0 v rfl
    cases e
    obtain ⟨t, rfl⟩ := Value.isInt_shape hk
    exact .cons _ _ (keysI (w := w) (by simpa using hl) fun j u hu => h (j + 1) u hu)
theorem keysS {w : World} : ∀ {vs : List Value} {kvs : List (Str × Value)}, vs.length = kvs.length → (∀ (j : Nat) (v : Value), vs[j]? = some v → ∃ k x, kvs[j]? = some (k, x) ∧ (PySem.strKind Pg w).is k v = true) → StrsAre vs (kvs.map (·.1))
  | [], [], _, _ => .nil
  | v :: vs, (k, x) :: kvs, hl, h => by
    obtain ⟨k', x', e, hk⟩ := h 0 v rfl
    cases e
    obtain ⟨t, rfl⟩ := Value.isStrOf_shape hk
    exact .cons _ _ (keysS (w := w) (by simpa using hl) fun j u hu => h (j + 1) u hu)
/-! MToldV -/
inductive TV (g : Heap) : Value → PT → Prop
  | int (n : Int) (t : Tok) : TV g (.int n t) (ptInt n)
  | name {a : Addr} {x : Str} (H : IsName g a x) : TV g (.ref a) (ptName x)
  | ref {a : Addr} {v : Int} (H : IsRef g a v) : TV g (.ref a) (ptRef v)
theorem TV.up {g h : Heap} {u : Value} {p : PT} (k : Sub g h) : TV g u p → TV h u p
  | .int n t => .int n t
  | .name H => .name (H.up k)
  | .ref H => .ref (H.up k)
theorem TV.some {g : Heap} {u : Value} {p : PT} : TV g u p → (∃ n t, u = .int n t) ∨ ∃ a, u = .ref a
  | .int n t => .inl ⟨n, t, rfl⟩
  | .name _ => .inr ⟨_, rfl⟩
  | .ref _ => .inr ⟨_, rfl⟩
def ptOf (l : Option Int) (kd : Int) (key : Str) : PT :=
  if key = "Type" then (if kd = 0 then ptName "ObjStm" else if kd = 1 then ptRef 50 else ptName "XRef")
  else if key = "Length" then ptInt 0
  else match l with
    | none => ptInt 0
    | some v => if 0 < v then ptRef v else ptInt 7
def headKeys : Option Int → List Str
  | none => [("Length" : Str), "Type"]
  | some _ => [("Extends" : Str), "Length", "Type"]
def ptHead (l : Option Int) (kd : Int) : PT := .tup (.str "dict" :: (headKeys l).map fun key => .tup [.str key, ptOf l kd key])
theorem head_val {g : Heap} {ty : Addr} {tk : Tok} {ex : List (Str × Value)} {l : Option Int} {kd : Int} (hty : TypeW g ty kd) (hex : ExtW g ex l) {key : Str} (hk : key ∈ headKeys l) :
    ∃ u, valueAt ([(("Type" : Str), Value.ref ty), (("Length" : Str), .int 0 tk)] ++ ex) key = some u ∧ TV g u (ptOf l kd key) := by
  have hT : TV g (.ref ty) (ptOf l kd "Type") := by
    unfold ptOf
    rw [if_pos rfl]
    unfold TypeW at hty
    by_cases c0 : kd = 0
    · rw [if_pos c0] at hty ⊢; exact .name hty
    · rw [if_neg c0] at hty ⊢
      by_cases c1 : kd = 1
      · rw [if_pos c1] at hty ⊢; exact .ref hty
      · rw [if_neg c1] at hty ⊢; exact .name hty
  have hL : TV g (.int 0 tk) (ptOf l kd "Length") := by
    unfold ptOf
    rw [if_neg (by decide), if_pos rfl]
    exact .int 0 tk
  cases l with
  | none =>
    simp only [headKeys, List.mem_cons, List.not_mem_nil, or_false] at hk
    rcases hk with rfl | rfl
    · exact ⟨_, rfl, hL⟩
    · exact ⟨_, rfl, hT⟩
  | some v =>
    obtain ⟨u, rfl, hu⟩ := hex
    simp only [headKeys, List.mem_cons, List.not_mem_nil, or_false] at hk
    rcases hk with rfl | rfl | rfl
    · refine ⟨u, rfl, ?_⟩
      unfold ptOf
      rw [if_neg (by decide), if_neg (by decide)]
      dsimp only
      by_cases c : 0 < v
      · rw [if_pos c] at hu ⊢
        obtain ⟨r, rfl, hr⟩ := hu
        exact .ref hr
      · rw [if_neg c] at hu ⊢
        obtain ⟨t, rfl⟩ := hu
        exact .int 7 t
    · exact ⟨_, rfl, hL⟩
    · exact ⟨_, rfl, hT⟩
section
variable {A : Around} {E : Value → Shared → Prop} {s : Shared} {w : World} {mg mb : Str → Option Value} {g₀ h₀ g : Heap} {L : Addr} {m : Str → Option Value} {mus : List (Addr × Ob)} {Q : Value → Shared → Prop}
theorem told_FN {u : Value} {p : PT} (F : FN w mg mb g₀ h₀ g L s.heap m mus) (hd : A.depth + 10 < recursionLimit) (H : TV g u p)
    (h : ∀ g' h' tk b, FN w mg mb g₀ h₀ g' L h' m mus → Sub g g' → (∀ d, Rep g' (d + 1) p (.ref b)) → Q (.ref b) { s with heap := h', toks := tk }) : wpAny (model Pg w) A (call (.ref 277) [u]) Q E s := by
  cases H with
  | int n t => exact wpAny_call (told_int F.G F.st hd fun _ _ _ _ W hb => h _ _ _ _ (F.after W) W.kg hb)
  | name H => exact wpAny_call (told_name F.G F.st hd H fun _ _ _ _ W hb => h _ _ _ _ (F.after W) W.kg hb)
  | ref H => exact wpAny_call (told_ref F.G F.st hd H fun _ _ _ _ W hb => h _ _ _ _ (F.after W) W.kg hb)
end
section
variable {w : World} {mg mb : Str → Option Value} {g₀ h₀ g h : Heap} {L : Addr} {m : Str → Option Value} {mus : List (Addr × Ob)}
end
theorem strs_get : ∀ {vs : List Value} {ss : List Str} {i : Nat}, StrsAre vs ss → i < vs.length → ∃ x t, vs[i]? = some (.str x t) ∧ ss[i]? = some x
  | _, _, i, .nil, h => absurd h (Nat.not_lt_zero _)
  | _, _, 0, .cons _ _ _, _ => ⟨_, _, rfl, rfl⟩
  | _, _, i + 1, .cons _ _ r, h => by simpa using strs_get r (Nat.lt_of_succ_lt_succ h)
/-! MToldD -/
set_option maxHeartbeats 1000000 in
theorem told_dict {A : Around} {s : Shared} {w : World} {mg mb : Str → Option Value} {g : Heap} {R : Result → Shared → Prop} {d : Addr} {l : Option Int} {kd : Int}
    (G : Gr w mg mb g) (k : Sub g s.heap) (hd : A.depth + 20 < recursionLimit) (hh : A.handled = none) (H : HeadIs w g d l kd)
    (hR : ∀ g' h' t' b, Grow g s.heap g' h' → (∀ q, Rep g' (q + 3) (ptHead l kd) (.ref b)) → R (.ok (.ret (.ref b))) { s with heap := h', toks := t' }) :
    codeAny (model Pg w) A (.call (.ref 277) ⟨[.ref d], []⟩) R s := by
  obtain ⟨H', Z, hH⟩ := kitHead H
  obtain ⟨hsys, ty, tk0, ex, hty, hex, hdd⟩ := H
  have hkl : ([(("Type" : Str), Value.ref ty), (("Length" : Str), .int 0 tk0)] ++ ex).length ≤ 60 := by
    cases l with
    | none => rw [show ex = [] from hex]; simp
    | some v => obtain ⟨u, rfl, _⟩ := hex; simp
  refine' enterC (B := s.heap) (binds := [(Str.ofString "value", .ref d)]) (cn := Str.ofString "value") (cv := (.ref d)) G k (Sub.rfl' _) ?hroom ?ho ?hcd ?hbind ?hcells ?hkind ?hcv ?hco ?hgen ?hk ?_
  case hroom => omega
  case ho => exact rfl
  case hcd => exact rfl
  case hbind => exact rfl
  case hcells => intro n; exact rfl
  case hkind => intro x hx; rw [List.mem_singleton.mp hx]; exact .inr ⟨rfl, rfl⟩
  case hcv => intro L; exact rfl
  case hco => exact rfl
  case hgen => exact rfl
  case hk => exact rfl
  intro L h₁ tkC A₁ cC F k₁ hL D
  have hdep := D.depth
  have hA1 : A₁.handled = none := D.handled.trans hh
  obtain ⟨gC, F, kgC, hfC⟩ := F.freezeAll
  have hcC : gC.IsCell cC (some (.ref d)) := let ⟨o, ho, q⟩ := hfC _ (.head _); ⟨o, ho, q⟩
  repeat' tb_rel
  rename FN _ _ _ _ _ _ _ _ _ _ => F
  refine wpAny_call (kind_dict F.G F.st (by omega) Z (fun h q => hH h (kgC.tr q)) fun h' t' tk W => ?_)
  have F := F.after W
  clear W
  dsimp only
  repeat' tb_rel
  rename FN _ _ _ _ _ _ _ _ _ _ => F
  refine sortedD (knd := PySem.strKind Pg w) F hA1 (F.odic hdd) hsys hkl fun SD h₂ tk₂ vs F hvl hvk => ?_
  have hvs := keysS (w := w) hvl hvk
  refine sortS F hvs (by omega) fun h₃ us ss F hus hperm hsort => ?_
  have hss : ss = headKeys l := by
    cases l with
    | none => rw [show ex = [] from hex] at hperm; exact keys2 hperm hsort
    | some v => obtain ⟨u, rfl, _⟩ := hex; exact keys3 hperm hsort
  subst hss
  have hlen3 : (headKeys l).length ≤ 3 := by cases l <;> simp [headKeys]
  have hul := hus.length
  refine iter_list F (F.list (.head _)) fun I h₄ oI F₄ hit hl4 hne _ k₄ => ?_
  dsimp only
  refine comp_runT (mus₀ := []) (It.list hA1 I SD hne _) (fun i g mus ys => mus = [] ∧ ∀ q, RepL g (q + 2) (((headKeys l).take i).map fun key => PT.tup [.str key, ptOf l kd key]) ys) ?cc rfl rfl ?n F₄ ⟨hit, hl4⟩ ⟨rfl, fun _ => .nil⟩ (fun i g mus ys h p hp => by rw [h.1] at hp; cases hp) (fpC hl4 (fun _ hp => nomatch hp)) ?cturn ?cfin
  case cc => decide
  case n => simp [sizeLine]; omega
  case cturn =>
    rintro C i g' h m' mus ys D1 x tk oI1 E' hi hx kg' ⟨rfl, hys⟩ hlen' hCn F'
    have hi : i < us.length := by simpa using hi
    clear F F₄
    obtain ⟨key, tkey, e1, e2⟩ : ∃ key t, us[i]? = some (.str key t) ∧ (headKeys l)[i]? = some key := strs_get hus hi
    have hx : x = .str key tkey := by simp only [List.getElem?_toArray] at hx; rw [e1] at hx; exact (Option.some.inj hx).symm
    subst hx
    obtain ⟨u, hu1, hu2⟩ := head_val (tk := tk0) (hty.up (kgC.tr kg')) (hex.up (kgC.tr kg')) (List.mem_of_getElem? e2)
    have hun := hu2.some
    repeat' tb_rel
    rename FN _ _ _ _ _ _ _ _ _ _ => F
    refine itemD (knd := PySem.strKind Pg w) (k := key) (dicUp hdd (kgC.tr (kg'.tr F.st))) (by simp [PySem.strKind, Value.isStrOf]) hu1 ?_ ?hs1 ?hg1
    case hs1 => with_unfolding_all rfl
    case hg1 => intro _; with_unfolding_all rfl
    rcases hun with ⟨n, t, rfl⟩ | ⟨a, rfl⟩
    all_goals
      repeat' tb_rel
      refine ⟨rfl, ?_⟩
      repeat' tb_rel
      rename FN _ _ _ _ _ _ _ _ _ _ => F
      refine itemD (knd := PySem.strKind Pg w) (k := key) (dicUp hdd (kgC.tr (kg'.tr F.st))) (by simp [PySem.strKind, Value.isStrOf]) hu1 ?_ ?hs2 ?hg2
      case hs2 => with_unfolding_all rfl
      case hg2 => intro _; with_unfolding_all rfl
      repeat' tb_rel
      rename FN _ _ _ _ _ _ _ _ _ _ => F
      refine told_FN F (by omega) hu2 fun g₇ h₇ t₇ b F kg7 hb => ?_
      dsimp only
      repeat' tb_rel
      rename FN _ _ _ _ _ _ _ _ _ _ => F
      obtain ⟨g₈, F, kg8, hf⟩ := FN.freeze (mus := [_]) [_, _] F
      refine ⟨g₈, _, _, [], _, rfl, kg7.tr kg8, F, rfl, fun q => ?_⟩
      rw [List.take_add_one, e2]
      rw [Option.toList_some, List.map_append, List.map_cons, List.map_nil]
      exact (RepL.up (kg7.tr kg8) (hys q)).append (.cons (.tup (tupOfP (hf _ (.head _))) (.cons (.str _ _) (.cons ((hb q).up kg8) .nil))) .nil)
  case cfin =>
    rintro g' h' m' mus ys tk D1 C kg' ⟨rfl, hys⟩ hlen' hCn F' hgC hsC hCL hne1
    clear F F₄
    refine comp_val hCn F' hgC hsC hCL hne1 fun h₆ F => ?_
    dsimp only
    rw [List.take_of_length_le (by simp; omega)] at hys
    have hyl := (hys 0).length
    simp only [List.length_map] at hyl
    repeat' tb_rel
    rename FN _ _ _ _ _ _ _ _ _ _ => F
    refine toTup F (F.list (.head _)) (by omega) fun TT h₇ tk₇ F => ?_
    dsimp only
    repeat' tb_rel
    rename FN _ _ _ _ _ _ _ _ _ _ => F
    refine addT F (F.tup (.tail _ (.tail _ (.tail _ (.head _))))) (F.tup (.head _)) (by simp only [List.length_cons, List.length_nil]; omega) (by simp) (by intro e; rw [e] at hyl; cases l <;> cases hyl) fun ZZ h₈ F => ?_
    obtain ⟨g₉, F, kg9, hf⟩ := F.freezeAll
    refine hR _ _ _ _ F.ret fun q => ?_
    exact .tup (tupOfP (hf _ (.head _))) (.cons (.str _ _) (RepL.up kg9 (hys q)))
/-! MBytes -/
theorem bytes_bytes_slot : typeLookup (.type "bytes") "__bytes__" = pure (some (.builtin "bytes.__bytes__")) := by rw [typeLookup_type, builtinLookup_eq_fast]; kernel_rfl
section
variable {prog : Program} {w : World} {A : Around} {E : Value → Shared → Prop} {s : Shared}
theorem bytes_new {b : Array UInt8} {t : Tok} {Q : Value → Shared → Prop} (hQ : Q (.bytes b t) s) :
    codeAny (model prog w) A (.call (.builtin "bytes.__new__") ⟨[.type "bytes", .bytes b t], []⟩) (wants Q E) s := by
  refine codeAny_of_tree ?_
  show wpAny _ A.in1 (do checkBuiltinCall "bytes.__new__" ⟨[.type "bytes", .bytes b t], []⟩; again (.builtin "bytes.__new__" ⟨[.type "bytes", .bytes b t], []⟩)) _ _ s
  refine wpAny_bind (wpAny_of_eq (F.bm_newCall _) (wpAny_pure ⟨plainId_quiet F.bm_plain _, codeAny_builtin F.bm_entry ?_⟩))
  rw [Around.under_plainId F.bm_plain _]
  have hT : s.TypeIs (.bytes b t) "bytes" := PySem.W.typeIs_bytes _ _ _
  unfold Builtin.«bytes.__new__»
  refine wpAny_bind (wpAny_of_eq (a := true) rfl ?_)
  refine bm_if_false rfl ?_
  refine wpAny_bind (wpAny_of_eq F.bm_sub ?_)
  refine bm_if_false rfl ?_
  refine wpAny_bind (wpAny_of_eq (F.bm_bind _) ?_)
  refine wpAny_bind (wpAny_of_eq (a := ()) rfl ?_)
  refine wpAny_bind (wpAny_of_eq (a := ()) rfl ?_)
  refine bm_if_false rfl ?_
  refine wpAny_bind (wpAny_specialOf hT bytes_bytes_slot ?_)
  dsimp only
  refine wpAny_bind (wpAny_rule ?_)
  refine wpAny_bind (wpAny_of_eq (a := .type "bytes") rfl ?_)
  refine bm_if_true rfl ?_
  show wpAny _ _ (if (Value.type "bytes" == Value.type "bytes") = true then _ else _) _ _ _
  refine bm_if_true (by decide) ?_
  first
    | exact wpAny_pure hQ
    | exact wpAny_bind (wpAny_pure (wpAny_pure hQ))
theorem call_bytes_bytes {b : Array UInt8} {t : Tok} {Q : Value → Shared → Prop} (hQ : Q (.bytes b t) s) : wpAny (model prog w) A (call (.type "bytes") [.bytes b t]) Q E s := by
  refine callType_codes (Q₁ := fun obj s₁ => s₁.TypeIs obj "bytes" ∧ Q obj s₁) F.bm_called (F.bm_typeCall _) F.entry_object_init
    (bytes_new ⟨PySem.W.typeIs_bytes _ _ _, hQ⟩) fun obj s₁ h₁ => ?_
  exact ⟨h₁.1, F.args_object_init_2 obj _, object_init_meets F.bm_called.init.lookup F.bm_called.made (by decide) prog w A.in1 _ s₁ ⟨h₁.1, rfl, h₁.2⟩⟩
end
/-! MToldS -/
set_option maxHeartbeats 1000000 in
theorem told_strm {A : Around} {s : Shared} {w : World} {mg mb : Str → Option Value} {g : Heap} {R : Result → Shared → Prop} {x d : Addr} {l : Option Int} {kd : Int} {bs : Array UInt8} {tb : Tok}
    (G : Gr w mg mb g) (k : Sub g s.heap) (hd : A.depth + 30 < recursionLimit) (hh : A.handled = none) (H1 : Has g x 226 "head" (some (.ref d))) (H2 : Has g x 226 "octets" (some (.bytes bs tb))) (H : HeadIs w g d l kd)
    (hR : ∀ g' h' t' b, Grow g s.heap g' h' → (∀ q, Rep g' (q + 4) (.tup [.str "stream", ptHead l kd, .byt bs]) (.ref b)) → R (.ok (.ret (.ref b))) { s with heap := h', toks := t' }) :
    codeAny (model Pg w) A (.call (.ref 277) ⟨[.ref x], []⟩) R s := by
  obtain ⟨H', Z, hH⟩ := kitStrm (w := w) H1.isI
  refine' enterC (B := s.heap) (binds := [(Str.ofString "value", .ref x)]) (cn := Str.ofString "value") (cv := (.ref x)) G k (Sub.rfl' _) ?hroom ?ho ?hcd ?hbind ?hcells ?hkind ?hcv ?hco ?hgen ?hk ?_
  case hroom => omega
  case ho => exact rfl
  case hcd => exact rfl
  case hbind => exact rfl
  case hcells => intro n; exact rfl
  case hkind => intro x hx; rw [List.mem_singleton.mp hx]; exact .inr ⟨rfl, rfl⟩
  case hcv => intro L; exact rfl
  case hco => exact rfl
  case hgen => exact rfl
  case hk => exact rfl
  intro L h₁ tkC A₁ cC F k₁ hL D
  have hdep := D.depth
  have hA1 : A₁.handled = none := D.handled.trans hh
  obtain ⟨gC, F, kgC, hfC⟩ := F.freezeAll
  have hcC : gC.IsCell cC (some (.ref x)) := let ⟨o, ho, q⟩ := hfC _ (.head _); ⟨o, ho, q⟩
  repeat' tb_rel
  rename FN _ _ _ _ _ _ _ _ _ _ => F
  refine wpAny_call (kind_strm F.G F.st (by omega) Z (fun h q => hH h (kgC.tr q)) fun h' t' tk W => ?_)
  have F := F.after W
  clear W
  dsimp only
  repeat' tb_rel
  rename FN _ _ _ _ _ _ _ _ _ _ => F
  refine wpAny_call (told_dict F.G F.st (by omega) hA1 (H.up kgC) fun g₂ h₂ t₂ b W hb => ?_)
  have F := F.after W
  have kg2 := W.kg
  clear W
  have hcC := cellUp hcC kg2
  dsimp only
  repeat' tb_rel
  refine call_bytes_bytes ?_
  repeat' tb_rel
  rename FN _ _ _ _ _ _ _ _ _ _ => F
  obtain ⟨g₃, F, kg3, hf⟩ := F.freezeAll
  exact hR _ _ _ _ F.ret fun q => .tup (tupOfP (hf _ (.head _))) (.cons (.str _ _) (.cons ((hb q).up kg3) (.cons (.byt _ _) .nil)))
/-! MTup1 -/
section
variable {A : Around} {E : Value → Shared → Prop} {s : Shared} {w : World} {mg mb : Str → Option Value} {g₀ h₀ g : Heap} {L : Addr} {m : Str → Option Value} {mus : List (Addr × Ob)} {Q : Value → Shared → Prop}
/-- a tuple plus an empty one is itself -/
theorem addT1 {a b : Addr} {vs : List Value} (ha : s.heap.IsTuple a vs.toArray) (hb : s.heap.IsTuple b ([] : List Value).toArray) (hv : vs ≠ []) (h : Q (.ref a) s) : wpAny (model Pg w) A (binaryOp .Add (.ref a) (.ref b)) Q E s := by
  obtain ⟨⟨cls, dd, data, sl⟩, ho, hc, n, hd⟩ := id ha
  obtain ⟨⟨cls2, dd2, data2, sl2⟩, ho2, hc2, n2, hd2⟩ := id hb
  simp only at hc hd hc2 hd2
  subst hc hd hc2 hd2
  exact concat_meets ⟨_, ho, rfl⟩ ⟨_, ho2, rfl⟩ noFill_tuple_add seq_tuple_add PySem.F.slot_tuple_add PySem.F.entry_tuple_add (PySem.F.args_tuple_add_2 _ _)
    (tuple_addW1 a b vs.toArray _ n n2 dd dd2 sl sl2 (by simpa using hv) (by simp)) ⟨ho, ho2, h⟩
end
/-- a value of the shelf that tells p -/
inductive TW (w : World) (g : Heap) : Value → PT → Prop
  | tv {u : Value} {p : PT} (h : TV g u p) : TW w g u p
  | head {d : Addr} {l : Option Int} {kd : Int} (H : HeadIs w g d l kd) : TW w g (.ref d) (ptHead l kd)
  | strm {x d : Addr} {l : Option Int} {kd : Int} {bs : Array UInt8} {tb : Tok} (H1 : Has g x 226 "head" (some (.ref d))) (H2 : Has g x 226 "octets" (some (.bytes bs tb))) (H : HeadIs w g d l kd) :
      TW w g (.ref x) (.tup [.str "stream", ptHead l kd, .byt bs])
theorem TW.up {w : World} {g h : Heap} {u : Value} {p : PT} (k : Sub g h) : TW w g u p → TW w h u p
  | .tv a => .tv (a.up k)
  | .head H => .head (H.up k)
  | .strm a b c => .strm (a.up k) (b.up k) (c.up k)
theorem toldW_FN {A : Around} {E : Value → Shared → Prop} {s : Shared} {w : World} {mg mb : Str → Option Value} {g₀ h₀ g : Heap} {L : Addr} {m : Str → Option Value} {mus : List (Addr × Ob)} {Q : Value → Shared → Prop} {u : Value} {p : PT}
    (F : FN w mg mb g₀ h₀ g L s.heap m mus) (hd : A.depth + 30 < recursionLimit) (hh : A.handled = none) (H : TW w g u p)
    (h : ∀ g' h' tk b, FN w mg mb g₀ h₀ g' L h' m mus → Sub g g' → (∀ q, Rep g' (q + 4) p (.ref b)) → Q (.ref b) { s with heap := h', toks := tk }) : wpAny (model Pg w) A (call (.ref 277) [u]) Q E s := by
  cases H with
  | tv H => exact told_FN F (by omega) H fun g' h' tk b F k hb => h g' h' tk b F k fun q => hb (q + 3)
  | head H => exact wpAny_call (told_dict F.G F.st (by omega) hh H fun _ _ _ _ W hb => h _ _ _ _ (F.after W) W.kg fun q => hb (q + 1))
  | strm H1 H2 H => exact wpAny_call (told_strm F.G F.st hd hh H1 H2 H fun _ _ _ _ W hb => h _ _ _ _ (F.after W) W.kg hb)
/-- what the entry j of the table tells -/
def keyAt (ls : List (Option Int)) (j : Nat) : Int := if j < ls.length then (j : Int) + 1 else 50
def ptAt (ls : List (Option Int)) (ks : List Int) (j : Nat) : PT :=
  if j < ls.length then (if (ks[j]?).getD 0 = 3 then ptHead ((ls[j]?).getD none) ((ks[j]?).getD 0) else .tup [.str "stream", ptHead ((ls[j]?).getD none) ((ks[j]?).getD 0), .byt (byteArr [65 + (j : Int)])]) else ptName "ObjStm"
def ptRow (ls : List (Option Int)) (ks : List Int) (j : Nat) : PT := .tup [.int (keyAt ls j), .int 0, ptAt ls ks j]
def ptShelf (ls : List (Option Int)) (ks : List Int) : PT := .tup [.tup ((List.range (ls.length + 1)).map (ptRow ls ks)), .tup [.str "dict"]]
def keysOf (ls : List (Option Int)) : List Int := (List.range (ls.length + 1)).map (keyAt ls)
theorem shelf_ent {w : World} {g : Heap} {x : Addr} {ls : List (Option Int)} {ks : List Int} {td tr nt nm : Addr} {ts : List Addr} (S : ShelfIs w g x ls ks td tr nt nm ts) (hl : ls.length ≤ 6) {j : Nat} (hj : j < ls.length + 1) :
    ∃ t u tk, valueAt (tabFrom 1 ts ++ [(50, .ref nt)]) (keyAt ls j) = some (.ref t) ∧ g.IsTuple t [.int 0 tk, u].toArray ∧ TW w g u (ptAt ls ks j) := by
  have hlt := S.lt
  have hlk := S.lk
  have hg := tabFrom_get ts nt (v := keyAt ls j) (by omega)
  unfold keyAt at hg ⊢
  unfold ptAt
  by_cases c : j < ls.length
  · rw [if_pos c] at hg ⊢
    rw [if_pos c, hg, if_pos (by omega), show ((j : Int) + 1 - 1).toNat = j by omega]
    have hi : j < ts.length := by omega
    rw [List.getElem?_eq_getElem hi]
    have hgl := List.getElem?_eq_getElem c
    have hgk := List.getElem?_eq_getElem (show j < ks.length by omega)
    obtain ⟨y, tk, ht, hv⟩ := S.ents _ _ _ _ (List.getElem?_eq_getElem hi) hgl hgk
    refine ⟨_, _, tk, rfl, ht, ?_⟩
    rw [hgl, hgk]
    simp only [Option.getD_some]
    unfold ValIs at hv
    by_cases c3 : ks[j] = 3
    · rw [if_pos c3] at hv ⊢; exact .head hv
    · rw [if_neg c3] at hv ⊢
      obtain ⟨d, tk', h1, h2, h3⟩ := hv
      exact .strm h1 h2 h3
  · rw [if_neg c] at hg ⊢
    rw [if_neg c, hg, if_neg (by omega), if_pos rfl]
    obtain ⟨tk, h50⟩ := S.n50
    exact ⟨_, _, tk, rfl, h50, .tv (.name S.name)⟩
theorem tabFrom_fst (i : Int) : ∀ ts : List Addr, (tabFrom i ts).map (·.1) = (List.range ts.length).map fun j : Nat => i + (j : Int)
  | [] => rfl
  | t :: ts => by
    rw [tabFrom, List.map_cons, tabFrom_fst (i + 1) ts, List.length_cons, List.range_succ_eq_map, List.map_cons, List.map_map]
    congr 1
    · simp
    · apply List.map_congr_left
      intro a _
      simp only [Function.comp]
      push_cast
      omega
theorem keys_shelf {ls : List (Option Int)} {ts : List Addr} {nt : Addr} (h : ts.length = ls.length) : (tabFrom 1 ts ++ [((50 : Int), Value.ref nt)]).map (·.1) = keysOf ls := by
  unfold keysOf
  rw [List.map_append, tabFrom_fst, h, List.range_succ, List.map_append]
  congr 1
  · apply List.map_congr_left
    intro a ha
    have := List.mem_range.mp ha
    unfold keyAt
    rw [if_pos this]; omega
  · unfold keyAt; simp
theorem keysOf_sorted {ls : List (Option Int)} (hl : ls.length ≤ 6) : (keysOf ls).Pairwise (· ≤ ·) := by
  unfold keysOf
  rw [List.pairwise_map]
  refine List.Pairwise.imp_of_mem ?_ (List.pairwise_lt_range (n := ls.length + 1))
  intro a b ha hb hab
  have ha := List.mem_range.mp ha
  have hb := List.mem_range.mp hb
  unfold keyAt
  split <;> split <;> omega
/-! MHeard -/
/-- what a call of ask does, from the state s on -/
def Asks (w : World) (s : Shared) (g : Heap) (n : Nat) (ask : Addr) (OK : Heap → Value → Prop) (bad : Prop) : Prop :=
  ∀ (A' : Around) (s' : Shared) (B' : Heap) (lf' : List Env) (R' : Result → Shared → Prop), A'.depth + n < recursionLimit → A'.handled = none → A'.frames = some lf' → Sub s.heap s'.heap → Sub g B' → Sub B' s'.heap → s'.heap.FunFrames B' lf' →
    (∀ g'' h'' t'' v, Grow g s'.heap g'' h'' → OK g'' v → R' (.ok (.ret v)) { s' with heap := h'', toks := t'' }) →
    (bad → ∀ h' t' e, Fly B' lf' e h' → s'.heap.UpToSlots h' → R' (.error (.ref e)) { s' with heap := h', toks := t' }) →
    codeAny (model Pg w) A' (.call (.ref ask) ⟨[], []⟩) R' s'
/-- the frame's own clause takes the exception -/
theorem caughtX {A : Around} {E : Value → Shared → Prop} {s : Shared} {w : World} {mg mb : Str → Option Value} {g B : Heap} {env : Env} {outer : List Env} {e L : Addr} {Q : Flow → Shared → Prop} {np pos : Pos} {b₀ : Stmt} {suite : List Stmt} {rest : List ExceptHandler}
    (G : Gr w mg mb g) (kB : Sub g B) (hfr : A.frames = some (env :: outer)) (hf : env.frame = some L) (H : Fly B (env :: outer) e s.heap)
    (hk : env.scope.kind = .function) (hg : env.globals = mainGlobals) (hx : env.kindOf "CrossFault" = some .globalImplicit)
    (k : ∀ h' E', Sub B h' → s.heap.UpToSlots h' → wpAny (model Pg w) (A.mark (some (.ref e))) (execs (b₀ :: suite) env) Q E' { s with heap := h' }) :
    wpAny (model Pg w) A (noteFrame (.ref e) env)
      (fun _ s₂ => wpAny (model Pg w) A (setFlight (.ref e) none) (fun _ s₃ =>
        wpAny (model Pg w) A (handleBy (.ref e) env (.ExceptHandler (some (.Name "CrossFault" np)) none (b₀ :: suite) pos :: rest)) Q E s₃) E s₂) E s := by
  obtain ⟨a0, H⟩ := H
  refine wpAny_looks_onW hfr hf H fun h₄ hheld₄ hsm₄ => ?_
  refine wpAny_landsW hheld₄ fun h₅ hheld hsm₅' => ?_
  have hsm₅ := hsm₄.trans hsm₅'
  have k5 : Sub B h₅ := hheld.1
  have G5 := G.keeps (kB.tr k5)
  obtain ⟨ob, hob, hobc⟩ := hheld.there
  refine wpAny_handleBy_cons (codeAny_handlers_test (Name_function_global hk hx (loadGlobal_global (env := env) (hg ▸ G5.g) (mg_of (v := .ref 59) G5.X G5.g (by exact rfl)) ?_) (by decide))) (by intro q; cases q)
  obtain ⟨nm, q, N, bs, hdct, sn, sub, ab, col, dd, k0, k1, k2, k3, k5', hC⟩ := cls59 G5.X
  refine wpAny_excMatches_sub_self hC hob hobc (by simp) (codeAny_handlers_suite ?_)
  refine lands_againW hheld fun h₆ hfl₆ hsm₆ => ?_
  exact k h₆ _ hfl₆.1 (hsm₅.trans hsm₆)
set_option maxHeartbeats 1000000 in
theorem heard_spec {A : Around} {s : Shared} {w : World} {mg mb : Str → Option Value} {g B : Heap} {R : Result → Shared → Prop} {ask : Addr} {lf : List Env} {OK : Heap → Value → Prop} {bad : Prop} {n : Nat}
    (G : Gr w mg mb g) (k : Sub g s.heap) (hd : A.depth + n + 5 < recursionLimit) (hh : A.handled = none) (hfr : A.frames = some lf) (hgB : Sub g B) (hB : Sub B s.heap) (hF : s.heap.FunFrames B lf)
    (hfn : FnAt ask s.heap) (hask : Asks w s g n ask OK bad)
    (hok : ∀ g' h' t' v, Grow g s.heap g' h' → OK g' v → R (.ok (.ret v)) { s with heap := h', toks := t' })
    (hbad : bad → ∀ h' t', Sub B h' → s.heap.UpToSlots h' → R (.ok (.ret .none)) { s with heap := h', toks := t' }) :
    codeAny (model Pg w) A (.call (.ref 424) ⟨[.ref ask], []⟩) R s := by
  refine' enter (B := s.heap) (binds := [(Str.ofString "ask", .ref ask)]) G k (Sub.rfl' _) ?hroom ?ho ?hcd ?hbind ?hloc ?hcell ?hco ?hgen ?hk ?_
  case hroom => omega
  case ho => exact rfl
  case hcd => exact rfl
  case hbind => exact BindsTo.of_eq rfl
  case hloc => exact locs rfl
  case hcell => decide
  case hco => exact rfl
  case hgen => exact rfl
  case hk => exact rfl
  intro L h₁ A₁ F k₁ hL D
  have hdep := D.depth
  have hfrA := D.frames
  rw [hfr, Option.map_some] at hfrA
  have hBL : B.get? L = none := none_of_sub hB hL
  have hA1 : A₁.handled = none := D.handled.trans hh
  repeat' ((fail_if_success (with_reducible show wpAny _ _ (exec (Stmt.Try _ _ _ _ _) _) _ _ _)); tb_rel)
  refine wpAny_Try_except ?_
  repeat' tb_rel
  rename FN _ _ _ _ _ _ _ _ _ _ => F
  refine callWith_F0 (FnAt.up hfn F.kh) ?_
  dsimp only [List.nil_append]
  refine wpAny_call (hask _ _ B _ _ (by omega) hA1 hfrA F.kh hgB (hB.tr F.kh) (Heap.FunFrames.cons (by intro q; cases q) rfl F.ns hBL (hF.of_keeps fun b o q _ => ⟨o, F.kh _ _ q, rfl⟩)) ?ok ?bad)
  case ok =>
    intro g₂ h₂ t₂ v W hv
    have F := F.after W
    dsimp only
    exact hok _ _ _ _ F.ret hv
  case bad =>
    intro hb h' t' e H u
    dsimp only
    refine caughtX (s := { s with heap := h', toks := t' }) G hgB hfrA rfl H rfl rfl rfl fun h₂ E' kB2 u2 => ?_
    refine wpAny_execs_cons ?_
    refine wpAny_Return_some (wpAny_Constant_none ?_)
    exact hbad hb _ _ kB2 ((Heap.UpToSlots.of_keeps F.kh).trans (u.trans u2))
/-! MLam -/
theorem codeAmong_app {pos : Pos} {a b : Int} {c cv : Value} (l : List Value) (h : TriplesOk l) (e : codeAmong pos (l ++ [rawInt a, rawInt b, c]) = some cv) : codeAmong pos l = some cv ∨ cv = c := by
  fun_induction TriplesOk l with
  | case1 =>
    simp only [List.nil_append, codeAmong, rawInt] at e
    split at e
    · exact .inr (Option.some.inj e).symm
    · cases e
  | case2 a t b u x rest ih =>
    simp only [List.cons_append, codeAmong] at e ⊢
    split
    · rename_i hc; rw [if_pos hc] at e; exact .inl e
    · rename_i hc; rw [if_neg hc] at e; exact ih h e
  | case3 l h1 h2 => exact h.elim
abbrev tabP (g : Heap) (qual : Str) : Ob := fun o => ∃ ps, o = tabObj ps ∧ TriplesOk ps.toList ∧ ∀ pos cv, codeAmong pos ps.toList = some cv → ∃ c', cv = .ref c' ∧ g.CodeRec (.ref c') qual
theorem codeRecUp {g h : Heap} {v : Value} {q : Str} (H : g.CodeRec v q) (k : Sub g h) : h.CodeRec v q := let ⟨c, oc, vs, t, a, b, r⟩ := H; ⟨c, oc, vs, t, a, k _ _ b, r⟩
theorem tabP.up {g g' : Heap} {q : Str} (k : Sub g g') (o : Obj) : tabP g q o → tabP g' q o
  | ⟨ps, a, b, c⟩ => ⟨ps, a, b, fun pos cv e => let ⟨c', e1, e2⟩ := c pos cv e; ⟨c', e1, codeRecUp e2 k⟩⟩
abbrev lamObj (name qual : Str) (params : Arguments) (body : PySem.Expr) (scope : Scope) (clos : List (Str × Addr)) (pm cdv ctv : Value) : Obj :=
  { cls := .type "function", data := .func (kla_fn name qual params body scope clos pm cdv ctv) }
section
variable {A : Around} {E : Value → Shared → Prop} {s : Shared} {w : World} {mg mb : Str → Option Value} {g₀ h₀ g : Heap} {L c P : Addr} {m : Str → Option Value} {mus₁ mus₂ : List (Addr × Ob)}
  {params : Arguments} {body : PySem.Expr} {scope : Scope} {env : Env} {pos : Pos} {clos : List (Str × Addr)} {qual : Str} {Q : Value → Shared → Prop}
theorem mkLam (mus₁ : List (Addr × Ob)) (F : FN w mg mb g₀ h₀ g L s.heap m (mus₁ ++ (P, tabP g qual) :: mus₂)) (C : CodeHd g c P) (hcode : env.code = .ref c) (hge0 : env.globals = mainGlobals) (hcl : closureFor scope env = pure clos)
    (hdef : defaultsOf params env = ([], [])) (hq : env.qual ++ "<lambda>" = qual)
    (h : ∀ g' h' tk f pm cdv ctv, FN w mg mb g₀ h₀ g' L h' m (mus₁ ++ (P, tabP g' qual) :: mus₂) → Sub g g' → g'.get? f = some (lamObj "<lambda>" qual params body scope clos pm cdv ctv) → g'.CodeRec cdv qual → Q (.ref f) { s with heap := h', toks := tk }) :
    wpAny (model Pg w) A (eval (.Lambda params body scope pos) env) Q E s := by
  refine kla_eval hdef ?_
  rw [hq]
  have F1 : FN w mg mb g₀ h₀ g L s.heap m ((P, tabP g qual) :: (mus₁ ++ mus₂)) := F.perm (List.perm_middle.symm)
  obtain ⟨⟨o, ho, ps, rfl, ht, hcv⟩, hPL, hgP, h0P⟩ := F1.nw _ (.head _)
  have G := F.G
  have hgs := F.GH.g
  obtain ⟨bm, ob, b1, b2, b3, b4, b5, b6⟩ := G.bmain
  have hgP : mainGlobals ≠ P := fun q => by
    obtain ⟨o, es, ep, e, hd, _⟩ := hgs
    rw [q, ho] at e; cases e; cases hd
  have hbP : bm ≠ P := fun q => by
    have e := F.st _ _ b3
    rw [q, ho] at e; cases e; cases b4
  have hbG : bm ≠ mainGlobals := fun q => by
    obtain ⟨o, es, ep, e, hd, _⟩ := G.g
    rw [q, e] at b3; cases b3; rw [hd] at b6; cases b6
  have hB : s.heap.BuiltinsAt mg P := ⟨bm, ob, b1, b2, hbG, hbP, F.st _ _ b3, b4, b5, b6⟩
  have CH : CodeHd s.heap c P := C.keeps F.st
  have ltm : ∀ q ∈ ((P, tabP g qual) :: (mus₁ ++ mus₂) : List (Addr × Ob)), q.1 < s.heap.objs.size := fun q hq => let ⟨⟨o, e, _⟩, _⟩ := F1.nw q hq; Heap.lt_size e
  cases hf : codeAmong pos ps.toList with
  | none =>
    refine kla_makeFunction (mg := mg) hcl hge0 hgs hcode CH ho ht hf hgP hB fun c' ctv h' tk hx hge hlt hrec htb => ?_
    have hrec' := hrec
    obtain ⟨c₂, oc, vs, t, e2, hoc, hd, hv⟩ := hrec'
    cases e2
    have fr := F.fresh hge
    have F2 := F1.upd (P' := isP (tabObj (ps ++ #[rawInt pos.line, rawInt pos.col, .ref c']))) (h' := h') (fun b x hb e => hx b x hb e) ⟨_, htb, rfl⟩
    have F3 := F2.add (p := c') (P := isP oc) ⟨_, hoc, rfl⟩ (Nat.ne_of_gt (Nat.lt_of_lt_of_le F.ltL hge)) fr.2.1 fr.2.2 (fun q hq => by
      rcases List.mem_cons.mp hq with rfl | hq
      · exact Nat.ne_of_lt (Nat.lt_of_lt_of_le (ltm (P, tabP g qual) (.head _)) hge)
      · exact Nat.ne_of_lt (Nat.lt_of_lt_of_le (ltm q (.tail _ hq)) hge))
    have F4 := F3.push (lamObj "<lambda>" qual params body scope clos ((mg "__name__").getD .none) (.ref c') ctv) (isP _) rfl
    obtain ⟨g', F5, kg, hfz⟩ := FN.freeze (mus := [_, _]) ((P, isP (tabObj (ps ++ #[rawInt pos.line, rawInt pos.col, .ref c']))) :: (mus₁ ++ mus₂)) F4
    obtain ⟨_, q1, rfl⟩ := hfz _ (.head _)
    obtain ⟨_, q2, rfl⟩ := hfz _ (.tail _ (.head _))
    have hrg : g'.CodeRec (.ref c') qual := ⟨c', _, vs, t, rfl, q2, hd, hv⟩
    refine h g' _ tk _ _ _ ctv ((F5.weak (P' := tabP g' qual) ?_).perm List.perm_middle) kg q1 hrg
    rintro o rfl
    refine ⟨_, rfl, ?_, fun pos' cv e => ?_⟩
    · simpa using TriplesOk_snoc pos.line pos.col (.ref c') ps.toList ht
    · rcases codeAmong_app (a := pos.line) (b := pos.col) (c := .ref c') ps.toList ht (by simpa using e) with e | rfl
      · obtain ⟨c₃, e1, e2⟩ := hcv pos' cv e
        exact ⟨c₃, e1, codeRecUp e2 kg⟩
      · exact ⟨c', rfl, hrg⟩
  | some cv =>
    obtain ⟨c', rfl, hrec⟩ := hcv pos cv hf
    refine kla_makeFunctionHit (mg := mg) hcl hge0 hgs hcode CH ho ht hf hB fun ctv h' tk hk hsz => ?_
    have F2 := F1.keep hk
    have F4 := F2.push (lamObj "<lambda>" qual params body scope clos ((mg "__name__").getD .none) (.ref c') ctv) (isP _) rfl
    obtain ⟨g', F5, kg, hfz⟩ := FN.freeze (mus := [_]) ((P, tabP g qual) :: (mus₁ ++ mus₂)) F4
    obtain ⟨_, q1, rfl⟩ := hfz _ (.head _)
    exact h g' _ tk _ _ _ ctv ((F5.weak (tabP.up kg)).perm List.perm_middle) kg q1 (codeRecUp hrec kg)
/-- the entry of a lambda without cells of its own -/
theorem enterE {B : Heap} {R : Result → Shared → Prop} {name : Str} {pm cdv ctv : Value} {f : Addr} {args : Args} {binds : List (Str × Value)} (G : Gr w mg mb g) (k : Sub g B) (kB : Sub B s.heap) (hroom : A.depth < recursionLimit)
    (ho : s.heap.get? f = some (lamObj name qual params body scope clos pm cdv ctv)) (hcd : s.heap.CodeRec cdv qual)
    (hbind : bindArgs (kla_fn name qual params body scope clos pm cdv ctv) args = pure binds) (hloc : ∀ y ∈ binds, scope.names.lookup y.1 = some .local)
    (hcell : ∀ x ∈ scope.names, x.2 ≠ .cell)
    (hco : scope.isCoroutine = false) (hgen : scope.isGenerator = false) (hk : scope.kind = .function)
    (h : ∀ L h₁ A₁, FN w mg mb g B g L h₁ (fun y => binds.reverse.lookup y) [] → Sub s.heap h₁ → s.heap.get? L = none → Deep A (envX qual scope L f cdv clos) A₁ →
      wpAny (model Pg w) A₁ (eval body (envX qual scope L f cdv clos))
        (fun v s' => R (.ok (.ret v)) s')
        (fun e s' => wpAny (model Pg w) A₁ (leaving (envX qual scope L f cdv clos) e) (fun _ s'' => R (.error e) s'') (fun e' s'' => R (.error e') s'') s')
        { s with heap := h₁, toks := s.toks + binds.length }) : codeAny (model Pg w) A (.call (.ref f) args) R s := by
  have hL : s.heap.get? s.heap.objs.size = none := Heap.get?_none_of_le (Nat.le_refl _)
  refine kla_callFunE hroom ho rfl hco hgen rfl hcd ?_
  rw [hbind]
  refine wpAny_pure (wpAny_newFunctionEnv hcell hloc (fun h₁ hns hsb => ⟨((G.nolimit).keeps (k.tr kB)).fresh _ hsb, ?_⟩) hk)
  show codeAny _ _ (.expr body (envX qual scope s.heap.objs.size f cdv clos)) _ _
  have hk₁ : Sub s.heap h₁ := fun b o e => hsb.extBut b o (Nat.ne_of_lt (Heap.lt_size e)) (Heap.get?_push_of_some _ e)
  exact kla_codeExpr (h _ h₁ _ (FN.start G k hns (kB.tr hk₁) (none_of_sub kB hL)) hk₁ hL ⟨rfl, rfl, rfl, rfl, rfl⟩)
end
/-! MCells -/
section
variable {A : Around} {R : Result → Shared → Prop} {s : Shared} {w : World} {mg mb : Str → Option Value} {g₀ h₀ gs : Heap} {I D C L cc : Addr} {m₀ : Str → Option Value} {mus₀ : List (Addr × Ob)}
  {fp : List Addr} {n : Nat} {P : Nat → Value → Prop} {St : Nat → Heap → Prop}
/-- a cell of the frame is stored into -/
theorem sC {g : Heap} {m : Str → Option Value} {x : Str} {v : Value} {v₀ : Option Value} {E : Value → Shared → Prop} {Q : Unit → Shared → Prop} {env : Env} (mus₁ : List (Addr × Ob)) {mus₂ : List (Addr × Ob)} (F : FN w mg mb g₀ h₀ g L s.heap m (mus₁ ++ (cc, cellP v₀) :: mus₂))
    (hk : env.scope.kind = .function) (hl : env.kindOf x = some .cell) (hc : env.cells.lookup x = some cc)
    (h : ∀ h', FN w mg mb g₀ h₀ g L h' m (mus₁ ++ (cc, cellP (some v)) :: mus₂) → Q () { s with heap := h' }) : wpAny (model Pg w) A (storeName env x v) Q E s := by
  have F1 : FN w mg mb g₀ h₀ g L s.heap m ((cc, cellP v₀) :: (mus₁ ++ mus₂)) := F.perm (List.perm_middle.symm)
  refine wpAny_storeName_cell hk hl hc (F1.cell (.head _)) fun h' hc' hs => h h' ?_
  exact (F1.upd (P' := cellP (some v)) (fun b x hb e => (hs.2 b hb).trans e) hc').perm List.perm_middle
/-- the loop of a list comprehension over any walk, without tests, its name a cell -/
theorem compLoopC_FN {elt iter : PySem.Expr} {x : Str} {px : Pos} {scope : Scope} {pos : Pos} {cenv : Env} {v₀ : Option Value}
    (W : It w A I fp n P St) (Inv : Nat → Heap → List (Addr × Ob) → List Value → Prop)
    (hC : cenv.locals = C) (hk : cenv.scope.kind = .function) (hx : cenv.kindOf x = some .cell) (hcc : cenv.cells.lookup x = some cc)
    (hfp : ∀ b ∈ fp, b = I ∨ (∃ o, gs.get? b = some o) ∨ ∃ o, h₀.get? b = some o) (hn : n ≤ sizeLine) {oI : Obj}
    (F : FN w mg mb g₀ h₀ gs C s.heap m₀ ((I, isP oI) :: (D, listP []) :: (cc, cellP v₀) :: mus₀)) (hst : St 0 s.heap) (hI : Inv 0 gs mus₀ [])
    (turn : ∀ (i : Nat) (g h : Heap) (m : Str → Option Value) (mus : List (Addr × Ob)) (ys : List Value) (v : Value) (tk : Tok) (oI : Obj) (E' : Value → Shared → Prop), i < n → P i v → Sub gs g → Inv i g mus ys → ys.length = i →
      FN w mg mb g₀ h₀ g C h m ((I, isP oI) :: (D, listP ys) :: (cc, cellP (some v)) :: mus) →
      wpAny (model Pg w) A (eval elt cenv) (fun y s' => ∃ g' h' m' mus' tk' v', s' = { s with heap := h', toks := tk' } ∧ Sub g g' ∧
        FN w mg mb g₀ h₀ g' C h' m' ((I, isP oI) :: (D, listP ys) :: (cc, cellP v') :: mus') ∧ Inv (i + 1) g' mus' (ys ++ [y])) E' { s with heap := h, toks := tk })
    (fin : ∀ (g h : Heap) (m : Str → Option Value) (mus : List (Addr × Ob)) (ys : List Value) (tk : Tok) (v' : Option Value), Sub gs g → Inv n g mus ys → ys.length = n → FN w mg mb g₀ h₀ g C h m ((D, listP ys) :: (cc, cellP v') :: mus) → R (.ok .next) { s with heap := h, toks := tk }) :
    codeAny (model Pg w) A (.compLoop (.ListComp elt [⟨.Name x px, iter, [], 0⟩] scope pos) 0 (.ref I) (.ref D) cenv) R s := by
  subst hC
  refine codeAny_compLoop_list (fun k s' => ∃ i g h m mus ys tk oI v', s' = { s with heap := h, toks := tk } ∧ Sub gs g ∧ FN w mg mb g₀ h₀ g cenv.locals h m ((I, isP oI) :: (D, listP ys) :: (cc, cellP v') :: mus) ∧ St i h ∧ Inv i g mus ys ∧ ys.length = i ∧ i ≤ n ∧ k = n - i)
    ?_ n ⟨0, gs, s.heap, m₀, mus₀, [], s.toks, oI, v₀, rfl, Sub.rfl' _, F, hst, hI, rfl, Nat.zero_le _, rfl⟩
  rintro k s' ⟨i, g, h, m, mus, ys, tk, oI, v', rfl, kg, F, st, hInv, hlen, hin, rfl⟩
  by_cases hlt : i < n
  · refine W.W.item i _ _ _ hlt st fun v h₁ tk₁ hPv st₁ hk₁ => ?_
    obtain ⟨oI₁, F₁⟩ := W.step F st₁ hk₁
    refine wpAny_assign_Name (sC [_, _] F₁ hk hx hcc fun h₂ F₂ => ?_)
    simp only [List.cons_append, List.nil_append] at F₂
    have st₂ : St (i + 1) h₂ := W.kept hfp F₁ F₂ kg kg (.head _) (.head _) st₁
    refine wpAny_mono (turn i g h₂ _ mus ys v _ oI₁ _ hlt hPv kg hInv hlen F₂) (fun y s₃ h₃ => ?_) fun _ _ e => e
    obtain ⟨g₃, h₃, m₃, mus₃, tk₃, v₃, rfl, kg₃, F₃, hI₃⟩ := h₃
    have st₃ : St (i + 1) h₃ := W.kept hfp F₂ F₃ kg (kg.tr kg₃) (.head _) (.head _) st₂
    refine wpAny_list_append (F₃.list (.tail _ (.head _))) (fun h₄ hl₄ hs₄ => ?_) (by simp; omega)
    have F₄ := F₃.swap.upd (P' := listP (ys ++ [y])) (fun b x hb e => (hs₄.2 b hb).trans e) (let ⟨o, ho, hc, n, hd⟩ := hl₄; ⟨o, ho, hc, n, by rw [hd]; simp⟩)
    have st₄ : St (i + 1) h₄ := W.kept hfp F₃ F₄.swap (kg.tr kg₃) (kg.tr kg₃) (.head _) (.head _) st₃
    exact ⟨n - (i + 1), by omega, i + 1, g₃, h₄, m₃, mus₃, ys ++ [y], tk₃, oI₁, v₃, rfl, kg.tr kg₃, F₄.swap, st₄, hI₃, by simp [hlen], hlt, rfl⟩
  · have hin' : i = n := by omega
    subst hin'
    refine W.W.done _ _ _ st fun h₁ tk₁ hk₁ => ?_
    exact fin g h₁ m mus ys tk₁ v' kg hInv hlen (F.drop fun b x hb e => hk₁ b x (by simpa using hb) e)
/-- the frame of a comprehension with one cell of its own -/
theorem newEnvC {M : Model} {scope : Scope} {globals : Addr} {cl : List (Str × Addr)} {qual : Str} {around : Env} {cn : Str} {E : Value → Shared → Prop} {Q : Env → Shared → Prop}
    (hcells : ∀ n acc, cellsFrom n scope.names acc = (cn, n) :: acc) (hpush : ∀ h, pushCells h scope.names = h.push { cls := .type "cell", data := .cell none })
    (hQ : ∀ h', h'.Ns s.heap.objs.size (fun _ => none) → Sub s.heap h' → h'.IsCell (s.heap.objs.size + 1) none → Q { scope, locals := s.heap.objs.size, globals, cells := (cn, s.heap.objs.size + 1) :: cl, qual, func := none, code := around.code, frame := around.frame, builtins := around.builtins } { s with heap := h' }) :
    wpAny M A (newFunctionEnv scope globals cl [] qual none .none (some around)) Q E s := by
  simp only [newFunctionEnv, Option.isSome_some, if_true]
  refine wpAny_bind (wpAny_alloc ?_)
  refine wpAny_bind (wpAny_layCells _ (fun name kind cells => by cases hkc : kind == NameKind.cell <;> simp [hkc]) _ _ _ _ ?_)
  rw [hcells, hpush]
  rw [show ({ s with heap := s.heap.push { cls := .type "dict", data := .dict #[] } } : Shared).heap.objs.size = s.heap.objs.size + 1 from Heap.size_push ..]
  refine wpAny_bind ?_
  rw [List.forIn_nil]
  refine wpAny_pure (wpAny_pure (hQ _ ?_ ?_ ?_))
  · exact (Heap.Ns.new s.heap (.type "dict")).keeps (sub_push _ _)
  · exact (sub_push _ _).tr (sub_push _ _)
  · have := Heap.get?_push_size (s.heap.push { cls := .type "dict", data := .dict #[] }) (o := { cls := .type "cell", data := .cell none }) rfl
    rw [Heap.size_push] at this
    exact ⟨_, this, rfl⟩
end
section
variable {A : Around} {R : Result → Shared → Prop} {s : Shared} {w : World} {mg mb : Str → Option Value} {g₀ h₀ gs : Heap} {I D C L cc : Addr} {m₀ : Str → Option Value} {mus₀ : List (Addr × Ob)}
  {fp : List Addr} {n : Nat} {P : Nat → Value → Prop} {St : Nat → Heap → Prop}
/-- a list comprehension from its iterator on, its name a cell -/
theorem comp_runC {env : Env} {E : Value → Shared → Prop} {elt iter : PySem.Expr} {x : Str} {px : Pos} {scope : Scope} {pos : Pos} {cl : List (Str × Addr)} {g : Heap} {m : Str → Option Value} {mus₁ : List (Addr × Ob)} {oI : Obj} {RR : Value → Addr → Result → Shared → Prop}
    (W : It w A I fp n P St) (Inv : Nat → Heap → List (Addr × Ob) → List Value → Prop)
    (hcells : ∀ n acc, cellsFrom n scope.names acc = (x, n) :: acc) (hpush : ∀ h, pushCells h scope.names = h.push { cls := .type "cell", data := .cell none }) (hkind : scope.kind = .function)
    (hx : ∀ C, (compEnvC scope cl C env).kindOf x = some .cell) (hn : n ≤ sizeLine)
    (F : FN w mg mb g₀ h₀ g L s.heap m (((I, isP oI) :: mus₀) ++ mus₁)) (hst : St 0 s.heap) (hI : Inv 0 g mus₀ [])
    (hkeys : ∀ i g mus ys, Inv i g mus ys → ∀ p ∈ mus, ∃ q ∈ mus₀, q.1 = p.1)
    (hfp : ∀ b ∈ fp, b = I ∨ ((∃ o, s.heap.get? b = some o) ∧ ∀ p ∈ mus₀, p.1 ≠ b))
    (turn : ∀ (C cc : Addr) (i : Nat) (g' h : Heap) (m' : Str → Option Value) (mus : List (Addr × Ob)) (ys : List Value) (D : Addr) (v : Value) (tk : Tok) (oI : Obj) (E' : Value → Shared → Prop), i < n → P i v → Sub g g' → Inv i g' mus ys → ys.length = i → s.heap.get? C = none →
      FN w mg mb g (less s.heap ((I, isP oI) :: mus₀)) g' C h m' ((I, isP oI) :: (D, listP ys) :: (cc, cellP (some v)) :: mus) →
      wpAny (model Pg w) A (eval elt (compEnvC scope ((x, cc) :: cl) C env)) (fun y s' => ∃ g'' h' m'' mus' tk' v', s' = { s with heap := h', toks := tk' } ∧ Sub g' g'' ∧
        FN w mg mb g (less s.heap ((I, isP oI) :: mus₀)) g'' C h' m'' ((I, isP oI) :: (D, listP ys) :: (cc, cellP v') :: mus') ∧ Inv (i + 1) g'' mus' (ys ++ [y])) E' { s with heap := h, toks := tk })
    (fin : ∀ (g' h' : Heap) (m' : Str → Option Value) (mus : List (Addr × Ob)) (ys : List Value) (tk : Tok) (D C : Addr), Sub g g' → Inv n g' mus ys → ys.length = n → h'.Ns C m' → FN w mg mb g₀ h₀ g' L h' m ((D, listP ys) :: (mus ++ mus₁)) → g'.get? C = none → h₀.get? C = none → C ≠ L → (∀ p ∈ ((D, listP ys) :: (mus ++ mus₁) : List (Addr × Ob)), p.1 ≠ C) →
      RR (.ref D) C (.ok .next) { s with heap := h', toks := tk }) :
    wpAny (model Pg w) A (newList []) (fun acc s₃ => wpAny (model Pg w) A (newFunctionEnv scope env.globals cl [] env.qual none .none (some env)) (fun cenv s₄ =>
      codeAny (model Pg w) A (.compStart (.ListComp elt [⟨.Name x px, iter, [], 0⟩] scope pos) 0 (.ref I) acc { cenv with scope := relabel scope env }) (RR acc cenv.locals) s₄) E s₃) E s := by
  refine wpAny_newObj_type (newEnvC hcells hpush (fun h₁ hns₁ hsb₁ hcell₁ => ?_))
  dsimp only at hns₁ hsb₁ hcell₁ ⊢
  have less_eq : ∀ o o', less s.heap ((I, isP o) :: mus₀) = less s.heap ((I, isP o') :: mus₀) := fun o o' => by
    unfold less
    have e : (fun b => ∀ p ∈ ((I, isP o) :: mus₀ : List (Addr × Ob)), p.1 ≠ b) = fun b => ∀ p ∈ ((I, isP o') :: mus₀ : List (Addr × Ob)), p.1 ≠ b := by
      funext b
      simp only [List.forall_mem_cons]
    rw [e]
  have hDn : s.heap.get? s.heap.objs.size = none := Heap.get?_none_of_le (Nat.le_refl _)
  have hCn : s.heap.get? (s.heap.push { cls := .type "list", dict := none, data := .seq ([] : List Value).toArray }).objs.size = none := Heap.get?_none_of_le (by rw [Heap.size_push]; omega)
  have hKn : s.heap.get? ((s.heap.push { cls := .type "list", dict := none, data := .seq ([] : List Value).toArray }).objs.size + 1) = none := Heap.get?_none_of_le (by rw [Heap.size_push]; omega)
  have hDC : s.heap.objs.size ≠ (s.heap.push { cls := .type "list", dict := none, data := .seq ([] : List Value).toArray }).objs.size := by rw [Heap.size_push]; omega
  have hDK : s.heap.objs.size ≠ (s.heap.push { cls := .type "list", dict := none, data := .seq ([] : List Value).toArray }).objs.size + 1 := by rw [Heap.size_push]; omega
  generalize hH2 : s.heap.push { cls := .type "list", dict := none, data := .seq ([] : List Value).toArray } = H2 at hns₁ hsb₁ hcell₁ hCn hKn hDC hDK ⊢
  generalize hCc : H2.objs.size = Cc at hns₁ hsb₁ hcell₁ hCn hKn hDC hDK ⊢
  generalize hDd : s.heap.objs.size = Dd at hDn hDC hDK ⊢
  have old : Sub s.heap h₁ := fun b o e => hsb₁ b o (hH2 ▸ Heap.get?_push_of_some _ e)
  have hD₁ : ∃ o, h₁.get? Dd = some o ∧ listP [] o := ⟨_, hsb₁ _ _ (hH2 ▸ hDd ▸ Heap.get?_push_size _ rfl), rfl, 0, rfl⟩
  have nm : ∀ p ∈ ((I, isP oI) :: mus₀ : List (Addr × Ob)), g.get? p.1 = none := fun p hp => (F.nw p (List.mem_append_left _ hp)).2.2.1
  have Fc : FN w mg mb g (less s.heap ((I, isP oI) :: mus₀)) g Cc h₁ (fun _ => none) [] :=
    FN.start F.G (sub_less F.st nm) hns₁ ((less_sub _ _).tr old) (none_of_sub (less_sub _ _) hCn)
  -- the objects handed on
  have handed : ∀ mu : List (Addr × Ob), (∀ p ∈ mu, p ∈ ((I, isP oI) :: mus₀ : List (Addr × Ob))) → (mu.Pairwise fun p q => p.1 ≠ q.1) → FN w mg mb g (less s.heap ((I, isP oI) :: mus₀)) g Cc h₁ (fun _ => none) mu := by
    intro mu hm hp
    refine ⟨Fc.toGrow, Fc.gr, Fc.ns, Fc.oL, Fc.gL, fun p hpm => ?_, hp⟩
    obtain ⟨⟨o, ho, hP⟩, r⟩ := F.nw p (List.mem_append_left _ (hm p hpm))
    exact ⟨⟨o, old _ _ ho, hP⟩, (fun q => by rw [q, hCn] at ho; cases ho), r.2.1, less_none (hm p hpm)⟩
  have F₁ := handed ((I, isP oI) :: mus₀) (fun _ h => h) (List.pairwise_append.mp F.nd).1
  have off : ∀ b, s.heap.get? b = none → ∀ q ∈ ((I, isP oI) :: mus₀ : List (Addr × Ob)), q.1 ≠ b := fun b hb q hq e => by obtain ⟨⟨o, ho, _⟩, _⟩ := F.nw q (List.mem_append_left _ hq); rw [e, hb] at ho; cases ho
  have F₂ := F₁.add (P := cellP none) (let ⟨o, ho, hd⟩ := hcell₁; ⟨o, ho, hd⟩) (Nat.succ_ne_self _) (none_of_sub F.st hKn) (none_of_sub (less_sub _ _) hKn) (off _ hKn)
  have F₃ := F₂.add (P := listP []) hD₁ (fun q => hDC q) (none_of_sub F.st hDn) (none_of_sub (less_sub _ _) hDn)
    (fun q hq => by
      rcases List.mem_cons.mp hq with rfl | hq
      · exact fun e => hDK e.symm
      · exact off _ hDn q hq)
  have F₄ : FN w mg mb g (less s.heap ((I, isP oI) :: mus₀)) g Cc h₁ (fun _ => none) ((I, isP oI) :: (Dd, listP []) :: (Cc + 1, cellP none) :: mus₀) :=
    F₃.perm (List.perm_middle (l₁ := [(Dd, listP []), (Cc + 1, cellP none)])).symm
  have hst₁ : St 0 h₁ := W.W.frame _ _ _ hst fun b _ o e => old b o e
  have loop : ∀ s₃ : Shared, s₃ = { s with heap := h₁ } →
      codeAny (model Pg w) A (.compLoop (.ListComp elt [⟨.Name x px, iter, [], 0⟩] scope pos) 0 (.ref I) (.ref Dd) (compEnvC scope ((x, Cc + 1) :: cl) Cc env)) (RR (.ref Dd) Cc) s₃ := by
    rintro s₃ rfl
    refine compLoopC_FN (gs := g) (C := Cc) (cc := Cc + 1) (h₀ := less s.heap ((I, isP oI) :: mus₀)) (g₀ := g) (mus₀ := mus₀) W Inv rfl (by simp [compEnvC, relabel, hkind]) (hx Cc) (by simp [compEnvC]) (fun b hb => ?_) hn F₄ hst₁ hI ?_ ?_
    · rcases hfp b hb with e | ⟨⟨o, ho⟩, hne⟩
      · exact .inl e
      · by_cases q : b = I
        · exact .inl q
        · exact .inr (.inr ⟨o, less_some.mpr ⟨fun p hp => by
            rcases List.mem_cons.mp hp with rfl | hp
            · exact fun e => q e.symm
            · exact hne p hp, ho⟩⟩)
    · intro i g' h m' mus ys v tk oI' E' hi hPv kg hInv hlen F'
      rw [less_eq oI oI'] at F' ⊢
      exact turn Cc (Cc + 1) i g' h m' mus ys Dd v tk oI' E' hi hPv kg hInv hlen hCn F'
    · intro g' h' m' mus ys tk v' kg hInv hlen F'
      have F' := F'.swap.tl
      have hCL : Cc ≠ L := fun q => by obtain ⟨o, _, _, ho, _⟩ := F.ns; rw [q, ho] at hCn; cases hCn
      have Fb := FN.back F F' (fun p hp => by
        rcases List.mem_cons.mp hp with rfl | hp
        · exact .inr hDn
        · obtain ⟨q, hq, e⟩ := hkeys _ _ _ _ hInv p hp
          exact .inl ⟨q, .tail _ hq, e⟩)
      refine fin g' h' m' mus ys tk Dd Cc kg hInv hlen F'.ns Fb F'.gL (none_of_sub F.kh hCn) hCL fun p hp => ?_
      rcases List.mem_append.mp (show p ∈ ((Dd, listP ys) :: mus) ++ mus₁ from hp) with hp | hp
      · exact (F'.nw p hp).2.1
      · intro e; obtain ⟨⟨o, ho, _⟩, _⟩ := F.nw p (List.mem_append_right _ hp); rw [e, hCn] at ho; cases ho
  refine codeAny_compStart_list (loop _ rfl) (W.W.self 0 _ _ _ hst₁ (loop _ rfl))
/-- a for over any walk, its name a cell -/
theorem forLoopC_FN {x : Str} {px : Pos} {body : List Stmt} {env : Env} {v₀ : Option Value}
    (W : It w A I fp n P St) (Inv : Nat → Heap → (Str → Option Value) → List (Addr × Ob) → Prop)
    (hL : env.locals = L) (hk : env.scope.kind = .function) (hx : env.kindOf x = some .cell) (hcc : env.cells.lookup x = some cc)
    (hfp : ∀ b ∈ fp, b = I ∨ (∃ o, gs.get? b = some o) ∨ ∃ o, h₀.get? b = some o) {oI : Obj}
    (F : FN w mg mb g₀ h₀ gs L s.heap m₀ ((I, isP oI) :: (cc, cellP v₀) :: mus₀)) (hst : St 0 s.heap) (hI : Inv 0 gs m₀ mus₀)
    (turn : ∀ (i : Nat) (g h : Heap) (m : Str → Option Value) (mus : List (Addr × Ob)) (v : Value) (tk : Tok) (oI : Obj) (E' : Value → Shared → Prop), i < n → P i v → Sub gs g → Inv i g m mus →
      FN w mg mb g₀ h₀ g L h m ((I, isP oI) :: (cc, cellP (some v)) :: mus) →
      wpAny (model Pg w) A (execs body env) (fun f s' => match f with
        | .next | .cont => ∃ g' h' m' mus' tk' v', s' = { s with heap := h', toks := tk' } ∧ Sub g g' ∧ FN w mg mb g₀ h₀ g' L h' m' ((I, isP oI) :: (cc, cellP v') :: mus') ∧ Inv (i + 1) g' m' mus'
        | .brk => R (.ok .next) s'
        | .ret v => R (.ok (.ret v)) s') E' { s with heap := h, toks := tk })
    (fin : ∀ (g h : Heap) (m : Str → Option Value) (mus : List (Addr × Ob)) (tk : Tok) (v' : Option Value), Sub gs g → Inv n g m mus → FN w mg mb g₀ h₀ g L h m ((cc, cellP v') :: mus) → R (.ok .next) { s with heap := h, toks := tk }) :
    codeAny (model Pg w) A (.forLoop (.Name x px) (.ref I) body [] env) R s := by
  subst hL
  refine codeAny_forLoop (fun k s' => ∃ i g h m mus tk oI v', s' = { s with heap := h, toks := tk } ∧ Sub gs g ∧ FN w mg mb g₀ h₀ g env.locals h m ((I, isP oI) :: (cc, cellP v') :: mus) ∧ St i h ∧ Inv i g m mus ∧ i ≤ n ∧ k = n - i)
    ?_ n ⟨0, gs, s.heap, m₀, mus₀, s.toks, oI, v₀, rfl, Sub.rfl' _, F, hst, hI, Nat.zero_le _, rfl⟩
  rintro k s' ⟨i, g, h, m, mus, tk, oI, v', rfl, kg, F, st, hInv, hin, rfl⟩
  by_cases hlt : i < n
  · refine W.W.item i _ _ _ hlt st fun v h₁ tk₁ hPv st₁ hk₁ => ?_
    obtain ⟨oI₁, F₁⟩ := W.step F st₁ hk₁
    refine wpAny_assign_Name (sC [_] F₁ hk hx hcc fun h₂ F₂ => ?_)
    simp only [List.cons_append, List.nil_append] at F₂
    have st₂ : St (i + 1) h₂ := W.kept hfp F₁ F₂ kg kg (.head _) (.head _) st₁
    refine wpAny_mono (turn i g h₂ _ mus v _ oI₁ _ hlt hPv kg hInv F₂) (fun f s₃ h₃ => ?_) fun _ _ e => e
    have go : (∃ g' h' m' mus' tk' v', s₃ = { s with heap := h', toks := tk' } ∧ Sub g g' ∧ FN w mg mb g₀ h₀ g' env.locals h' m' ((I, isP oI₁) :: (cc, cellP v') :: mus') ∧ Inv (i + 1) g' m' mus') →
        ∃ m_1, m_1 < n - i ∧ ∃ i g h m mus tk oI v', s₃ = { s with heap := h, toks := tk } ∧ Sub gs g ∧ FN w mg mb g₀ h₀ g env.locals h m ((I, isP oI) :: (cc, cellP v') :: mus) ∧ St i h ∧ Inv i g m mus ∧ i ≤ n ∧ m_1 = n - i := by
      rintro ⟨g₃, h₄, m₃, mus₃, tk₃, v₃, rfl, kg₃, F₃, hI₃⟩
      exact ⟨n - (i + 1), by omega, i + 1, g₃, h₄, m₃, mus₃, tk₃, oI₁, v₃, rfl, kg.tr kg₃, F₃, W.kept hfp F₂ F₃ kg (kg.tr kg₃) (.head _) (.head _) st₂, hI₃, hlt, rfl⟩
    cases f with
    | next => exact go h₃
    | cont => exact go h₃
    | brk => exact h₃
    | ret v => exact h₃
  · have hin' : i = n := by omega
    subst hin'
    refine W.W.done _ _ _ st fun h₁ tk₁ hk₁ => ?_
    exact wpAny_execs_nil (fin g h₁ m mus tk₁ v' kg hInv (F.drop fun b x hb e => hk₁ b x (by simpa using hb) e))
end
/-! MShT -/
theorem itemDT {w : World} {K : Type} [DecidableEq K] {knd : KeyKind Pg w K} {A : Around} {E : Value → Shared → Prop} {s : Shared} {d : Addr} {kvs : List (K × Value)} {k : K} {key v : Value} {value slice : PySem.Expr} {Q : Value → Shared → Prop}
    (hd : s.heap.DictOf knd d kvs) (hk : knd.is k key = true) (hv : valueAt kvs k = some v) (h : Q v { s with toks := s.toks + 1 })
    (hs : subscripted slice false (.ref d) key = operate [.ref d, key] (getItem (.ref d) key)) : wpAny (model Pg w) A (subscriptTail value slice (.ref d) key) Q E s :=
  tail_any hd.typeIs slot_dict_getitem.lookup (wpAny_getItem_of hk hd.mapOf hv h) hs
set_option maxHeartbeats 1000000 in
theorem nums_spec {A : Around} {s : Shared} {w : World} {mg mb : Str → Option Value} {g : Heap} {R : Result → Shared → Prop} {sh td tr nt nm : Addr} {ts : List Addr} {ls : List (Option Int)} {ks : List Int}
    (G : Gr w mg mb g) (k : Sub g s.heap) (hd : A.depth + 5 < recursionLimit) (hh : A.handled = none) (S : ShelfIs w g sh ls ks td tr nt nm ts) (hl : ls.length ≤ 6)
    (hR : ∀ g' h' t' D us, Grow g s.heap g' h' → g'.IsList D us.toArray → IntsAre us (keysOf ls) → R (.ok (.ret (.ref D))) { s with heap := h', toks := t' }) :
    codeAny (model Pg w) A (.call (.ref 348) ⟨[.ref sh], []⟩) R s := by
  refine' enter (B := s.heap) (binds := [(Str.ofString "self", .ref sh)]) G k (Sub.rfl' _) ?hroom ?ho ?hcd ?hbind ?hloc ?hcell ?hco ?hgen ?hk ?_
  case hroom => omega
  case ho => exact rfl
  case hcd => exact rfl
  case hbind => exact BindsTo.of_eq rfl
  case hloc => exact locs rfl
  case hcell => decide
  case hco => exact rfl
  case hgen => exact rfl
  case hk => exact rfl
  intro L h₁ A₁ F k₁ hL D
  have hdep := D.depth
  have hA1 : A₁.handled = none := D.handled.trans hh
  have f1 := S.table
  have hlt := S.lt
  repeat' tb_rel
  rename FN _ _ _ _ _ _ _ _ _ _ => F
  have hkl : (tabFrom 1 ts ++ [((50 : Int), Value.ref nt)]).length ≤ 60 := by simp [tabFrom_length]; omega
  refine sortedD (knd := PySem.intKind Pg w) F hA1 (F.odic S.dict) S.sys hkl fun SD h₂ tk₂ vs F hvl hvk => ?_
  have hvs := keysI (w := w) hvl hvk
  refine sortI F hvs (by omega) fun h₃ us ns F hus hperm hsort => ?_
  rw [keys_shelf hlt] at hperm
  have e := uniqI hperm hsort (keysOf_sorted hl)
  subst e
  obtain ⟨g₃, F, kg3, hf⟩ := F.freezeAll
  exact hR _ _ _ _ us F.ret (listOfP (hf _ (.head _))) hus
set_option maxHeartbeats 1000000 in
theorem told_empty {A : Around} {s : Shared} {w : World} {mg mb : Str → Option Value} {g : Heap} {R : Result → Shared → Prop} {d : Addr}
    (G : Gr w mg mb g) (k : Sub g s.heap) (hd : A.depth + 20 < recursionLimit) (hh : A.handled = none) (hdd : g.DictOf (strKind Pg w) d []) (hsys : (d == sysModules) = false)
    (hR : ∀ g' h' t' b, Grow g s.heap g' h' → (∀ q, Rep g' (q + 1) (.tup [.str "dict"]) (.ref b)) → R (.ok (.ret (.ref b))) { s with heap := h', toks := t' }) :
    codeAny (model Pg w) A (.call (.ref 277) ⟨[.ref d], []⟩) R s := by
  obtain ⟨H', Z, hH⟩ := kitD (w := w) (knd := strKind Pg w) hdd
  refine' enterC (B := s.heap) (binds := [(Str.ofString "value", .ref d)]) (cn := Str.ofString "value") (cv := (.ref d)) G k (Sub.rfl' _) ?hroom ?ho ?hcd ?hbind ?hcells ?hkind ?hcv ?hco ?hgen ?hk ?_
  case hroom => omega
  case ho => exact rfl
  case hcd => exact rfl
  case hbind => exact rfl
  case hcells => intro n; exact rfl
  case hkind => intro x hx; rw [List.mem_singleton.mp hx]; exact .inr ⟨rfl, rfl⟩
  case hcv => intro L; exact rfl
  case hco => exact rfl
  case hgen => exact rfl
  case hk => exact rfl
  intro L h₁ tkC A₁ cC F k₁ hL D
  have hdep := D.depth
  have hA1 : A₁.handled = none := D.handled.trans hh
  obtain ⟨gC, F, kgC, hfC⟩ := F.freezeAll
  have hcC : gC.IsCell cC (some (.ref d)) := let ⟨o, ho, q⟩ := hfC _ (.head _); ⟨o, ho, q⟩
  repeat' tb_rel
  rename FN _ _ _ _ _ _ _ _ _ _ => F
  refine wpAny_call (kind_dict F.G F.st (by omega) Z (fun h q => hH h (kgC.tr q)) fun h' t' tk W => ?_)
  have F := F.after W
  clear W
  dsimp only
  repeat' tb_rel
  rename FN _ _ _ _ _ _ _ _ _ _ => F
  refine sortedD (knd := PySem.strKind Pg w) F hA1 (F.odic hdd) hsys (by simp) fun SD h₂ tk₂ vs F hvl hvk => ?_
  have hvs := keysS (w := w) hvl hvk
  refine sortS F hvs (by rw [hvl]; simp) fun h₃ us ss F hus hperm hsort => ?_
  have hss : ss = [] := List.Perm.eq_nil hperm
  subst hss
  have hul : us = [] := by cases hus; rfl
  subst hul
  refine iter_list F (F.list (.head _)) fun I h₄ oI F₄ hit hl4 hne _ k₄ => ?_
  dsimp only
  refine comp_runT (mus₀ := []) (It.list hA1 I SD hne _) (fun i g mus ys => mus = []) ?cc rfl rfl ?n F₄ ⟨hit, hl4⟩ rfl (fun i g mus ys h p hp => by rw [h] at hp; cases hp) (fpC hl4 (fun _ hp => nomatch hp)) ?cturn ?cfin
  case cc => decide
  case n => simp [sizeLine]
  case cturn =>
    rintro C i g' h m' mus ys D1 x tk oI1 E' hi hx kg' rfl hlen' hCn F'
    exact absurd hi (Nat.not_lt_zero _)
  case cfin =>
    rintro g' h' m' mus ys tk D1 C kg' rfl hlen' hCn F' hgC hsC hCL hne1
    clear F F₄
    have hys : ys = [] := List.eq_nil_of_length_eq_zero hlen'
    subst hys
    refine comp_val hCn F' hgC hsC hCL hne1 fun h₆ F => ?_
    dsimp only
    repeat' tb_rel
    rename FN _ _ _ _ _ _ _ _ _ _ => F
    refine toTup F (F.list (.head _)) (by simp) fun TT h₇ tk₇ F => ?_
    dsimp only
    repeat' tb_rel
    rename FN _ _ _ _ _ _ _ _ _ _ => F
    refine addT1 (F.tup (.tail _ (.tail _ (.tail _ (.head _))))) (F.tup (.head _)) (by simp) ?_
    obtain ⟨g₉, F, kg9, hf⟩ := F.freezeAll
    refine hR _ _ _ _ F.ret fun q => ?_
    exact .tup (tupOfP (hf _ (.tail _ (.tail _ (.tail _ (.head _)))))) (.cons (.str _ _) .nil)
set_option maxHeartbeats 4000000 in
theorem shelf_told {A : Around} {s : Shared} {w : World} {mg mb : Str → Option Value} {g : Heap} {R : Result → Shared → Prop} {sh td tr nt nm : Addr} {ts : List Addr} {ls : List (Option Int)} {ks : List Int}
    (G : Gr w mg mb g) (k : Sub g s.heap) (hd : A.depth + 40 < recursionLimit) (hh : A.handled = none) (S : ShelfIs w g sh ls ks td tr nt nm ts) (hl : ls.length ≤ 6)
    (hR : ∀ g' h' t' b, Grow g s.heap g' h' → (∀ q, Rep g' (q + 7) (ptShelf ls ks) (.ref b)) → R (.ok (.ret (.ref b))) { s with heap := h', toks := t' }) :
    codeAny (model Pg w) A (.call (.ref 360) ⟨[.ref sh], []⟩) R s := by
  refine' enterC (B := s.heap) (binds := [(Str.ofString "self", .ref sh)]) (cn := Str.ofString "self") (cv := (.ref sh)) G k (Sub.rfl' _) ?hroom ?ho ?hcd ?hbind ?hcells ?hkind ?hcv ?hco ?hgen ?hk ?_
  case hroom => omega
  case ho => exact rfl
  case hcd => exact rfl
  case hbind => exact rfl
  case hcells => intro n; exact rfl
  case hkind => intro x hx; rw [List.mem_singleton.mp hx]; exact .inr ⟨rfl, rfl⟩
  case hcv => intro L; exact rfl
  case hco => exact rfl
  case hgen => exact rfl
  case hk => exact rfl
  intro L h₁ tkC A₁ cC F k₁ hL D
  have hdep := D.depth
  have hA1 : A₁.handled = none := D.handled.trans hh
  obtain ⟨gC, F, kgC, hfC⟩ := F.freezeAll
  have hcC : gC.IsCell cC (some (.ref sh)) := let ⟨o, ho, q⟩ := hfC _ (.head _); ⟨o, ho, q⟩
  have f3 := (S.up kgC).numbers
  repeat' tb_rel
  rename FN _ _ _ _ _ _ _ _ _ _ => F
  refine wpAny_call (nums_spec F.G F.st (by omega) hA1 (S.up kgC) hl fun g₂ h₂ t₂ D0 us W hus hui => ?_)
  have F := F.after W
  have kg2 := W.kg
  clear W
  have hcC := cellUp hcC kg2
  have S := S.up (kgC.tr kg2)
  have f1 := S.table
  have f2 := S.trailer
  have hul := hui.length
  have hkl : (keysOf ls).length = ls.length + 1 := by simp [keysOf]
  dsimp only
  refine iter_list F (stays_list F.st hus) fun I h₄ oI F₄ hit hl4 hne _ k₄ => ?_
  dsimp only
  refine comp_run (mus₀ := []) (It.list hA1 I D0 hne _) (fun i g mus ys => mus = [] ∧ ∀ q, RepL g (q + 5) ((List.range i).map (ptRow ls ks)) ys) ?cc rfl rfl ?n F₄ ⟨hit, hl4⟩ ⟨rfl, fun _ => .nil⟩ (fun i g mus ys h p hp => by rw [h.1] at hp; cases hp) (fpC hl4 (fun _ hp => nomatch hp)) ?cturn ?cfin
  case cc => decide
  case n => simp [sizeLine]; omega
  case cturn =>
    rintro C i g' h m' mus ys D1 x tk oI1 E' hi hx kg' ⟨rfl, hys⟩ hlen' hCn F'
    have hi : i < us.length := by simpa using hi
    clear F F₄
    have hki : (keysOf ls)[i]? = some (keyAt ls i) := by unfold keysOf; rw [List.getElem?_map, List.getElem?_range (by omega)]; rfl
    obtain ⟨tkey, e1⟩ := hui.get i _ hki
    have hx : x = .int (keyAt ls i) tkey := by simp only [List.getElem?_toArray] at hx; rw [e1] at hx; exact (Option.some.inj hx).symm
    subst hx
    obtain ⟨t, u, tu, hv, ht, hu⟩ := shelf_ent S hl (j := i) (by omega)
    repeat' ((fail_if_success (with_reducible show wpAny _ _ (subscriptTail _ _ (Value.ref _) (Value.int _ _)) _ _ _)); tb_rel)
    rename FN _ _ _ _ _ _ _ _ _ _ => F
    refine itemDT (knd := PySem.intKind Pg w) (k := keyAt ls i) (dicUp S.dict (kg'.tr F.st)) (by simp [PySem.intKind, Value.isInt]) hv ?_ ?hs1
    case hs1 => with_unfolding_all rfl
    repeat' ((fail_if_success (with_reducible show wpAny _ _ (subscriptTail _ _ (Value.ref _) (Value.int _ _)) _ _ _)); tb_rel)
    rename FN _ _ _ _ _ _ _ _ _ _ => F
    refine item_tupleT (j := 0) (tupUp ht (kg'.tr F.st)) (by omega) (by omega) rfl rfl ?_ ?hs2
    case hs2 => with_unfolding_all rfl
    dsimp only
    repeat' ((fail_if_success (with_reducible show wpAny _ _ (subscriptTail _ _ (Value.ref _) (Value.int _ _)) _ _ _)); tb_rel)
    rename FN _ _ _ _ _ _ _ _ _ _ => F
    refine itemDT (knd := PySem.intKind Pg w) (k := keyAt ls i) (dicUp S.dict (kg'.tr F.st)) (by simp [PySem.intKind, Value.isInt]) hv ?_ ?hs1
    case hs1 => with_unfolding_all rfl
    repeat' ((fail_if_success (with_reducible show wpAny _ _ (subscriptTail _ _ (Value.ref _) (Value.int _ _)) _ _ _)); tb_rel)
    rename FN _ _ _ _ _ _ _ _ _ _ => F
    refine item_tupleT (j := 1) (tupUp ht (kg'.tr F.st)) (by omega) (by omega) rfl rfl ?_ ?hs2
    case hs2 => with_unfolding_all rfl
    dsimp only
    repeat' ((fail_if_success (with_reducible show wpAny _ _ (call (Value.ref 277) _) _ _ _)); tb_rel)
    rename FN _ _ _ _ _ _ _ _ _ _ => F
    refine toldW_FN F (by omega) hA1 (hu.up kg') fun g₇ h₇ t₇ b F kg7 hb => ?_
    dsimp only
    repeat' tb_rel
    rename FN _ _ _ _ _ _ _ _ _ _ => F
    obtain ⟨g₈, F, kg8, hf⟩ := FN.freeze (mus := [_]) [_, _] F
    refine ⟨g₈, _, _, [], _, rfl, kg7.tr kg8, F, rfl, fun q => ?_⟩
    rw [List.range_succ, List.map_append, List.map_cons, List.map_nil]
    exact (RepL.up (kg7.tr kg8) (hys q)).append (.cons (.tup (tupOfP (hf _ (.head _))) (.cons (.int _ _) (.cons (.int _ _) (.cons ((hb q).up kg8) .nil)))) .nil)
  case cfin =>
    rintro g' h' m' mus ys tk D1 C kg' ⟨rfl, hys⟩ hlen' hCn F' hgC hsC hCL hne1
    clear F F₄
    refine comp_val hCn F' hgC hsC hCL hne1 fun h₆ F => ?_
    dsimp only
    have hyl := (hys 0).length
    simp only [List.length_map, List.length_range, List.size_toArray] at hyl
    have hcC := cellUp hcC kg'
    have f2 := f2.up kg'
    repeat' ((fail_if_success (with_reducible show wpAny _ _ (call (Value.type "tuple") _) _ _ _)); tb_rel)
    rename FN _ _ _ _ _ _ _ _ _ _ => F
    refine toTup F (F.list (.head _)) (by omega) fun TT h₇ tk₇ F => ?_
    dsimp only
    repeat' ((fail_if_success (with_reducible show wpAny _ _ (call (Value.ref 277) _) _ _ _)); tb_rel)
    rename FN _ _ _ _ _ _ _ _ _ _ => F
    refine wpAny_call (told_empty F.G F.st (by omega) hA1 (dicUp S.dictr kg') S.sysr fun g₇ h₇ t₇ b W hb => ?_)
    have F := F.after W
    have kg7 := W.kg
    clear W
    dsimp only
    repeat' tb_rel
    rename FN _ _ _ _ _ _ _ _ _ _ => F
    obtain ⟨g₉, F, kg9, hf⟩ := F.freezeAll
    refine hR _ _ _ _ F.ret fun q => ?_
    rw [List.size_toArray, hul, hkl] at hys
    exact .tup (tupOfP (hf _ (.head _))) (.cons (.tup (tupOfP (hf _ (.tail _ (.head _)))) (RepL.up (kg7.tr kg9) (hys q))) (.cons ((hb (q + 5)).up kg9) .nil))
/-! MLaw0 -/
def lawDef : Option Stmt := Pg.main.body.getLast?
def lawBody : List Stmt := match lawDef with | some (.FunctionDef (body := b) ..) => b | _ => []
def lawScope : Scope := match lawDef with | some (.FunctionDef (scope := b) ..) => b | _ => default
def lawStmt (i : Nat) : Stmt := (lawBody[i]?).getD (.Pass ⟨0, 0, 0, 0⟩)
def loopBody : List Stmt := match lawStmt 8 with | .For (body := b) .. => b | _ => []
def loopStmt (i : Nat) : Stmt := (loopBody[i]?).getD (.Pass ⟨0, 0, 0, 0⟩)
abbrev lawEnv (L f c1 c2 c3 c4 c5 : Addr) : Env := envX "law" lawScope L f (.ref 428) [("shelf", c5), ("rows", c4), ("read", c3), ("begin", c2), ("pen", c1)]
theorem law_split : lawBody = [lawStmt 0, lawStmt 1, lawStmt 2, lawStmt 3, lawStmt 4, lawStmt 5, lawStmt 6, lawStmt 7, lawStmt 8, lawStmt 9] := rfl
theorem loop_split : loopBody = [loopStmt 0, loopStmt 1, loopStmt 2, loopStmt 3, loopStmt 4, loopStmt 5, loopStmt 6, loopStmt 7, loopStmt 8, loopStmt 9] := rfl
/-! MLawA -/
set_option maxHeartbeats 2000000 in
theorem kinds_stmt {A : Around} {E : Value → Shared → Prop} {s : Shared} {w : World} {mg mb : Str → Option Value} {g₀ h₀ g : Heap} {m : Str → Option Value} {mus : List (Addr × Ob)} {Q : Flow → Shared → Prop} {L f c1 c2 c3 c4 c5 p : Addr} {n count : Int} {tc : Tok}
    (F : FN w mg mb g₀ h₀ g L s.heap m ((p, penP g n) :: mus)) (hd : A.depth + 20 < recursionLimit) (hh : A.handled = none) (hcp : g.IsCell c1 (some (.ref p))) (hct : 1 ≤ count ∧ count ≤ 6) (hn : 0 ≤ n ∧ n ≤ 100) (hm : m "count" = some (.int count tc))
    (hQ : ∀ g' h' tk kl zs ks n', FN w mg mb g₀ h₀ g' L h' (fun y => if y = "kinds" then some (.ref kl) else m y) ((p, penP g' n') :: mus) → Sub g g' → g'.IsList kl zs.toArray → IntsAre zs ks → (ks.length : Int) = count → (∀ k ∈ ks, 0 ≤ k ∧ k ≤ 3) → n ≤ n' → n' ≤ n + count →
      Q .next { s with heap := h', toks := tk }) :
    wpAny (model Pg w) A (exec (lawStmt 3) (lawEnv L f c1 c2 c3 c4 c5)) Q E s := by
  rw [show lawStmt 3 = Stmt.Assign [.Name _ _] (.ListComp _ _ _ _) _ from rfl]
  repeat' ((fail_if_success (with_reducible show wpAny _ _ (call (Value.type "range") _) _ _ _)); tb_rel)
  rename FN _ _ _ _ _ _ _ _ _ _ => F
  refine range_1 F (by omega) (by omega) fun I h₃ oI tk F₃ hit _ k₃ => ?_
  clear F
  refine comp_run (mus₀ := [(p, penP g n)]) (It.range hh I _ _) (fun i g mus ys => ∃ k ks, mus = [(p, penP g k)] ∧ IntsAre ys ks ∧ (∀ k ∈ ks, 0 ≤ k ∧ k ≤ 3) ∧ n ≤ k ∧ k ≤ n + i) ?cc rfl rfl ?n F₃ hit ⟨n, [], rfl, .nil, (fun _ hk => nomatch hk), Int.le_refl _, by simp⟩
    (fun i g mus ys h q hq => by obtain ⟨k, ks, rfl, _⟩ := h; rw [List.mem_singleton.mp hq]; exact ⟨_, .head _, rfl⟩) (fun b hb => .inl (List.mem_singleton.mp hb)) ?cturn ?cfin
  case cc => decide
  case n => simp [sizeLine]; omega
  case cturn =>
    rintro C i g' h m' mus ys D1 x tk oI1 E' hi ⟨tx, rfl⟩ kg' ⟨k, ks, rfl, hys, hks, hk0, hk1⟩ hlen' hCn F'
    clear F₃
    repeat' ((fail_if_success (with_reducible show wpAny _ _ (call (Value.ref 396) _) _ _ _)); tb_rel)
    rename FN _ _ _ _ _ _ _ _ _ _ => F
    refine' draw_FN [_, _, _] F ?ddep ?dlim ?dn ?_
    case ddep => omega
    case dlim => omega
    case dn => omega
    clear F
    intro g₄ h' tk d td F kg hd0 hd1
    simp only [List.cons_append, List.nil_append] at F
    dsimp only
    have hks' : ∀ v, 0 ≤ v ∧ v ≤ 3 → ∀ k ∈ ks ++ [v], 0 ≤ k ∧ k ≤ 3 := fun v hv k hk => by
      rcases List.mem_append.mp hk with hk | hk
      · exact hks k hk
      · rw [List.mem_singleton.mp hk]; exact hv
    obtain rfl | rfl | rfl | rfl | rfl | rfl | rfl : d = 0 ∨ d = 1 ∨ d = 2 ∨ d = 3 ∨ d = 4 ∨ d = 5 ∨ d = 6 := by omega
    all_goals repeat' tb_rel
    all_goals
      rename FN _ _ _ _ _ _ _ _ _ _ => F
      refine ⟨g₄, _, _, _, _, rfl, kg, F.tl, _, _, rfl, hys.append (.cons _ _ .nil), hks' _ ⟨?_, ?_⟩, by omega, by omega⟩ <;> decide
  case cfin =>
    rintro g' h' m' mus' ys tk D1 C kg' ⟨k, ks, rfl, hys, hks, hk0, hk1⟩ hlen' hCn F' hgC hsC hCL hne1
    clear F₃
    refine' comp_use ?hL ?hy ?hp hCn F' hgC hsC hCL hne1 ?_
    case hL => exact rfl
    case hy => exact rfl
    case hp => exact rfl
    intro h₆ tk₆ F
    obtain ⟨g₄, F, kg4, hf⟩ := FN.freeze (mus := [(D1, listP ys)]) ((p, penP g' k) :: mus) F
    have F := F.weak (penP.up kg4)
    have hl := hys.length
    exact hQ _ _ _ _ _ _ _ F (kg'.tr kg4) (listOfP (hf _ (.head _))) hys (by omega) hks hk0 (by omega)
/-! MLawB -/
theorem weakM {w : World} {mg mb : Str → Option Value} {g₀ h₀ g h : Heap} {L d : Addr} {m : Str → Option Value} (mus₁ : List (Addr × Ob)) {mus₂ : List (Addr × Ob)} {P P' : Ob} (F : FN w mg mb g₀ h₀ g L h m (mus₁ ++ (d, P) :: mus₂)) (hP : ∀ o, P o → P' o) :
    FN w mg mb g₀ h₀ g L h m (mus₁ ++ (d, P') :: mus₂) := by
  have F1 : FN w mg mb g₀ h₀ g L h m ((d, P) :: (mus₁ ++ mus₂)) := F.perm (List.perm_middle.symm)
  exact (F1.weak hP).perm List.perm_middle
def RowL (g : Heap) (ra : Addr) (row : List (Int × Int)) : Prop := ∃ tas : List Addr, g.IsList ra (tas.map Value.ref).toArray ∧ All2 (TupAt2 g) tas row
theorem RowL.up {g h : Heap} {ra : Addr} {row : List (Int × Int)} (H : RowL g ra row) (k : Sub g h) : RowL h ra row := let ⟨a, b, c⟩ := H; ⟨a, stays_list k b, c.mono fun _ _ q => q.up k⟩
set_option maxHeartbeats 4000000 in
theorem rows_stmt {A : Around} {E : Value → Shared → Prop} {s : Shared} {w : World} {mg mb : Str → Option Value} {g₀ h₀ g : Heap} {m : Str → Option Value} {mus : List (Addr × Ob)} {Q : Flow → Shared → Prop} {L f c1 c2 c3 c4 c5 p : Addr} {n count : Int} {tc : Tok} {v4 : Option Value}
    (F : FN w mg mb g₀ h₀ g L s.heap m ((p, penP g n) :: (c4, cellP v4) :: mus)) (hd : A.depth + 20 < recursionLimit) (hh : A.handled = none) (hcp : g.IsCell c1 (some (.ref p))) (hct : 1 ≤ count ∧ count ≤ 6) (hn : 0 ≤ n ∧ n ≤ 100) (hm : m "count" = some (.int count tc))
    (hQ : ∀ g' h' tk rl ras rws n', FN w mg mb g₀ h₀ g' L h' m ((p, penP g' n') :: (c4, cellP (some (.ref rl))) :: mus) → Sub g g' → g'.IsList rl (ras.map Value.ref).toArray → All2 (RowL g') ras rws → (rws.length : Int) = count → (∀ r ∈ rws, r.length ≤ 3) → n ≤ n' →
      Q .next { s with heap := h', toks := tk }) :
    wpAny (model Pg w) A (exec (lawStmt 5) (lawEnv L f c1 c2 c3 c4 c5)) Q E s := by
  rw [show lawStmt 5 = Stmt.Assign [.Name _ _] (.ListComp (.ListComp _ [⟨_, _, _, _⟩] _ _) [⟨_, _, _, _⟩] _ _) _ from rfl]
  repeat' ((fail_if_success (with_reducible show wpAny _ _ (call (Value.type "range") _) _ _ _)); tb_rel)
  rename FN _ _ _ _ _ _ _ _ _ _ => F
  refine range_1 F (by omega) (by omega) fun I h₃ oI tk F₃ hit _ k₃ => ?_
  clear F
  refine comp_runC (mus₀ := [(p, penP g n)]) (It.range hh I _ _) (fun i g mus ys => ∃ k ras rws, mus = [(p, penP g k)] ∧ ys = ras.map Value.ref ∧ All2 (RowL g) ras rws ∧ (∀ r ∈ rws, r.length ≤ 3) ∧ n ≤ k ∧ k ≤ n + 4 * i) ?cl ?pu rfl ?hx ?n F₃ hit ⟨n, [], [], rfl, rfl, .nil, (fun _ hk => nomatch hk), Int.le_refl _, by simp⟩
    (fun i g mus ys h q hq => by obtain ⟨k, _, _, rfl, _⟩ := h; rw [List.mem_singleton.mp hq]; exact ⟨_, .head _, rfl⟩) (fun b hb => .inl (List.mem_singleton.mp hb)) ?cturn ?cfin
  case cl => intro n acc; rfl
  case pu => intro h; rfl
  case hx => intro C; rfl
  case n => simp [sizeLine]; omega
  case cturn =>
    rintro C cc i g' h m' mus ys D1 x tk oI1 E' hi ⟨tx, rfl⟩ kg' ⟨k, ras, rws, rfl, rfl, hras, hrl, hk0, hk1⟩ hlen' hCn F'
    clear F₃
    have hcp' := cellUp hcp kg'
    repeat' ((fail_if_success (with_reducible show wpAny _ _ (call (Value.ref 396) _) _ _ _)); tb_rel)
    rename FN _ _ _ _ _ _ _ _ _ _ => F
    refine' draw_FN [_, _, _] F ?ddep ?dlim ?dn ?_
    case ddep => omega
    case dlim => omega
    case dn => omega
    clear F
    intro g₄ h' tk d td F kg hd0 hd1
    simp only [List.cons_append, List.nil_append] at F
    dsimp only
    repeat' ((fail_if_success (with_reducible show wpAny _ _ (call (Value.type "range") _) _ _ _)); tb_rel)
    rename FN _ _ _ _ _ _ _ _ _ _ => F
    refine range_1 F (by omega) (by omega) fun I2 h₅ oI2 tk5 F₅ hit2 _ k₅ => ?_
    clear F
    have kg4 := kg
    have hcp4 := cellUp hcp' kg4
    have F₅ : FN w mg mb g (less h₃ [(I, isP oI1), (p, penP g n)]) g₄ C h₅ m' (((I2, isP oI2) :: [(p, penP g₄ (k + 1)), (cc, cellP (some (.int (0 + (i : Int)) tx)))]) ++ [(D1, listP (ras.map Value.ref)), (I, isP oI1)]) :=
      F₅.perm ((List.reverse_perm [(I, isP oI1), (D1, listP (ras.map Value.ref)), (cc, cellP (some (.int (0 + (i : Int)) tx))), (p, penP g₄ (k + 1))]).cons (I2, isP oI2))
    refine comp_run (mus₀ := [(p, penP g₄ (k + 1)), (cc, cellP (some (.int (0 + (i : Int)) tx)))]) (It.range hh I2 _ _) (fun j g mus ys => ∃ k' tas row, mus = [(p, penP g k'), (cc, cellP (some (.int (0 + (i : Int)) tx)))] ∧ ys = tas.map Value.ref ∧ All2 (TupAt2 g) tas row ∧ k + 1 ≤ k' ∧ k' ≤ k + 1 + j) ?cc2 rfl rfl ?n2 F₅ hit2 ⟨k + 1, [], [], rfl, rfl, .nil, Int.le_refl _, by simp⟩
      (fun i g mus ys h q hq => by
        obtain ⟨k, _, _, rfl, _⟩ := h
        rcases List.mem_cons.mp hq with rfl | hq
        · exact ⟨_, .head _, rfl⟩
        · rw [List.mem_singleton.mp hq]; exact ⟨_, .tail _ (.head _), rfl⟩) (fun b hb => .inl (List.mem_singleton.mp hb)) ?cturn2 ?cfin2
    case cc2 => decide
    case n2 => simp [sizeLine]; omega
    case cturn2 =>
      rintro C2 j g₆ h₆ m₆ mus ys2 D2 x tk₆ oI6 E6 hj ⟨ty, rfl⟩ kg6 ⟨k', tas, row, rfl, rfl, htas, hk0', hk1'⟩ hlen6 hCn6 F6
      clear F₅
      repeat' ((fail_if_success (with_reducible show wpAny _ _ (call (Value.ref 396) _) _ _ _)); tb_rel)
      rename FN _ _ _ _ _ _ _ _ _ _ => F
      refine' draw_FN [_, _] F ?ddep ?dlim ?dn ?_
      case ddep => omega
      case dlim => omega
      case dn => omega
      clear F
      intro g₇ h' tk d5 td F kg hd5 hd51
      simp only [List.cons_append, List.nil_append] at F
      dsimp only
      have kg7 := kg
      repeat' tb_rel
      rename FN _ _ _ _ _ _ _ _ _ _ => F
      obtain ⟨g₈, F, kg8, hf⟩ := FN.freeze (mus := [_]) [_, _, _, _] F
      have F := weakM [_, _] F (penP.up kg8)
      simp only [List.cons_append, List.nil_append] at F
      exact ⟨g₈, _, _, _, _, rfl, kg7.tr kg8, F, k' + 1, tas ++ [_], row ++ [(1 + d5, 100 * (0 + (i : Int)) + (0 + (j : Int)))], rfl, by simp, (htas.mono fun _ _ q => q.up (kg7.tr kg8)).snoc ⟨_, _, tupOfP (hf _ (.head _))⟩, by omega, by omega⟩
    case cfin2 =>
      rintro g₆ h₆ m₆ mus' ys2 tk₆ D2 C2 kg6 ⟨k', tas, row, rfl, rfl, htas, hk0', hk1'⟩ hlen6 hCn6 F6 hgC6 hsC6 hCL6 hne6
      clear F₅
      refine comp_val hCn6 F6 hgC6 hsC6 hCL6 hne6 fun h₇ F => ?_
      obtain ⟨g₈, F, kg8, hf⟩ := FN.freeze (mus := [(D2, listP (tas.map Value.ref))]) ([(p, penP g₆ k'), (cc, cellP (some (.int (0 + (i : Int)) tx)))] ++ [(D1, listP (ras.map Value.ref)), (I, isP oI1)]) F
      have F := F.weak (penP.up kg8)
      have F : FN w mg mb g (less h₃ [(I, isP oI1), (p, penP g n)]) g₈ C h₇ m' [(I, isP oI1), (D1, listP (ras.map Value.ref)), (cc, cellP (some (.int (0 + (i : Int)) tx))), (p, penP g₈ k')] :=
        F.perm (List.reverse_perm [(p, penP g₈ k'), (cc, cellP (some (.int (0 + (i : Int)) tx))), (D1, listP (ras.map Value.ref)), (I, isP oI1)])
      have kgg := kg4.tr (kg6.tr kg8)
      have hl := htas.length
      simp only [List.length_map] at hlen6
      refine ⟨g₈, _, _, _, _, _, rfl, kgg, F, k', ras ++ [D2], rws ++ [row], rfl, by simp, (hras.mono fun _ _ q => q.up kgg).snoc ⟨tas, listOfP (hf _ (.head _)), htas.mono fun _ _ q => q.up kg8⟩, fun r hr => ?_, by omega, by omega⟩
      rcases List.mem_append.mp hr with hr | hr
      · exact hrl r hr
      · rw [List.mem_singleton.mp hr]; omega
  case cfin =>
    rintro g' h' m' mus' ys tk D1 C kg' ⟨k, ras, rws, rfl, rfl, hras, hrl, hk0, hk1⟩ hlen' hCn F' hgC hsC hCL hne1
    clear F₃
    refine comp_val hCn F' hgC hsC hCL hne1 fun h₆ F => ?_
    dsimp only
    refine sC [_, _] F rfl rfl rfl fun h₇ F => ?_
    simp only [List.cons_append, List.nil_append] at F
    obtain ⟨g₄, F, kg4, hf⟩ := FN.freeze (mus := [(D1, listP (ras.map Value.ref))]) ((p, penP g' k) :: (c4, cellP (some (.ref D1))) :: mus) F
    have F := F.weak (penP.up kg4)
    have hl := hras.length
    simp only [List.length_map] at hlen'
    exact hQ _ _ _ _ _ _ _ F (kg'.tr kg4) (listOfP (hf _ (.head _))) (hras.mono fun _ _ q => q.up kg4) (by omega) hrl hk0
/-! MLawC -/
def lamArgs : PySem.Expr → Arguments
  | .Lambda a _ _ _ => a
  | _ => default
def lamBody : PySem.Expr → PySem.Expr
  | .Lambda _ b _ _ => b
  | e => e
def lamScope : PySem.Expr → Scope
  | .Lambda _ _ s _ => s
  | _ => default
def readLam : PySem.Expr := match lawStmt 7 with
  | .Assign _ v _ => v
  | _ => .Constant .none 0 ⟨0, 0, 0, 0⟩
abbrev lamQ : Str := Str.ofString "law" ++ Str.ofString ".<locals>." ++ "<lambda>"
theorem bytesItem0 {prog : Program} {w : World} {A : Around} {E : Value → Shared → Prop} {s : Shared} {Q : Value → Shared → Prop} {value slice : PySem.Expr} {t u : Tok} {i : Nat} (hi : i < 100) (h : ∀ t' k, Q (.int (65 + (i : Int)) t') { s with toks := k })
    (hs : subscripted slice false (.bytes (byteArr [65 + (i : Int)]) t) (.int 0 u) = operate [.bytes (byteArr [65 + (i : Int)]) t, .int 0 u] (getItem (.bytes (byteArr [65 + (i : Int)]) t) (.int 0 u))) :
    wpAny (model prog w) A (subscriptTail value slice (.bytes (byteArr [65 + (i : Int)]) t) (.int 0 u)) Q E s := by
  have hk : KBw.bInts (byteArr [65 + (i : Int)]) = [65 + (i : Int)] := KBa.ints_make (fun n hn => by rw [List.mem_singleton.mp hn]; omega)
  refine tail_any (typeIs_bytes _ _ _) FB.slot_bytes_getitem.lookup ?_ hs
  have e : (byteArr [65 + (i : Int)]).toList.toArray = byteArr [65 + (i : Int)] := Array.toArray_toList
  rw [← e]
  refine getItem_bytes (l := (byteArr [65 + (i : Int)]).toList) (by simp [byteArr]) (by decide) (by simp [byteArr]) ?_
  rw [KBw.getD_ints]
  rw [show ((byteArr [65 + (i : Int)]).toList.map fun c => ((c.toNat : Nat) : Int)) = [65 + (i : Int)] from hk]
  exact h _ _
def rowsFn (rws : List (List (Int × Int))) (i : Nat) : List (Int × Int) := (rws[i]?).getD []
set_option maxHeartbeats 1000000 in
theorem read_reads {w : World} {mg mb : Str → Option Value} {g : Heap} {rd sh rl c4 : Addr} {pm cdv ctv : Value} {ras : List Addr} {rws : List (List (Int × Int))} {n : Nat}
    (hf : g.get? rd = some (lamObj "<lambda>" lamQ (lamArgs readLam) (lamBody readLam) (lamScope readLam) [("rows", c4)] pm cdv ctv)) (hcr : g.CodeRec cdv lamQ) (hc : g.IsCell c4 (some (.ref rl))) (hrl : g.IsList rl (ras.map Value.ref).toArray) (hras : All2 (RowL g) ras rws) (hn : rws.length = n) (hn6 : n ≤ 6) :
    Reads1 w mg mb g rd sh n (rowsFn rws) := by
  intro A' s' g' x i tk R' hd hh G kg k hx hi hR
  have hc' := cellUp hc kg
  have hrl' := stays_list kg hrl
  refine' enterE (B := s'.heap) (binds := [(Str.ofString "held", .ref sh), (Str.ofString "stream", .ref x)]) G k (Sub.rfl' _) ?hroom ((kg.tr k) _ _ hf) (codeRecUp hcr (kg.tr k)) ?hbind ?hloc ?hcell ?hco ?hgen ?hk ?_
  case hroom => omega
  case hbind => exact rfl
  case hloc => exact locs rfl
  case hcell => decide
  case hco => exact rfl
  case hgen => exact rfl
  case hk => exact rfl
  intro L h₁ A₁ F k₁ hL D
  rw [show lamBody readLam = .Subscript (.Name _ _) _ _ from rfl]
  repeat' ((fail_if_success (with_reducible show wpAny _ _ (subscriptTail _ _ (Value.bytes _ _) _) _ _ _)); tb_rel)
  refine bytesItem0 (by omega) (fun t' k' => ?_) ?hs
  case hs => with_unfolding_all rfl
  repeat' ((fail_if_success (with_reducible show wpAny _ _ (subscriptTail _ _ (Value.ref _) _) _ _ _)); tb_rel)
  obtain ⟨ra, row, e1, e2, hrow⟩ := hras.get (i := i) (by rw [hras.length]; omega)
  rename FN _ _ _ _ _ _ _ _ _ _ => F
  refine' itemL (F.olist hrl') ?a ?b (v := .ref ra) ?x ?_ ?s
  case a => omega
  case b => omega
  case x => rw [show (65 + (i : Int) - 65).toNat = i by omega, List.getElem?_map, e1]; rfl
  case s => with_unfolding_all rfl
  have hrow' := hrow.up kg
  refine hR _ _ _ _ F.ret ?_
  obtain ⟨tas, q1, q2⟩ := hrow'
  exact ⟨tas, q1, by unfold rowsFn; rw [e2]; exact q2⟩
set_option maxHeartbeats 1000000 in
theorem read_stmt {A : Around} {E : Value → Shared → Prop} {s : Shared} {w : World} {mg mb : Str → Option Value} {g₀ h₀ g : Heap} {m : Str → Option Value} {mus : List (Addr × Ob)} {Q : Flow → Shared → Prop} {L f c1 c2 c3 c4 c5 : Addr} {v3 : Option Value}
    (F : FN w mg mb g₀ h₀ g L s.heap m ((426, tabP g lamQ) :: (c3, cellP v3) :: mus)) (C : CodeHd g 428 426)
    (hQ : ∀ g' h' tk rd pm cdv ctv, FN w mg mb g₀ h₀ g' L h' m ((426, tabP g' lamQ) :: (c3, cellP (some (.ref rd))) :: mus) → Sub g g' →
      g'.get? rd = some (lamObj "<lambda>" lamQ (lamArgs readLam) (lamBody readLam) (lamScope readLam) [("rows", c4)] pm cdv ctv) → g'.CodeRec cdv lamQ → Q .next { s with heap := h', toks := tk }) :
    wpAny (model Pg w) A (exec (lawStmt 7) (lawEnv L f c1 c2 c3 c4 c5)) Q E s := by
  rw [show lawStmt 7 = .Assign [.Name _ _] (.Lambda (lamArgs readLam) (lamBody readLam) (lamScope readLam) _) _ from rfl]
  repeat' ((fail_if_success (with_reducible show wpAny _ _ (eval (Expr.Lambda _ _ _ _) _) _ _ _)); tb_rel)
  refine mkLam [] F C rfl rfl rfl rfl rfl fun g' h' tk rd pm cdv ctv F kg hf hcr => ?_
  simp only [List.nil_append] at F
  refine sC [_] F rfl rfl rfl fun h₇ F => ?_
  exact hQ _ _ _ _ _ _ _ F kg hf hcr
/-! MLawD -/
theorem FN.afterX {w : World} {mg mb : Str → Option Value} {g₀ h₀ g h h' : Heap} {L : Addr} {m : Str → Option Value} {mus : List (Addr × Ob)} (F : FN w mg mb g₀ h₀ g L h m mus) (k : Sub (h.hide L) h') (u : h.UpToSlots h') : FN w mg mb g₀ h₀ g L h' m mus where
  kg := F.kg
  st := (sub_hide_of F.st F.gL).tr k
  kh := (sub_hide_of F.kh F.oL).tr k
  fr := F.fr
  gr := F.gr
  ns := u.ns F.ns
  oL := F.oL
  gL := F.gL
  nw := fun p hp => let ⟨⟨o, ho, hP⟩, r⟩ := F.nw p hp; ⟨⟨o, k _ _ ((Heap.hide_ne h r.1).trans ho), hP⟩, r⟩
  nd := F.nd
def callLam (s : Stmt) : PySem.Expr := match s with
  | .Assign _ (.Call _ [l] _ _) _ => l
  | _ => .Constant .none 0 ⟨0, 0, 0, 0⟩
def extLam : PySem.Expr := callLam (loopStmt 1)
def rcLam : PySem.Expr := callLam (loopStmt 3)
def ExtOK (ls : List (Option Int)) (ks : List Int) (v : Int) (g : Heap) (u : Value) : Prop := ∃ fl rs line, u = .ref fl ∧ walkF ls ks (ls.length + 1) [] (some v) = some line ∧ g.IsList fl (rs.map Value.ref).toArray ∧ All2 (IsRef g) rs line
def RcOK (w : World) (ls : List (Option Int)) (ks : List Int) (rows : Nat → List (Int × Int)) (v : Int) (g : Heap) (u : Value) : Prop :=
  ∃ D kvs line, u = .ref D ∧ walkF ls ks (ls.length + 1) [] (some v) = some line ∧ g.DictOf (intKind Pg w) D kvs ∧ (D == sysModules) = false ∧ All2 KV kvs ((rowsOf rows line).foldl addNew []) ∧ kvs.length ≤ 18
set_option maxHeartbeats 1000000 in
theorem ask_ext {s : Shared} {w : World} {mg mb : Str → Option Value} {g : Heap} {ask sh td tr nt nm c2 c5 : Addr} {ts : List Addr} {ls : List (Option Int)} {ks : List Int} {v : Int} {tv : Tok} {pm cdv ctv : Value}
    (G : Gr w mg mb g) (k : Sub g s.heap) (hf : g.get? ask = some (lamObj "<lambda>" lamQ (lamArgs extLam) (lamBody extLam) (lamScope extLam) [("shelf", c5), ("begin", c2)] pm cdv ctv)) (hcr : g.CodeRec cdv lamQ)
    (hb : s.heap.IsCell c2 (some (.int v tv))) (hs : g.IsCell c5 (some (.ref sh))) (S : ShelfIs w g sh ls ks td tr nt nm ts) (hl : ls.length ≤ 6) (hk0 : ∀ k ∈ ks, 0 ≤ k) (hv : 0 < v) :
    Asks w s g 40 ask (ExtOK ls ks v) (walkF ls ks (ls.length + 1) [] (some v) = none) := by
  intro A' s' B' lf' R' hd hh hfr kss hgB hB hF hok hbad
  have hb' := cellUp hb kss
  refine' enterE (B := s'.heap) (binds := []) G (k.tr kss) (Sub.rfl' _) ?hroom ((k.tr kss) _ _ hf) (codeRecUp hcr (k.tr kss)) ?hbind ?hloc ?hcell ?hco ?hgen ?hk ?_
  case hroom => omega
  case hbind => exact rfl
  case hloc => exact locs rfl
  case hcell => decide
  case hco => exact rfl
  case hgen => exact rfl
  case hk => exact rfl
  intro L h₁ A₁ F k₁ hL D
  have hdep := D.depth
  have hfrA := D.frames
  rw [hfr, Option.map_some] at hfrA
  have hBL : B'.get? L = none := none_of_sub hB hL
  have hA1 : A₁.handled = none := D.handled.trans hh
  rw [show lamBody extLam = .Call (.Name _ _) [_, _] [] _ from rfl]
  repeat' ((fail_if_success (with_reducible show wpAny _ _ (call (Value.ref 254) _) _ _ _)); tb_rel)
  rename FN _ _ _ _ _ _ _ _ _ _ => F
  refine ref_FN F (by omega) ?_
  clear F
  intro g₅ h' tk r F kg hn0 hr
  dsimp only
  have kg5 := kg
  repeat' ((fail_if_success (with_reducible show wpAny _ _ (call (Value.ref 377) _) _ _ _)); tb_rel)
  rename FN _ _ _ _ _ _ _ _ _ _ => F
  refine wpAny_call (ext_spec F.G F.st (by omega) hA1 hfrA (hB.tr F.kh) (Heap.FunFrames.cons (by intro q; cases q) rfl F.ns hBL (hF.of_keeps fun b o q _ => ⟨o, F.kh _ _ q, rfl⟩)) (S.up kg5) hl hk0 hr hv ?ok ?bad)
  case bad =>
    intro hW h' t' e H u
    refine leave_fly (s := { s' with heap := h', toks := t' }) hfrA rfl H fun h3 H3 u3 => ?_
    exact hbad hW _ _ _ H3 ((Heap.UpToSlots.of_keeps F.kh).trans (u.trans u3))
  case ok =>
    intro g₃ h₃ t₃ fl rs line hW W hfl hrs
    have F := F.after W
    dsimp only
    exact hok _ _ _ _ F.ret ⟨fl, rs, line, rfl, hW, hfl, hrs⟩
set_option maxHeartbeats 1000000 in
theorem ask_rc {s : Shared} {w : World} {mg mb : Str → Option Value} {g : Heap} {ask sh td tr nt nm c2 c3 c5 rd : Addr} {ts : List Addr} {ls : List (Option Int)} {ks : List Int} {v : Int} {tv : Tok} {pm cdv ctv : Value} {rows : Nat → List (Int × Int)}
    (G : Gr w mg mb g) (k : Sub g s.heap) (hf : g.get? ask = some (lamObj "<lambda>" lamQ (lamArgs rcLam) (lamBody rcLam) (lamScope rcLam) [("shelf", c5), ("read", c3), ("begin", c2)] pm cdv ctv)) (hcr : g.CodeRec cdv lamQ)
    (hb : s.heap.IsCell c2 (some (.int v tv))) (hs : g.IsCell c5 (some (.ref sh))) (hs3 : g.IsCell c3 (some (.ref rd))) (S : ShelfIs w g sh ls ks td tr nt nm ts) (hl : ls.length ≤ 6) (hk0 : ∀ k ∈ ks, 0 ≤ k) (hv : 0 < v)
    (hfn : FnAt rd g) (hrd : Reads1 w mg mb g rd sh ls.length rows) (hrw : ∀ i, (rows i).length ≤ 3) :
    Asks w s g 50 ask (RcOK w ls ks rows v) (walkF ls ks (ls.length + 1) [] (some v) = none) := by
  intro A' s' B' lf' R' hd hh hfr kss hgB hB hF hok hbad
  have hb' := cellUp hb kss
  refine' enterE (B := s'.heap) (binds := []) G (k.tr kss) (Sub.rfl' _) ?hroom ((k.tr kss) _ _ hf) (codeRecUp hcr (k.tr kss)) ?hbind ?hloc ?hcell ?hco ?hgen ?hk ?_
  case hroom => omega
  case hbind => exact rfl
  case hloc => exact locs rfl
  case hcell => decide
  case hco => exact rfl
  case hgen => exact rfl
  case hk => exact rfl
  intro L h₁ A₁ F k₁ hL D
  have hdep := D.depth
  have hfrA := D.frames
  rw [hfr, Option.map_some] at hfrA
  have hBL : B'.get? L = none := none_of_sub hB hL
  have hA1 : A₁.handled = none := D.handled.trans hh
  rw [show lamBody rcLam = .Call (.Name _ _) [_, _, _] [] _ from rfl]
  repeat' ((fail_if_success (with_reducible show wpAny _ _ (call (Value.ref 254) _) _ _ _)); tb_rel)
  rename FN _ _ _ _ _ _ _ _ _ _ => F
  refine ref_FN F (by omega) ?_
  clear F
  intro g₅ h' tk r F kg hn0 hr
  dsimp only
  have kg5 := kg
  repeat' ((fail_if_success (with_reducible show wpAny _ _ (call (Value.ref 384) _) _ _ _)); tb_rel)
  rename FN _ _ _ _ _ _ _ _ _ _ => F
  have hrd5 : Reads1 w mg mb g₅ rd sh ls.length rows := fun A' s' g' x i tk R' a1 a2 a3 a4 => hrd A' s' g' x i tk R' a1 a2 a3 (kg5.tr a4)
  refine wpAny_call (rc_spec F.G F.st (by omega) hA1 hfrA (hB.tr F.kh) (Heap.FunFrames.cons (by intro q; cases q) rfl F.ns hBL (hF.of_keeps fun b o q _ => ⟨o, F.kh _ _ q, rfl⟩)) (S.up kg5) hl hk0 hr hv (FnAt.up hfn kg5) hrd5 hrw ?ok ?bad)
  case bad =>
    intro hW h' t' e H u
    refine leave_fly (s := { s' with heap := h', toks := t' }) hfrA rfl H fun h3 H3 u3 => ?_
    exact hbad hW _ _ _ H3 ((Heap.UpToSlots.of_keeps F.kh).trans (u.trans u3))
  case ok =>
    intro g₃ h₃ t₃ D kvs line hW W hD hsys hkv hkl
    have F := F.after W
    dsimp only
    exact hok _ _ _ _ F.ret ⟨D, kvs, line, rfl, hW, hD, hsys, hkv, hkl⟩
/-! MLawE -/
structure Dat where
  (sh td tr nt nm lk kl rl rd bt c3 c4 c5 : Addr)
  ts : List Addr
  (ys zs : List Value)
  ls : List (Option Int)
  ks : List Int
  ras : List Addr
  rws : List (List (Int × Int))
theorem Reads1.up {w : World} {mg mb : Str → Option Value} {g g' : Heap} {rd sh : Addr} {n : Nat} {rows : Nat → List (Int × Int)} (H : Reads1 w mg mb g rd sh n rows) (k : Sub g g') : Reads1 w mg mb g' rd sh n rows :=
  fun A' s' g' x i tk R' a1 a2 a3 a4 => H A' s' g' x i tk R' a1 a2 a3 (k.tr a4)
/-- what stands once the shelf is built -/
structure LF (w : World) (mg mb : Str → Option Value) (d : Dat) (g : Heap) : Prop where
  S : ShelfIs w g d.sh d.ls d.ks d.td d.tr d.nt d.nm d.ts
  hl : d.ls.length ≤ 6
  hk0 : ∀ k ∈ d.ks, 0 ≤ k
  hln : d.ks.length = d.ls.length
  hrn : d.rws.length = d.ls.length
  hrw : ∀ r ∈ d.rws, r.length ≤ 3
  cS : g.IsCell d.c5 (some (.ref d.sh))
  cR : g.IsCell d.c4 (some (.ref d.rl))
  cD : g.IsCell d.c3 (some (.ref d.rd))
  lk : g.IsList d.lk d.ys.toArray
  kl : g.IsList d.kl d.zs.toArray
  hys : All2 LinkV d.ys d.ls
  hzs : IntsAre d.zs d.ks
  rl : g.IsList d.rl (d.ras.map Value.ref).toArray
  hras : All2 (RowL g) d.ras d.rws
  fn : FnAt d.rd g
  rd : Reads1 w mg mb g d.rd d.sh d.ls.length (rowsFn d.rws)
  before : ∀ q, Rep g (q + 7) (ptShelf d.ls d.ks) (.ref d.bt)
  code : CodeHd g 428 426
theorem LF.up {w : World} {mg mb : Str → Option Value} {d : Dat} {g g' : Heap} (Z : LF w mg mb d g) (k : Sub g g') : LF w mg mb d g' :=
  ⟨Z.S.up k, Z.hl, Z.hk0, Z.hln, Z.hrn, Z.hrw, cellUp Z.cS k, cellUp Z.cR k, cellUp Z.cD k, stays_list k Z.lk, stays_list k Z.kl, Z.hys, Z.hzs, stays_list k Z.rl, Z.hras.mono fun _ _ q => q.up k, FnAt.up Z.fn k, Z.rd.up k, fun q => (Z.before q).up k, Z.code.keeps k⟩
theorem LF.rows {w : World} {mg mb : Str → Option Value} {d : Dat} {g : Heap} (Z : LF w mg mb d g) (i : Nat) : (rowsFn d.rws i).length ≤ 3 := by
  unfold rowsFn
  cases h : d.rws[i]? with
  | none => simp
  | some r => exact Z.hrw r (List.mem_of_getElem? h)
section
variable {A : Around} {E : Value → Shared → Prop} {s : Shared} {w : World} {mg mb : Str → Option Value} {g₀ h₀ g : Heap} {m : Str → Option Value} {mus : List (Addr × Ob)} {Q : Flow → Shared → Prop} {L f c1 c2 : Addr} {v : Int} {tv : Tok} {d : Dat} {I : Addr} {oI : Obj}
set_option maxHeartbeats 1000000 in
theorem line_stmt (F : FN w mg mb g₀ h₀ g L s.heap m ((I, isP oI) :: (c2, cellP (some (.int v tv))) :: mus)) (hd : A.depth + 60 < recursionLimit) (Z : LF w mg mb d g) (m1 : m "links" = some (.ref d.lk)) (m2 : m "kinds" = some (.ref d.kl))
    (hok : ∀ g' h' tk D vs line, walkF d.ls d.ks (d.ls.length + 1) [] (some v) = some line → FN w mg mb g₀ h₀ g' L h' (fun y => if y = "line" then some (.ref D) else m y) ((I, isP oI) :: (c2, cellP (some (.int v tv))) :: mus) → Sub g g' →
      g'.IsList D vs.toArray → IntsAre vs line → Q .next { s with heap := h', toks := tk })
    (hbad : walkF d.ls d.ks (d.ls.length + 1) [] (some v) = none → ∀ g' h' tk, FN w mg mb g₀ h₀ g' L h' (fun y => if y = "line" then some .none else m y) ((I, isP oI) :: (c2, cellP (some (.int v tv))) :: mus) → Sub g g' → Q .next { s with heap := h', toks := tk }) :
    wpAny (model Pg w) A (exec (loopStmt 0) (lawEnv L f c1 c2 d.c3 d.c4 d.c5)) Q E s := by
  rw [show loopStmt 0 = .Assign [.Name _ _] (.Call (.Name _ _) [_, _, _] [] _) _ from rfl]
  repeat' ((fail_if_success (with_reducible show wpAny _ _ (call (Value.ref 417) _) _ _ _)); tb_rel)
  rename FN _ _ _ _ _ _ _ _ _ _ => F
  refine wpAny_call (lw_spec F.G F.st (by omega) Z.lk Z.kl Z.hys Z.hzs Z.hl Z.hln ?ok ?bad)
  case ok =>
    intro g₂ h₂ t₂ D vs line hW W hD hvs
    have F := F.after W
    have kg2 := W.kg
    clear W
    dsimp only
    repeat' tb_rel
    rename FN _ _ _ _ _ _ _ _ _ _ => F
    exact hok _ _ _ _ _ _ hW F kg2 hD hvs
  case bad =>
    intro hW g₂ h₂ t₂ W
    have F := F.after W
    have kg2 := W.kg
    clear W
    dsimp only
    repeat' tb_rel
    rename FN _ _ _ _ _ _ _ _ _ _ => F
    exact hbad hW _ _ _ F kg2
set_option maxHeartbeats 1000000 in
theorem heard_stmt (F : FN w mg mb g₀ h₀ g L s.heap m ((I, isP oI) :: (c2, cellP (some (.int v tv))) :: (426, tabP g lamQ) :: mus)) (hd : A.depth + 60 < recursionLimit) (hh : A.handled = none) (hfr : A.frames = some [lawEnv L f c1 c2 d.c3 d.c4 d.c5]) (Z : LF w mg mb d g) (hv : 0 < v)
    (hok : ∀ g' h' tk fl rs line, walkF d.ls d.ks (d.ls.length + 1) [] (some v) = some line → FN w mg mb g₀ h₀ g' L h' (fun y => if y = "heard" then some (.ref fl) else m y) ((I, isP oI) :: (c2, cellP (some (.int v tv))) :: (426, tabP g' lamQ) :: mus) → Sub g g' →
      g'.IsList fl (rs.map Value.ref).toArray → All2 (IsRef g') rs line → Q .next { s with heap := h', toks := tk })
    (hbad : walkF d.ls d.ks (d.ls.length + 1) [] (some v) = none → ∀ g' h' tk, FN w mg mb g₀ h₀ g' L h' (fun y => if y = "heard" then some .none else m y) ((I, isP oI) :: (c2, cellP (some (.int v tv))) :: (426, tabP g' lamQ) :: mus) → Sub g g' → Q .next { s with heap := h', toks := tk }) :
    wpAny (model Pg w) A (exec (loopStmt 1) (lawEnv L f c1 c2 d.c3 d.c4 d.c5)) Q E s := by
  rw [show loopStmt 1 = .Assign [.Name _ _] (.Call (.Name _ _) [.Lambda (lamArgs extLam) (lamBody extLam) (lamScope extLam) _] [] _) _ from rfl]
  repeat' ((fail_if_success (with_reducible show wpAny _ _ (eval (Expr.Lambda _ _ _ _) _) _ _ _)); tb_rel)
  rename FN _ _ _ _ _ _ _ _ _ _ => F
  refine mkLam [_, _] F Z.code rfl rfl rfl rfl rfl fun g₁ h₁ t₁ ask pm cdv ctv F kg1 hf hcr => ?_
  simp only [List.cons_append, List.nil_append] at F
  have Z := Z.up kg1
  repeat' ((fail_if_success (with_reducible show wpAny _ _ (call (Value.ref 424) _) _ _ _)); tb_rel)
  rename FN _ _ _ _ _ _ _ _ _ _ => F
  refine wpAny_call (heard_spec (B := Heap.hide _ L) F.G F.st (n := 40) (by omega) hh hfr (sub_hide_of F.st F.gL) (sub_hide _ _) (Heap.FunFrames.cons (m := m) (fun q => nomatch (show ScopeKind.function = ScopeKind.module from q)) rfl F.ns (Heap.hide_self _ _) trivial) ⟨_, _, _, _, F.st _ _ hf⟩
    (ask_ext F.G F.st hf hcr (F.cell (.tail _ (.head _))) Z.cS Z.S Z.hl Z.hk0 hv) ?ok ?bad)
  case ok =>
    rintro g₂ h₂ t₂ _ W ⟨fl, rs, line, rfl, hW, hfl, hrs⟩
    have F := F.after W
    have kg2 := W.kg
    clear W
    have F := weakM [_, _] F (tabP.up kg2)
    simp only [List.cons_append, List.nil_append] at F
    dsimp only
    repeat' tb_rel
    rename FN _ _ _ _ _ _ _ _ _ _ => F
    exact hok _ _ _ _ _ _ hW F (kg1.tr kg2) hfl hrs
  case bad =>
    intro hW h' t' kB u
    have F := F.afterX kB u
    clear kB u
    dsimp only
    repeat' tb_rel
    rename FN _ _ _ _ _ _ _ _ _ _ => F
    exact hbad hW _ _ _ F kg1
set_option maxHeartbeats 1000000 in
theorem found_stmt (F : FN w mg mb g₀ h₀ g L s.heap m ((I, isP oI) :: (c2, cellP (some (.int v tv))) :: (426, tabP g lamQ) :: mus)) (hd : A.depth + 60 < recursionLimit) (hh : A.handled = none) (hfr : A.frames = some [lawEnv L f c1 c2 d.c3 d.c4 d.c5]) (Z : LF w mg mb d g) (hv : 0 < v)
    (hok : ∀ g' h' tk D kvs line, walkF d.ls d.ks (d.ls.length + 1) [] (some v) = some line → FN w mg mb g₀ h₀ g' L h' (fun y => if y = "found" then some (.ref D) else m y) ((I, isP oI) :: (c2, cellP (some (.int v tv))) :: (426, tabP g' lamQ) :: mus) → Sub g g' →
      g'.DictOf (intKind Pg w) D kvs → (D == sysModules) = false → All2 KV kvs ((rowsOf (rowsFn d.rws) line).foldl addNew []) → kvs.length ≤ 18 → Q .next { s with heap := h', toks := tk })
    (hbad : walkF d.ls d.ks (d.ls.length + 1) [] (some v) = none → ∀ g' h' tk, FN w mg mb g₀ h₀ g' L h' (fun y => if y = "found" then some .none else m y) ((I, isP oI) :: (c2, cellP (some (.int v tv))) :: (426, tabP g' lamQ) :: mus) → Sub g g' → Q .next { s with heap := h', toks := tk }) :
    wpAny (model Pg w) A (exec (loopStmt 3) (lawEnv L f c1 c2 d.c3 d.c4 d.c5)) Q E s := by
  rw [show loopStmt 3 = .Assign [.Name _ _] (.Call (.Name _ _) [.Lambda (lamArgs rcLam) (lamBody rcLam) (lamScope rcLam) _] [] _) _ from rfl]
  repeat' ((fail_if_success (with_reducible show wpAny _ _ (eval (Expr.Lambda _ _ _ _) _) _ _ _)); tb_rel)
  rename FN _ _ _ _ _ _ _ _ _ _ => F
  refine mkLam [_, _] F Z.code rfl rfl rfl rfl rfl fun g₁ h₁ t₁ ask pm cdv ctv F kg1 hf hcr => ?_
  simp only [List.cons_append, List.nil_append] at F
  have Z := Z.up kg1
  repeat' ((fail_if_success (with_reducible show wpAny _ _ (call (Value.ref 424) _) _ _ _)); tb_rel)
  rename FN _ _ _ _ _ _ _ _ _ _ => F
  refine wpAny_call (heard_spec (B := Heap.hide _ L) F.G F.st (n := 50) (by omega) hh hfr (sub_hide_of F.st F.gL) (sub_hide _ _) (Heap.FunFrames.cons (m := m) (fun q => nomatch (show ScopeKind.function = ScopeKind.module from q)) rfl F.ns (Heap.hide_self _ _) trivial) ⟨_, _, _, _, F.st _ _ hf⟩
    (ask_rc F.G F.st hf hcr (F.cell (.tail _ (.head _))) Z.cS Z.cD Z.S Z.hl Z.hk0 hv Z.fn Z.rd Z.rows) ?ok ?bad)
  case ok =>
    rintro g₂ h₂ t₂ _ W ⟨D, kvs, line, rfl, hW, hD, hsys, hkv, hkl⟩
    have F := F.after W
    have kg2 := W.kg
    clear W
    have F := weakM [_, _] F (tabP.up kg2)
    simp only [List.cons_append, List.nil_append] at F
    dsimp only
    repeat' tb_rel
    rename FN _ _ _ _ _ _ _ _ _ _ => F
    exact hok _ _ _ _ _ _ hW F (kg1.tr kg2) hD hsys hkv hkl
  case bad =>
    intro hW h' t' kB u
    have F := F.afterX kB u
    clear kB u
    dsimp only
    repeat' tb_rel
    rename FN _ _ _ _ _ _ _ _ _ _ => F
    exact hbad hW _ _ _ F kg1
end
/-! MLawF -/
theorem ne_lists {A : Around} {E : Value → Shared → Prop} {s : Shared} {w : World} {Q : Value → Shared → Prop} {g : Heap} {a b : Addr} {vs us : List Value} {p : List PT} (k : Sub g s.heap) (ha : g.IsList a vs.toArray) (hb : g.IsList b us.toArray)
    (hv : RepL g 1 p vs) (hu : RepL g 1 p us) (hun : A.units + 3 < cLine) (h : Q (.bool false) s) : wpAny (model Pg w) A (compareOp .NotEq (.ref a) (.ref b)) Q E s := by
  have hle : vs.length = us.length := by rw [← hv.length, ← hu.length]
  have := SeqAt.RcNeAt.lists (A := A) (s := s) (e := fun _ => true) (stays_list k ha) (stays_list k hb) (by simpa using hle) (by omega) (fun j h1 h2 => RepL.eq k hv hu (by have : A.in1.units = A.units + 1 := rfl; omega) j _ _ (by simp at h1 ⊢) (by simp at h2 ⊢))
  rw [show (!(List.range vs.toArray.size).all fun _ => true) = false by simp] at this
  exact this _ _ _ _ h
def ptPair (v : Int) : PT := .tup [.int v, .int 0]
set_option maxHeartbeats 1000000 in
theorem pair_spec {A : Around} {s : Shared} {w : World} {mg mb : Str → Option Value} {g : Heap} {R : Result → Shared → Prop} {v : Int} {a : Addr}
    (G : Gr w mg mb g) (k : Sub g s.heap) (hd : A.depth + 5 < recursionLimit) (H : IsRef g a v)
    (hR : ∀ g' h' t' b, Grow g s.heap g' h' → Rep g' 1 (ptPair v) (.ref b) → R (.ok (.ret (.ref b))) { s with heap := h', toks := t' }) :
    codeAny (model Pg w) A (.call (.ref 251) ⟨[.ref a], []⟩) R s := by
  obtain ⟨⟨tn, hn⟩, ⟨tg, hg⟩, _⟩ := H
  refine' enter (B := s.heap) (binds := [(Str.ofString "self", .ref a)]) G k (Sub.rfl' _) ?hroom ?ho ?hcd ?hbind ?hloc ?hcell ?hco ?hgen ?hk ?_
  case hroom => omega
  case ho => exact rfl
  case hcd => exact rfl
  case hbind => exact BindsTo.of_eq rfl
  case hloc => exact locs rfl
  case hcell => decide
  case hco => exact rfl
  case hgen => exact rfl
  case hk => exact rfl
  intro L h₁ A₁ F k₁ hL D
  have hdep := D.depth
  repeat' tb_rel
  rename FN _ _ _ _ _ _ _ _ _ _ => F
  obtain ⟨g₃, F, kg3, hf⟩ := F.freezeAll
  exact hR _ _ _ _ F.ret (.tup (tupOfP (hf _ (.head _))) (.cons (.int _ _) (.cons (.int _ _) .nil)))
section
variable {A : Around} {E : Value → Shared → Prop} {s : Shared} {w : World} {mg mb : Str → Option Value} {g₀ h₀ g : Heap} {m : Str → Option Value} {mus : List (Addr × Ob)} {Q : Flow → Shared → Prop} {L f c1 c2 c3 c4 c5 : Addr}
set_option maxHeartbeats 1000000 in
theorem if_bad (F : FN w mg mb g₀ h₀ g L s.heap m mus) (m1 : m "heard" = some .none) (m2 : m "line" = some .none)
    (hQ : ∀ h' tk, FN w mg mb g₀ h₀ g L h' m mus → Q .next { s with heap := h', toks := tk }) :
    wpAny (model Pg w) A (exec (loopStmt 2) (lawEnv L f c1 c2 c3 c4 c5)) Q E s := by
  rw [show loopStmt 2 = .If (.BoolOp .Or [_, .BoolOp .And [_, _] _] _) [.Return _ _] [] _ from rfl]
  repeat' tb_rel
  exact hQ s.heap s.toks F
set_option maxHeartbeats 1000000 in
theorem if_ok {fl D : Addr} {rs : List Addr} {vs : List Value} {line : List Int} (F : FN w mg mb g₀ h₀ g L s.heap m mus) (hu : A.units + 5 < cLine) (hd : A.depth + 60 < recursionLimit) (hh : A.handled = none) (m1 : m "heard" = some (.ref fl)) (m2 : m "line" = some (.ref D))
    (hfl : g.IsList fl (rs.map Value.ref).toArray) (hrs : All2 (IsRef g) rs line) (hD : g.IsList D vs.toArray) (hvs : IntsAre vs line) (hlen : line.length ≤ 6)
    (hQ : ∀ g' h' tk, FN w mg mb g₀ h₀ g' L h' m mus → Sub g g' → Q .next { s with heap := h', toks := tk }) :
    wpAny (model Pg w) A (exec (loopStmt 2) (lawEnv L f c1 c2 c3 c4 c5)) Q E s := by
  rw [show loopStmt 2 = .If (.BoolOp .Or [_, .BoolOp .And [_, _] _] _) [.Return _ _] [] _ from rfl]
  repeat' ((fail_if_success (with_reducible show wpAny _ _ (pyIter _) _ _ _)); tb_rel)
  rename FN _ _ _ _ _ _ _ _ _ _ => F
  have hrl := hrs.length
  have hvl := hvs.length
  refine iter_list F (stays_list F.st hfl) fun I h₄ oI F₄ hit hl4 hne _ k₄ => ?_
  clear F
  refine comp_run (mus₀ := []) (It.list hh I fl hne _) (fun i g mus ys => mus = [] ∧ RepL g 1 ((line.take i).map ptPair) ys) ?cc rfl rfl ?n F₄ ⟨hit, hl4⟩ ⟨rfl, .nil⟩ (fun i g mus ys h p hp => by rw [h.1] at hp; cases hp) (fpC hl4 (fun _ hp => nomatch hp)) ?cturn ?cfin
  case cc => decide
  case n => simp [sizeLine]; omega
  case cturn =>
    rintro C i g' h m' mus ys D1 x tk oI1 E' hi hx kg' ⟨rfl, hys⟩ hlen' hCn F'
    have hi : i < rs.length := by simpa using hi
    obtain ⟨ri, li, e1, e2, hri⟩ := hrs.get hi
    have hx : x = .ref ri := by
      simp only [List.getElem?_toArray, List.getElem?_map, e1, Option.map_some, Option.some.injEq] at hx
      exact hx.symm
    subst hx
    have hri := hri.up kg'
    have hpr := hri.2.2
    clear F₄
    repeat' ((fail_if_success (with_reducible show wpAny _ _ (call (Value.ref 251) _) _ _ _)); tb_rel)
    rename FN _ _ _ _ _ _ _ _ _ _ => F
    refine wpAny_call (pair_spec F.G F.st (by omega) hri fun g₂ h₂ t₂ b W hb => ?_)
    have F := F.after W
    have kg2 := W.kg
    clear W
    refine ⟨g₂, _, _, [], _, rfl, kg2, F, rfl, ?_⟩
    rw [List.take_add_one, e2, Option.toList_some, List.map_append, List.map_cons, List.map_nil]
    exact (hys.up kg2).append (.cons hb .nil)
  case cfin =>
    rintro g' h' m' mus' ys tk D1 C kg' ⟨rfl, hys⟩ hlen' hCn F' hgC hsC hCL hne1
    clear F₄
    refine comp_val hCn F' hgC hsC hCL hne1 fun h₆ F => ?_
    obtain ⟨g₇, F, kg7, hf⟩ := FN.freeze (mus := [(D1, listP ys)]) mus F
    have hL1 := listOfP (hf _ (.head _))
    have hys := hys.up kg7
    simp only [List.size_toArray, List.length_map] at hlen'
    rw [List.take_of_length_le (by simp; omega)] at hys
    have hD7 := stays_list (kg'.tr kg7) hD
    dsimp only
    repeat' ((fail_if_success (with_reducible show wpAny _ _ (pyIter _) _ _ _)); tb_rel)
    rename FN _ _ _ _ _ _ _ _ _ _ => F
    refine iter_list F (stays_list F.st hD7) fun I2 h₈ oI2 F₈ hit8 hl8 hne8 _ k₈ => ?_
    clear F
    refine comp_run (mus₀ := []) (It.list hh I2 D hne8 _) (fun i g mus ys => mus = [] ∧ RepL g 1 ((line.take i).map ptPair) ys) ?cc2 rfl rfl ?n2 F₈ ⟨hit8, hl8⟩ ⟨rfl, .nil⟩ (fun i g mus ys h p hp => by rw [h.1] at hp; cases hp) (fpC hl8 (fun _ hp => nomatch hp)) ?cturn2 ?cfin2
    case cc2 => decide
    case n2 => simp [sizeLine]; omega
    case cturn2 =>
      rintro C2 i g₉ h₉ m₉ mus ys2 D2 x tk oI9 E' hi hx kg9 ⟨rfl, hys2⟩ hlen9 hCn9 F9
      have hi : i < vs.length := by simpa using hi
      have e2 : line[i]? = some (line[i]'(by omega)) := List.getElem?_eq_getElem _
      obtain ⟨ti, e1⟩ := hvs.get i _ e2
      have hx : x = .int (line[i]'(by omega)) ti := by
        simp only [List.getElem?_toArray] at hx; rw [e1] at hx; exact (Option.some.inj hx).symm
      subst hx
      clear F₈
      repeat' tb_rel
      rename FN _ _ _ _ _ _ _ _ _ _ => F
      obtain ⟨gA, F, kgA, hfA⟩ := FN.freeze (mus := [_]) [_, _] F
      refine ⟨gA, _, _, [], _, rfl, kgA, F, rfl, ?_⟩
      rw [List.take_add_one, e2, Option.toList_some, List.map_append, List.map_cons, List.map_nil]
      exact (hys2.up kgA).append (.cons (.tup (tupOfP (hfA _ (.head _))) (.cons (.int _ _) (.cons (.int _ _) .nil))) .nil)
    case cfin2 =>
      rintro g₉ h₉ m₉ mus9 ys2 tk9 D2 C2 kg9 ⟨rfl, hys2⟩ hlen9 hCn9 F9 hgC9 hsC9 hCL9 hne9
      clear F₈
      refine comp_val hCn9 F9 hgC9 hsC9 hCL9 hne9 fun hA F => ?_
      obtain ⟨gB, F, kgB, hfB⟩ := FN.freeze (mus := [(D2, listP ys2)]) mus F
      have hL2 := listOfP (hfB _ (.head _))
      have hys2 := hys2.up kgB
      simp only [List.size_toArray] at hlen9
      rw [List.take_of_length_le (by simp; omega)] at hys2
      have hL1 := stays_list (kg9.tr kgB) hL1
      have hys := hys.up (kg9.tr kgB)
      dsimp only
      have hle : ys.length = ys2.length := by omega
      refine ne_lists F.st hL1 hL2 hys hys2 (by omega) ?_
      repeat' tb_rel
      rename FN _ _ _ _ _ _ _ _ _ _ => F
      exact hQ _ _ _ F ((kg'.tr kg7).tr (kg9.tr kgB))
end
/-! MLawP -/
/-! the plain law of the numbers and worths -/
def getP (acc : List (Int × Int)) (k : Int) : Option Int := (acc.find? fun q => decide (q.1 = k)).map (·.2)
def putP (acc : List (Int × Int)) (p : Int × Int) : List (Int × Int) :=
  if acc.any (fun q => decide (q.1 = p.1)) then acc.map (fun q => if q.1 = p.1 then (q.1, p.2) else q) else acc ++ [p]
theorem getP_cons (q : Int × Int) (l : List (Int × Int)) (k : Int) : getP (q :: l) k = if q.1 = k then some q.2 else getP l k := by
  unfold getP
  rw [List.find?_cons]
  by_cases e : q.1 = k
  · rw [if_pos e, decide_eq_true e]; rfl
  · rw [if_neg e, decide_eq_false e]
theorem getP_append (k : Int) : ∀ (a b : List (Int × Int)), getP (a ++ b) k = (getP a k).or (getP b k)
  | [], b => by simp [getP]
  | q :: a, b => by
    rw [List.cons_append, getP_cons, getP_cons, getP_append k a b]
    by_cases e : q.1 = k
    · rw [if_pos e, if_pos e]; rfl
    · rw [if_neg e, if_neg e]
theorem getP_any {k : Int} : ∀ {acc : List (Int × Int)}, (getP acc k).isSome = acc.any (fun q => decide (q.1 = k))
  | [] => rfl
  | q :: acc => by
    rw [getP_cons, List.any_cons]
    by_cases e : q.1 = k
    · rw [if_pos e, decide_eq_true e]; rfl
    · rw [if_neg e, decide_eq_false e, getP_any, Bool.false_or]
theorem getP_addNew (acc : List (Int × Int)) (p : Int × Int) (k : Int) : getP (addNew acc p) k = (getP acc k).or (getP [p] k) := by
  by_cases h : acc.any (fun q => decide (q.1 = p.1)) = true
  · rw [addNew_old h, getP_cons]
    by_cases e : p.1 = k
    · rw [if_pos e]
      rw [← getP_any, e] at h
      cases q : getP acc k with
      | none => rw [q] at h; cases h
      | some x => rfl
    · rw [if_neg e]; cases getP acc k <;> rfl
  · rw [Bool.not_eq_true] at h
    rw [addNew_new h, getP_append]
theorem getP_fold (k : Int) : ∀ (l acc : List (Int × Int)), getP (l.foldl addNew acc) k = (getP acc k).or (getP l k)
  | [], acc => by simp [getP]
  | p :: l, acc => by
    rw [List.foldl_cons, getP_fold k l, getP_addNew, Option.or_assoc, ← getP_append]; rfl
theorem getP_putP (acc : List (Int × Int)) (p : Int × Int) (k : Int) : getP (putP acc p) k = if p.1 = k then some p.2 else getP acc k := by
  unfold putP
  split
  · rename_i h
    induction acc with
    | nil => cases h
    | cons q acc ih =>
      rw [List.map_cons, getP_cons, getP_cons]
      by_cases e : q.1 = p.1
      · rw [if_pos e]
        dsimp only
        by_cases e2 : p.1 = k
        · rw [if_pos (e.trans e2), if_pos e2]
        · rw [if_neg (fun x => e2 (e.symm.trans x)), if_neg e2, if_neg (fun x => e2 (e.symm.trans x))]
          have gen : ∀ acc : List (Int × Int), getP (acc.map fun q => if q.1 = p.1 then (q.1, p.2) else q) k = getP acc k := by
            intro acc
            induction acc with
            | nil => rfl
            | cons q acc ih =>
              rw [List.map_cons, getP_cons, getP_cons, ih]
              by_cases e3 : q.1 = p.1
              · rw [if_pos e3]; dsimp only; rw [if_neg (fun x => e2 (e3.symm.trans x)), if_neg (fun x => e2 (e3.symm.trans x))]
              · rw [if_neg e3]
          exact gen acc
      · rw [if_neg e]
        rw [List.any_cons, decide_eq_false e, Bool.false_or] at h
        by_cases e2 : q.1 = k
        · rw [if_pos e2, if_pos e2, if_neg (fun x => e (e2.trans x.symm))]
        · rw [if_neg e2, if_neg e2]
          exact ih h
  · rename_i h
    rw [Bool.not_eq_true] at h
    rw [getP_append, getP_cons]
    by_cases e : p.1 = k
    · rw [if_pos e, if_pos e]
      rw [← getP_any, e] at h
      cases q : getP acc k with
      | none => rfl
      | some x => rw [q] at h; cases h
    · rw [if_neg e, if_neg e]; cases getP acc k <;> rfl
theorem getP_rev (k : Int) : ∀ l : List (Int × Int), getP (l.reverse.foldl putP []) k = getP l k
  | [] => rfl
  | p :: l => by
    rw [List.reverse_cons, List.foldl_append, List.foldl_cons, List.foldl_nil, getP_putP, getP_rev k l, getP_cons]
/-- the dict of the program and the plain one -/
theorem KV.get {k : Int} : ∀ {kvs : List (Int × Value)} {acc : List (Int × Int)}, All2 KV kvs acc → (valueAt kvs k = none ∧ getP acc k = none) ∨ ∃ x t, valueAt kvs k = some (.int x t) ∧ getP acc k = some x
  | _, _, .nil => .inl ⟨rfl, rfl⟩
  | (k', v') :: kvs, (n, x) :: acc, .cons h t => by
    have ih := KV.get (k := k) t
    obtain ⟨h1, tx, h2⟩ := h
    dsimp only at h1 h2
    subst h1 h2
    rw [getP_cons]
    unfold valueAt at *
    rw [List.find?_cons]
    by_cases e : k' = k
    · rw [decide_eq_true e, if_pos e]; exact .inr ⟨x, tx, rfl, rfl⟩
    · rw [decide_eq_false e, if_neg e]; exact ih
theorem KV.map {k w : Int} {t : Tok} : ∀ {kvs : List (Int × Value)} {acc : List (Int × Int)}, All2 KV kvs acc → All2 KV (kvs.map fun kv => if kv.1 = k then (kv.1, Value.int w t) else kv) (acc.map fun q => if q.1 = k then (q.1, w) else q)
  | _, _, .nil => .nil
  | a :: _, b :: _, .cons hab r => by
    refine .cons ?_ (KV.map r)
    obtain ⟨h1, h2⟩ := hab
    dsimp only
    by_cases e : a.1 = k
    · rw [if_pos e, if_pos (h1 ▸ e)]; exact ⟨h1, t, rfl⟩
    · rw [if_neg e, if_neg (h1 ▸ e)]; exact ⟨h1, h2⟩
theorem KV.put {k w : Int} {t : Tok} {kvs : List (Int × Value)} {acc : List (Int × Int)} (H : All2 KV kvs acc) : All2 KV (stored kvs k (.int w t)) (putP acc (k, w)) := by
  have any2 : (kvs.any fun kv => decide (kv.1 = k)) = acc.any (fun q => decide (q.1 = k)) := by
    induction H with
    | nil => rfl
    | cons hab _ ih => rw [List.any_cons, List.any_cons, ih, hab.1]
  unfold stored putP
  rw [any2]
  split
  · exact KV.map H
  · exact H.snoc ⟨rfl, t, rfl⟩
/-- two dicts that answer alike are as long -/
theorem same_len {a b : List (Int × Value)} (ha : (a.map (·.1)).Nodup) (hb : (b.map (·.1)).Nodup) (h : ∀ k, (valueAt a k).isSome = (valueAt b k).isSome) : a.length = b.length := by
  have mem : ∀ (l : List (Int × Value)) (k : Int), k ∈ l.map (·.1) ↔ (valueAt l k).isSome = true := by
    intro l k
    unfold valueAt
    rw [Option.isSome_map, List.find?_isSome]
    simp only [List.mem_map]
    constructor
    · rintro ⟨x, hx, rfl⟩; exact ⟨x, hx, by simp⟩
    · rintro ⟨x, hx, e⟩; exact ⟨x, hx, of_decide_eq_true e⟩
  have p := (List.perm_ext_iff_of_nodup ha hb).mpr fun k => by rw [mem, mem, h k]
  simpa using p.length_eq
/-- the walk's line is a chain of links -/
inductive ChainF (ls : List (Option Int)) (ks : List Int) : Option Int → List Int → Prop
  | nil : ChainF ls ks none []
  | cons {v : Int} {r : List Int} (h : okv ls ks v) (t : ChainF ls ks (lAt ls v) r) : ChainF ls ks (some v) (v :: r)
theorem walkF_chain {ls : List (Option Int)} {ks : List Int} : ∀ {f : Nat} {pre : List Int} {ho : Option Int} {full : List Int}, walkF ls ks f pre ho = some full → ∃ suf, full = pre ++ suf ∧ ChainF ls ks ho suf
  | f, pre, none, full, h => by rw [walkF_none] at h; cases h; exact ⟨[], by simp, .nil⟩
  | 0, pre, some v, full, h => by cases h
  | f + 1, pre, some v, full, h => by
    rw [walkF] at h
    split at h
    · rename_i q
      obtain ⟨suf, e, c⟩ := walkF_chain h
      exact ⟨v :: suf, by rw [e]; simp, .cons q.1 c⟩
    · cases h
theorem chain_walkF {ls : List (Option Int)} {ks : List Int} {ho : Option Int} {suf : List Int} (c : ChainF ls ks ho suf) : ∀ {f : Nat} {pre : List Int}, (pre ++ suf).Nodup → suf.length ≤ f → walkF ls ks f pre ho = some (pre ++ suf) := by
  induction c with
  | nil => intro f pre _ _; rw [walkF_none]; simp
  | @cons v r h t ih =>
    intro f pre hn hf
    obtain ⟨f, rfl⟩ : ∃ f', f = f' + 1 := ⟨f - 1, by simp at hf; omega⟩
    rw [walkF, if_pos]
    · have e : pre ++ v :: r = (pre ++ [v]) ++ r := by simp
      rw [e] at hn ⊢
      exact ih hn (by simp at hf; omega)
    · refine ⟨h, fun hm => ?_⟩
      rw [List.nodup_append] at hn
      exact hn.2.2 v hm v (.head _) rfl
theorem walkF_tail {ls : List (Option Int)} {ks : List Int} {v : Int} {line : List Int} (h : walkF ls ks (ls.length + 1) [] (some v) = some line) : ∃ r, line = v :: r ∧ okv ls ks v ∧ line.length ≤ ls.length ∧ ∀ u r', r = u :: r' → okv ls ks u ∧ walkF ls ks (ls.length + 1) [] (some u) = some r := by
  have hg := walkF_good h Good.nil
  have hlen := hg.length
  obtain ⟨suf, e, c⟩ := walkF_chain h
  rw [List.nil_append] at e
  subst e
  cases c with
  | @cons _ r hok t =>
    refine ⟨r, rfl, hok, hlen, fun u r' e => ?_⟩
    have hnd := (List.nodup_cons.mp hg.nodup).2
    have hl : r.length ≤ ls.length + 1 := by simp at hlen; omega
    subst e
    generalize hla : lAt ls v = la at t
    cases t with
    | cons h t => exact ⟨h, chain_walkF (.cons h t) (by simpa using hnd) hl⟩
theorem putP_len (acc : List (Int × Int)) (p : Int × Int) : (putP acc p).length ≤ acc.length + 1 := by
  unfold putP; split <;> simp
theorem foldP_len : ∀ (l acc : List (Int × Int)), (l.foldl putP acc).length ≤ acc.length + l.length
  | [], acc => by simp
  | p :: l, acc => by
    have h1 := foldP_len l (putP acc p)
    have h2 := putP_len acc p
    simp only [List.foldl_cons, List.length_cons]
    omega
theorem addNew_len (acc : List (Int × Int)) (p : Int × Int) : (addNew acc p).length ≤ acc.length + 1 := by
  unfold addNew; split <;> simp
theorem foldA_len : ∀ (l acc : List (Int × Int)), (l.foldl addNew acc).length ≤ acc.length + l.length
  | [], acc => by simp
  | p :: l, acc => by
    have h1 := foldA_len l (addNew acc p)
    have h2 := addNew_len acc p
    simp only [List.foldl_cons, List.length_cons]
    omega
/-! MLawH -/
theorem It.dict {w : World} {A : Around} {K : Type} [DecidableEq K] {knd : KeyKind Pg w K} (hh : A.handled = none) (I d : Addr) (hne : d ≠ I) (kvs : List (K × Value)) (ep : Nat) :
    It w A I [I, d] kvs.length (fun i v => ∃ k x, kvs[i]? = some (k, x) ∧ knd.is k v = true) (fun i h => h.IsKeyIter I d i kvs.length ep ∧ h.DictAt knd d kvs ep) :=
  ⟨Walks.dictKeys hh I d hne kvs ep, fun _ _ h => let ⟨⟨o, ho, _⟩, _⟩ := h; ⟨o, ho⟩⟩
/-- an iterator is made: of a dict -/
theorem iter_dict {A : Around} {s : Shared} {w : World} {mg mb : Str → Option Value} {g₀ h₀ : Heap} {L : Addr} {E : Value → Shared → Prop} {Q : Value → Shared → Prop} {g : Heap} {m : Str → Option Value} {mus : List (Addr × Ob)} {d : Addr} {K : Type} [DecidableEq K] {knd : KeyKind Pg w K} {kvs : List (K × Value)}
    (F : FN w mg mb g₀ h₀ g L s.heap m mus) (hd : s.heap.DictOf knd d kvs) (lo : (d == sysModules) = false)
    (hQ : ∀ (I : Addr) (h' : Heap) (oI : Obj) (ep : Nat), FN w mg mb g₀ h₀ g L h' m ((I, isP oI) :: mus) → h'.IsKeyIter I d 0 kvs.length ep → h'.DictAt knd d kvs ep → d ≠ I → s.heap.get? I = none → Sub s.heap h' → Q (.ref I) { s with heap := h' }) :
    wpAny (model Pg w) A (pyIter (.ref d)) Q E s := by
  obtain ⟨ep, hat⟩ := hd.dictAt
  refine wpAny_pyIter_dict lo hat ?_
  have F' := F.push { cls := .type "dict_keyiterator", data := .fields #[.ref d, .int 0 0, .int kvs.length 0, .int ep 0] } (isP _) rfl
  have hne : d ≠ s.heap.objs.size := Nat.ne_of_lt hat.lt_size
  exact hQ _ _ _ ep F' ⟨_, Heap.get?_push_size _ rfl, rfl, rfl⟩ (hat.at' fun o e => Heap.get?_push_of_some _ e) hne (Heap.get?_none_of_le (Nat.le_refl _)) (sub_push _ _)
theorem hasDict {g : Heap} {w : World} {K : Type} [DecidableEq K] {knd : KeyKind Pg w K} {d : Addr} {kvs : List (K × Value)} (h : g.DictOf knd d kvs) : ∃ o, g.get? d = some o := let ⟨o, _, _, ho, _⟩ := h; ⟨o, ho⟩
theorem fpDic {gs h₀ : Heap} {I d : Addr} {w : World} {K : Type} [DecidableEq K] {knd : KeyKind Pg w K} {kvs : List (K × Value)} (h : gs.DictOf knd d kvs) : ∀ b ∈ [I, d], b = I ∨ (∃ o, gs.get? b = some o) ∨ ∃ o, h₀.get? b = some o := by
  intro b hb
  rcases List.mem_cons.mp hb with rfl | hb
  · exact .inl rfl
  · rw [List.mem_singleton.mp hb]; exact .inr (.inl (hasDict h))
/-- a slice of a list, whatever the expression -/
theorem sliceT {A : Around} {E : Value → Shared → Prop} {s : Shared} {w : World} {mg mb : Str → Option Value} {g₀ h₀ g : Heap} {L : Addr} {m : Str → Option Value} {mus : List (Addr × Ob)} {value slice : PySem.Expr} {l : Addr} {H : Heap} {tk : Tok} {items : Array Value} {vl vu vk : Value} {lo hi st : Option Int} {ops : List Value} {Q : Value → Shared → Prop}
    (F : FN w mg mb g₀ h₀ g L H m mus) (hl : H.IsList l items) (pl : IsPart vl lo) (pu : IsPart vu hi) (pk : IsPart vk st) (h0 : st ≠ some 0)
    (h : ∀ D h', FN w mg mb g₀ h₀ g L h' m ((D, listP (slicePick items lo hi st).toList) :: mus) → Sub H h' → H.get? D = none → Q (.ref D) { s with heap := h', toks := tk })
    (hsz : items.size ≤ sizeLine)
    (hs : subscripted slice false (.ref l) (.ref H.objs.size) = operate ops (getItem (.ref l) (.ref H.objs.size))) :
    wpAny (model Pg w) A (subscriptTail value slice (.ref l) (.ref H.objs.size)) Q E { s with heap := H.push { cls := .type "slice", data := .fields #[vl, vu, vk] }, toks := tk } := by
  refine tail_any (Heap.IsList.typeIs (s := { s with heap := H.push { cls := .type "slice", data := .fields #[vl, vu, vk] }, toks := tk }) (hl.push _)) list_getitem_lookup
    (wpAny_getItem_list_slice (hl.push _) (Heap.IsSliceOf.new ..) pl pu pk h0 ?_ hsz) hs
  refine h _ _ ((F.keep (sub_push _ _)).push { cls := .type "list", data := .seq (slicePick items lo hi st) } (listP _) ⟨rfl, 0, by simp⟩) ((sub_push _ _).tr (sub_push _ _)) ?_
  exact Heap.get?_none_of_le (by show _ ≤ (H.push _).objs.size; rw [Heap.size_push]; omega)
section
variable {A : Around} {E : Value → Shared → Prop} {s : Shared} {w : World} {mg mb : Str → Option Value} {g₀ h₀ g : Heap} {m : Str → Option Value} {mus : List (Addr × Ob)} {Q : Flow → Shared → Prop} {L f c1 c2 c3 c4 c5 : Addr} {v : Int} {tv : Tok} {I : Addr} {oI : Obj}
set_option maxHeartbeats 1000000 in
theorem none_bad (F : FN w mg mb g₀ h₀ g L s.heap m mus) (m1 : m "line" = some .none) (m2 : m "found" = some .none)
    (hQ : ∀ h' tk, FN w mg mb g₀ h₀ g L h' m mus → Q .cont { s with heap := h', toks := tk }) :
    wpAny (model Pg w) A (exec (loopStmt 4) (lawEnv L f c1 c2 c3 c4 c5)) Q E s := by
  rw [show loopStmt 4 = .If _ [.If _ [.Return _ _] [] _, .Continue _] [] _ from rfl]
  repeat' tb_rel
  exact hQ s.heap s.toks F
set_option maxHeartbeats 1000000 in
theorem none_ok {D : Addr} (F : FN w mg mb g₀ h₀ g L s.heap m mus) (m1 : m "line" = some (.ref D))
    (hQ : ∀ h' tk, FN w mg mb g₀ h₀ g L h' m mus → Q .next { s with heap := h', toks := tk }) :
    wpAny (model Pg w) A (exec (loopStmt 4) (lawEnv L f c1 c2 c3 c4 c5)) Q E s := by
  rw [show loopStmt 4 = .If _ [.If _ [.Return _ _] [] _, .Continue _] [] _ from rfl]
  repeat' tb_rel
  exact hQ s.heap s.toks F
set_option maxHeartbeats 1000000 in
theorem due_stmt (F : FN w mg mb g₀ h₀ g L s.heap m mus)
    (hQ : ∀ h' tk dd, FN w mg mb g₀ h₀ g L h' (fun y => if y = "due" then some (.ref dd) else m y) ((dd, dicP (intKind Pg w) []) :: mus) → (dd == sysModules) = false → Q .next { s with heap := h', toks := tk }) :
    wpAny (model Pg w) A (exec (loopStmt 5) (lawEnv L f c1 c2 c3 c4 c5)) Q E s := by
  rw [show loopStmt 5 = .Assign [.Name _ _] (.Dict [] [] _) _ from rfl]
  repeat' ((fail_if_success (with_reducible show wpAny _ _ (eval (Expr.Dict [] [] _) _) _ _ _)); tb_rel)
  refine emptyD (intKind Pg w) F fun dd h₂ F hd2 hsys => ?_
  repeat' tb_rel
  rename FN _ _ _ _ _ _ _ _ _ _ => F
  exact hQ _ _ _ F hsys
end
/-! MLawI -/
theorem All2.reverse {α β : Type} {R : α → β → Prop} {as : List α} {bs : List β} (H : All2 R as bs) : All2 R as.reverse bs.reverse := by
  induction H with
  | nil => exact .nil
  | cons h _ ih => rw [List.reverse_cons, List.reverse_cons]; exact ih.snoc h
section
variable {A : Around} {E : Value → Shared → Prop} {s : Shared} {w : World} {mg mb : Str → Option Value} {g₀ h₀ g : Heap} {m : Str → Option Value} {mus : List (Addr × Ob)} {Q : Flow → Shared → Prop} {L f c1 c2 : Addr} {v : Int} {tv : Tok} {d : Dat} {I : Addr} {oI : Obj}
set_option maxHeartbeats 2000000 in
theorem due_loop {dd : Addr} (F : FN w mg mb g₀ h₀ g L s.heap m ((dd, dicP (intKind Pg w) []) :: (I, isP oI) :: (c2, cellP (some (.int v tv))) :: mus)) (hh : A.handled = none) (Z : LF w mg mb d g) (m1 : m "due" = some (.ref dd)) (hv : 1 ≤ v ∧ v ≤ (d.ls.length : Int))
    (hQ : ∀ g' h' tk m' kvs, FN w mg mb g₀ h₀ g' L h' m' ((dd, dicP (intKind Pg w) kvs) :: (I, isP oI) :: (c2, cellP (some (.int v tv))) :: mus) → Sub g g' → (∀ x, x ≠ Str.ofString "number" → x ≠ Str.ofString "worth" → m' x = m x) →
      All2 KV kvs ((rowsFn d.rws (v - 1).toNat).reverse.foldl putP []) → kvs.length ≤ 3 → Q .next { s with heap := h', toks := tk }) :
    wpAny (model Pg w) A (exec (loopStmt 6) (lawEnv L f c1 c2 d.c3 d.c4 d.c5)) Q E s := by
  rw [show loopStmt 6 = .For (.Tuple [.Name _ _, .Name _ _] _ _) (.Subscript (.Subscript _ _ _) (.Slice _ _ _ _) _) [_] [] _ from rfl]
  have hcR := Z.cR
  repeat' ((fail_if_success (with_reducible show wpAny _ _ (subscriptTail _ _ (Value.ref _) (Value.int _ _)) _ _ _)); tb_rel)
  have hrn := Z.hrn
  have hl := Z.hl
  have hral := Z.hras.length
  obtain ⟨ra, row, e1, e2, hrow⟩ := Z.hras.get (i := (v - 1).toNat) (by omega)
  rename FN _ _ _ _ _ _ _ _ _ _ => F
  refine' itemL (F.glist Z.rl) ?a ?b (v := .ref ra) ?x ?_ ?s
  case a => omega
  case b => omega
  case x => rw [List.getElem?_map, e1]; rfl
  case s => with_unfolding_all rfl
  obtain ⟨tas, q1, q2⟩ := hrow
  have hrl := Z.hrw row (List.mem_of_getElem? e2)
  have htl := q2.length
  have erow : rowsFn d.rws (v - 1).toNat = row := by unfold rowsFn; rw [e2]; rfl
  repeat' ((fail_if_success (with_reducible show wpAny _ _ (subscriptTail _ _ (Value.ref _) (Value.ref _)) _ _ _)); tb_rel)
  refine' sliceT (lo := none) (hi := none) (st := some (-1)) F (stays_list F.st q1) IsPart.none IsPart.none (IsPart.int _ _) (by simp) ?_ ?hsz ?hs
  case hsz => simp [sizeLine]; omega
  case hs => with_unfolding_all rfl
  rw [krv_pick]
  have eD : ((tas.map Value.ref).toArray.toList.reverse.toArray.toList) = (tas.reverse).map Value.ref := by simp
  rw [eD]
  intro D0 h₂ F₂ k₂ _
  obtain ⟨g₃, F, kg3, hf⟩ := FN.freeze (mus := [(D0, listP (tas.reverse.map Value.ref))]) ((dd, dicP (intKind Pg w) []) :: (I, isP oI) :: (c2, cellP (some (.int v tv))) :: mus) F₂
  have hD0 := listOfP (hf _ (.head _))
  clear F₂
  refine iter_list F (stays_list F.st hD0) fun I2 h₄ oI2 F₄ hit2 hl4 hne2 _ k₄ => ?_
  clear F
  have q2r : All2 (TupAt2 g₃) tas.reverse row.reverse := (q2.mono fun _ _ q => TupAt2.up q kg3).reverse
  refine' forPair_FN (mus₀ := (dd, dicP (intKind Pg w) []) :: (I, isP oI) :: (c2, cellP (some (.int v tv))) :: mus) (fun i v1 v2 => ∃ n wv t1 t2, row.reverse[i]? = some (n, wv) ∧ v1 = .int n t1 ∧ v2 = .int wv t2) hh
    (fun i g m' mus' => (∀ x, x ≠ Str.ofString "number" → x ≠ Str.ofString "worth" → m' x = m x) ∧ ∃ kvs, mus' = (dd, dicP (intKind Pg w) kvs) :: (I, isP oI) :: (c2, cellP (some (.int v tv))) :: mus ∧ All2 KV kvs ((row.reverse.take i).foldl putP []))
    ?hP ?pL ?px ?py ?pk hD0 hne2 F₄ hit2 ⟨fun _ _ _ => rfl, [], rfl, .nil⟩ ?pturn ?pfin
  case pL => exact rfl
  case px => exact rfl
  case py => exact rfl
  case pk => exact rfl
  case hP =>
    intro q hq
    obtain ⟨ta, ⟨n, wv⟩, c1, c2, t1, t2, c3⟩ := q2r.get (i := q) (by simpa using hq)
    exact ⟨ta, _, _, by rw [List.getElem?_map, c1]; rfl, c3, n, wv, t1, t2, c2, rfl, rfl⟩
  case pturn =>
    rintro q g₉ h₉ m₉ mus9 v1 v2 tk₉ oI₉ E2 hq ⟨n, wv, t1, t2, hrow, rfl, rfl⟩ kg9 ⟨hm9, kvs, rfl, hkv⟩ F₉
    clear F₄ hit2
    have b1 : m₉ (Str.ofString "due") = some (.ref dd) := (hm9 _ (by decide) (by decide)).trans m1
    have hlk := hkv.length
    have hlf := foldP_len (row.reverse.take q) []
    simp only [List.length_take, List.length_reverse, List.length_nil, Nat.zero_add] at hlf
    repeat' ((fail_if_success (with_reducible show wpAny _ _ (setItem (Value.ref _) (Value.int _ _) _) _ _ _)); tb_rel)
    rename FN _ _ _ _ _ _ _ _ _ _ => F
    refine setD [_] F (k := n) (by simp [intKind, Value.isInt]) (by simp only [sizeLine]; omega) fun h' tk F => ?_
    simp only [List.cons_append, List.nil_append] at F
    dsimp only
    repeat' tb_rel
    rename FN _ _ _ _ _ _ _ _ _ _ => F
    refine ⟨g₉, _, _, _, _, rfl, Sub.rfl' _, F, fun x h1 h2 => ?_, _, rfl, ?_⟩
    · rw [if_neg h2, if_neg h1]; exact hm9 x h1 h2
    · rw [List.take_add_one, hrow, List.foldl_append]
      exact KV.put hkv
  case pfin =>
    rintro g₉ h₉ m₉ mus9 tk₉ kg9 ⟨hm9, kvs, rfl, hkv⟩ F₉
    clear F₄ hit2
    rw [List.take_of_length_le (by simp; omega)] at hkv
    have hlk := hkv.length
    have hlf := foldP_len row.reverse []
    simp only [List.length_reverse, List.length_nil, Nat.zero_add] at hlf
    rw [← erow] at hkv
    exact hQ _ _ _ _ _ F₉ (kg3.tr kg9) hm9 hkv (by omega)
end
/-! MLawJ -/
section
variable {A : Around} {E : Value → Shared → Prop} {s : Shared} {w : World} {mg mb : Str → Option Value} {g₀ h₀ g : Heap} {m : Str → Option Value} {mus : List (Addr × Ob)} {Q : Flow → Shared → Prop} {L f c1 c2 : Addr} {v : Int} {tv : Tok} {d : Dat} {I : Addr} {oI : Obj}
set_option maxHeartbeats 2000000 in
theorem behind_stmt {D : Addr} {vs : List Value} {line : List Int} (F : FN w mg mb g₀ h₀ g L s.heap m mus) (hd : A.depth + 60 < recursionLimit) (hh : A.handled = none) (hfr : A.frames = some [lawEnv L f c1 c2 d.c3 d.c4 d.c5]) (Z : LF w mg mb d g)
    (m1 : m "line" = some (.ref D)) (hD : g.IsList D vs.toArray) (hvs : IntsAre vs line) (hW : walkF d.ls d.ks (d.ls.length + 1) [] (some v) = some line)
    (hQ : ∀ g' h' tk bd kvs, FN w mg mb g₀ h₀ g' L h' (fun y => if y = "behind" then some (.ref bd) else m y) mus → Sub g g' → g'.DictOf (intKind Pg w) bd kvs → (bd == sysModules) = false → All2 KV kvs ((rowsOf (rowsFn d.rws) line.tail).foldl addNew []) → kvs.length ≤ 18 →
      Q .next { s with heap := h', toks := tk }) :
    wpAny (model Pg w) A (exec (loopStmt 7) (lawEnv L f c1 c2 d.c3 d.c4 d.c5)) Q E s := by
  rw [show loopStmt 7 = .Assign [.Name _ _] (.IfExp _ (.Call _ [_, .Call _ [_, _] _ _, _] _ _) (.Dict [] [] _) _) _ from rfl]
  obtain ⟨r, rfl, hok, hlen, htail⟩ := walkF_tail hW
  have cS := Z.cS
  have cD := Z.cD
  have hl := Z.hl
  cases r with
  | nil =>
    cases hvs with
    | cons n t hr =>
    cases hr
    repeat' ((fail_if_success (with_reducible show wpAny _ _ (call (Value.builtin "len") _) _ _ _)); tb_rel)
    refine lenL (F.glist hD) (by simp) ?_
    repeat' ((fail_if_success (with_reducible show wpAny _ _ (eval (Expr.Dict [] [] _) _) _ _ _)); tb_rel)
    rename FN _ _ _ _ _ _ _ _ _ _ => F
    refine emptyD (intKind Pg w) F fun bd h₂ F hd2 hsys => ?_
    repeat' tb_rel
    rename FN _ _ _ _ _ _ _ _ _ _ => F
    obtain ⟨g₃, F, kg3, hf⟩ := FN.freeze (mus := [(bd, dicP (intKind Pg w) [])]) mus F
    exact hQ _ _ _ _ [] F kg3 (dicOfP (hf _ (.head _))) hsys .nil (by simp)
  | cons u r' =>
    obtain ⟨hoku, hWu⟩ := htail u r' rfl
    cases hvs with
    | cons n t hr =>
    cases hr with
    | cons n2 t2 hr =>
    have hrl := hr.length
    repeat' ((fail_if_success (with_reducible show wpAny _ _ (call (Value.builtin "len") _) _ _ _)); tb_rel)
    refine lenL (F.glist hD) (by simp only [List.length_cons] at *; omega) ?_
    repeat' ((fail_if_success (with_reducible show ite _ _ _)); tb_rel)
    rw [if_pos (decide_eq_true (by simp only [List.length_cons]; omega))]
    repeat' ((fail_if_success (with_reducible show wpAny _ _ (call (Value.ref 254) _) _ _ _)); tb_rel)
    rename FN _ _ _ _ _ _ _ _ _ _ => F
    refine ref_FN F (by omega) ?_
    clear F
    intro g₅ h' tk ru F kg hn0 hru
    dsimp only
    have kg5 := kg
    have cD := cellUp cD kg5
    repeat' ((fail_if_success (with_reducible show wpAny _ _ (call (Value.ref 384) _) _ _ _)); tb_rel)
    rename FN _ _ _ _ _ _ _ _ _ _ => F
    refine wpAny_call (rc_spec (B := Heap.hide _ L) F.G F.st (by omega) hh hfr (sub_hide _ _) (Heap.FunFrames.cons (m := m) (fun q => nomatch (show ScopeKind.function = ScopeKind.module from q)) rfl F.ns (Heap.hide_self _ _) trivial) (Z.S.up kg5) hl Z.hk0 hru (by have := hoku.1; omega) (FnAt.up Z.fn kg5) (Z.rd.up kg5) Z.rows ?ok ?bad)
    case bad =>
      intro hb
      rw [hWu] at hb
      cases hb
    case ok =>
      intro g₆ h₆ t₆ bd kvs line' hW' W hbd hsys hkv hkl
      rw [hWu] at hW'
      cases hW'
      have F := F.after W
      have kg6 := W.kg
      clear W
      dsimp only
      repeat' tb_rel
      rename FN _ _ _ _ _ _ _ _ _ _ => F
      exact hQ _ _ _ _ kvs F (kg5.tr kg6) hbd hsys hkv hkl
end
/-! MLawK -/
theorem dicNodup {w : World} {g : Heap} {d : Addr} {K : Type} [DecidableEq K] {knd : KeyKind Pg w K} {kvs : List (K × Value)} (h : g.DictOf knd d kvs) : (kvs.map (·.1)).Nodup := let ⟨_, _, _, _, _, _, _, _, r⟩ := h; r
section
variable {A : Around} {E : Value → Shared → Prop} {s : Shared} {w : World} {mg mb : Str → Option Value} {g₀ h₀ g : Heap} {m : Str → Option Value} {mus : List (Addr × Ob)} {Q : Flow → Shared → Prop} {L f c1 c2 c3 c4 c5 : Addr}
set_option maxHeartbeats 2000000 in
theorem fill_loop {dd bd : Addr} {kvs kb : List (Int × Value)} {acc accb : List (Int × Int)} (F : FN w mg mb g₀ h₀ g L s.heap m ((dd, dicP (intKind Pg w) kvs) :: mus)) (hh : A.handled = none) (m1 : m "due" = some (.ref dd)) (m2 : m "behind" = some (.ref bd))
    (hbd : g.DictOf (intKind Pg w) bd kb) (hbs : (bd == sysModules) = false) (hds : (dd == sysModules) = false) (hkv : All2 KV kvs acc) (hkb : All2 KV kb accb) (hl1 : kvs.length ≤ 3) (hl2 : kb.length ≤ 18)
    (hQ : ∀ h' tk m' kvs', FN w mg mb g₀ h₀ g L h' m' ((dd, dicP (intKind Pg w) kvs') :: mus) → (∀ x, x ≠ Str.ofString "number" → m' x = m x) → All2 KV kvs' (accb.foldl addNew acc) → Q .next { s with heap := h', toks := tk }) :
    wpAny (model Pg w) A (exec (loopStmt 8) (lawEnv L f c1 c2 c3 c4 c5)) Q E s := by
  rw [show loopStmt 8 = .For (.Name _ _) (.Name _ _) [.If _ [_] [] _] [] _ from rfl]
  repeat' ((fail_if_success (with_reducible show wpAny _ _ (pyIter _) _ _ _)); tb_rel)
  refine iter_dict F (dicUp hbd F.st) hbs fun I h₂ oI ep F₂ hit hat hne _ k₂ => ?_
  clear F
  refine' forLoop_FN (mus₀ := (dd, dicP (intKind Pg w) kvs) :: mus) (It.dict (knd := intKind Pg w) hh I bd hne kb ep) (fun i gg m' mus' => gg = g ∧ (∀ x, x ≠ Str.ofString "number" → m' x = m x) ∧ ∃ kvs', mus' = (dd, dicP (intKind Pg w) kvs') :: mus ∧ All2 KV kvs' ((accb.take i).foldl addNew acc))
    ?qL ?qx ?qp (fpDic hbd) F₂ ⟨hit, hat⟩ ⟨rfl, fun _ _ => rfl, kvs, rfl, hkv⟩ ?turn ?fin
  case qL => exact rfl
  case qx => exact rfl
  case qp => exact rfl
  case turn =>
    rintro i g₅ h₅ m₅ mus5 x tk₅ oI₅ E' hi ⟨k, y, hky, hx⟩ kg5 ⟨rfl, hm5, kvs', rfl, hkv'⟩ F₅
    clear F₂ hit hat
    obtain ⟨t, rfl⟩ := Value.isInt_shape hx
    obtain ⟨kv, p, e1, e2, hkp⟩ := hkb.get (i := i) hi
    rw [hky] at e1
    cases e1
    obtain ⟨p1, p2⟩ := p
    obtain ⟨hk1, ty, hy⟩ := hkp
    dsimp only at hk1 hy
    subst hk1 hy
    have b1 : m₅ (Str.ofString "due") = some (.ref dd) := (hm5 _ (by decide)).trans m1
    have b2 : m₅ (Str.ofString "behind") = some (.ref bd) := (hm5 _ (by decide)).trans m2
    have hv := valueAt_of_get (dicNodup hbd) hky
    have hlk := hkv'.length
    have hla := hkv.length
    have hlb := hkb.length
    have hlf := foldA_len (accb.take i) acc
    simp only [List.length_take] at hlf
    have hstep : (accb.take (i + 1)).foldl addNew acc = addNew ((accb.take i).foldl addNew acc) (k, p2) := by
      rw [List.take_add_one, e2, List.foldl_append]; rfl
    repeat' ((fail_if_success (with_reducible show wpAny _ _ (compareOp _ _ _) _ _ _)); tb_rel)
    rename FN _ _ _ _ _ _ _ _ _ _ => F
    refine wpAny_notIn_of (knd := intKind Pg w) (k := k) (by simp [intKind, Value.isInt]) hds (F.dic (.tail _ (.head _))).mapOf ?_
    rw [KV.any hkv']
    cases hany : (((accb.take i).foldl addNew acc).any fun q => decide (q.1 = k)) with
    | true =>
      repeat' tb_rel
      rename FN _ _ _ _ _ _ _ _ _ _ => F
      exact ⟨_, _, _, _, _, rfl, Sub.rfl' _, F, rfl, fun x hx => by rw [if_neg hx]; exact hm5 x hx, kvs', rfl, by rw [hstep, addNew_old hany]; exact hkv'⟩
    | false =>
      repeat' ((fail_if_success (with_reducible show wpAny _ _ (subscriptTail _ _ (Value.ref _) (Value.int _ _)) _ _ _)); tb_rel)
      rename FN _ _ _ _ _ _ _ _ _ _ => F
      refine itemDT (knd := PySem.intKind Pg w) (k := k) (dicUp hbd F.st) (by simp [PySem.intKind, Value.isInt]) hv ?_ ?hs1
      case hs1 => with_unfolding_all rfl
      repeat' ((fail_if_success (with_reducible show wpAny _ _ (setItem (Value.ref _) (Value.int _ _) _) _ _ _)); tb_rel)
      rename FN _ _ _ _ _ _ _ _ _ _ => F
      refine setD [_] F (k := k) (by simp [intKind, Value.isInt]) (by simp only [sizeLine]; omega) fun h' tk F => ?_
      simp only [List.cons_append, List.nil_append] at F
      dsimp only
      rw [KV.fresh hkv' hany] at F
      repeat' tb_rel
      rename FN _ _ _ _ _ _ _ _ _ _ => F
      exact ⟨_, _, _, _, _, rfl, Sub.rfl' _, F, rfl, fun x hx => by rw [if_neg hx]; exact hm5 x hx, _, rfl, by rw [hstep, addNew_new hany]; exact hkv'.snoc ⟨rfl, _, rfl⟩⟩
  case fin =>
    rintro g₅ h₅ m₅ mus5 tk₅ kg5 ⟨rfl, hm5, kvs', rfl, hkv'⟩ F₅
    clear F₂ hit hat
    rw [List.take_of_length_le (by rw [hkb.length]; exact Nat.le_refl _)] at hkv'
    exact hQ _ _ _ _ F₅ hm5 hkv'
/-- found and due say the same -/
theorem hits_all {A : Around} {s : Shared} {kb : List (Int × Value)} {accb : List (Int × Int)} (hb : All2 KV kb accb) : ∀ {ka : List (Int × Value)} {acca : List (Int × Int)}, All2 KV ka acca → (∀ p ∈ acca, getP accb p.1 = some p.2) → KeqHits A s kb ka true
  | _, _, .nil, _ => .nil
  | (k, v) :: ka, (n, x) :: acca, .cons h t, hm => by
    obtain ⟨h1, tx, h2⟩ := h
    dsimp only at h1 h2
    subst h1 h2
    have hg := hm (k, x) (.head _)
    rcases KV.get (k := k) hb with ⟨_, e2⟩ | ⟨y, ty, e1, e2⟩
    · rw [hg] at e2; cases e2
    · dsimp only at hg
      rw [hg] at e2; cases e2
      have he : SeqAt.EqAt A s (.int x tx) (.int x ty) true := by have := SeqAt.EqAt.int_int (A := A) (s := s) x tx x ty; simpa using this
      exact KeqHits.hit e1 he (hits_all hb t fun p hp => hm p (.tail _ hp))
theorem getP_mem {k x : Int} : ∀ {acc : List (Int × Int)}, (acc.map (·.1)).Nodup → (k, x) ∈ acc → getP acc k = some x
  | q :: acc, hn, hm => by
    rw [getP_cons]
    rw [List.map_cons, List.nodup_cons] at hn
    rcases List.mem_cons.mp hm with rfl | hm
    · rw [if_pos rfl]
    · rw [if_neg (fun e => hn.1 (by rw [e]; exact List.mem_map_of_mem (f := (·.1)) hm))]
      exact getP_mem hn.2 hm
theorem KV.keys : ∀ {kvs : List (Int × Value)} {acc : List (Int × Int)}, All2 KV kvs acc → kvs.map (·.1) = acc.map (·.1)
  | _, _, .nil => rfl
  | _, _, .cons h t => by rw [List.map_cons, List.map_cons, KV.keys t, h.1]
set_option maxHeartbeats 1000000 in
theorem same_stmt {fd dd : Addr} {ka kb : List (Int × Value)} {acca accb : List (Int × Int)} (F : FN w mg mb g₀ h₀ g L s.heap m ((dd, dicP (intKind Pg w) kb) :: mus)) (hu : A.units + 5 < cLine) (m1 : m "due" = some (.ref dd)) (m2 : m "found" = some (.ref fd))
    (hfd : g.DictOf (intKind Pg w) fd ka) (hfs : (fd == sysModules) = false) (hds : (dd == sysModules) = false) (ha : All2 KV ka acca) (hb : All2 KV kb accb) (hsame : ∀ k, getP acca k = getP accb k)
    (hQ : ∀ h' tk, FN w mg mb g₀ h₀ g L h' m ((dd, dicP (intKind Pg w) kb) :: mus) → Q .next { s with heap := h', toks := tk }) :
    wpAny (model Pg w) A (exec (loopStmt 9) (lawEnv L f c1 c2 c3 c4 c5)) Q E s := by
  rw [show loopStmt 9 = .If _ [.Return _ _] [] _ from rfl]
  have hdd := F.dic (.head _)
  have na := dicNodup hfd
  have nb := dicNodup hdd
  have hlen : ka.length = kb.length := same_len na nb fun k => by rw [KV.any ha, KV.any hb, ← getP_any, ← getP_any, hsame]
  repeat' ((fail_if_success (with_reducible show wpAny _ _ (compareOp _ _ _) _ _ _)); tb_rel)
  refine keq_ne (knd := intKind Pg w) hfs hds (dicUp hfd F.st) hdd (by omega) (fun _ => hits_all hb ha fun p hp => ?_) ?_
  · rw [← hsame]; exact getP_mem (KV.keys ha ▸ na) hp
  · rw [show (ka.length == kb.length) = true from beq_iff_eq.mpr hlen]
    repeat' tb_rel
    exact hQ s.heap _ F
end
/-! MLawT -/
section
variable {A : Around} {E : Value → Shared → Prop} {s : Shared} {w : World} {mg mb : Str → Option Value} {g₀ h₀ g : Heap} {m : Str → Option Value} {Q : Flow → Shared → Prop} {L f c1 c2 : Addr} {v : Int} {tv : Tok} {d : Dat} {I : Addr} {oI : Obj}
/-- the names that the loop leaves alone -/
structure MK (d : Dat) (m : Str → Option Value) : Prop where
  links : m "links" = some (.ref d.lk)
  kinds : m "kinds" = some (.ref d.kl)
  before : m "before" = some (.ref d.bt)
theorem MK.to {d : Dat} {m m' : Str → Option Value} (K : MK d m) (h1 : m' "links" = m "links") (h2 : m' "kinds" = m "kinds") (h3 : m' "before" = m "before") : MK d m' := ⟨h1.trans K.links, h2.trans K.kinds, h3.trans K.before⟩
set_option maxHeartbeats 2000000 in
theorem turn_spec (F : FN w mg mb g₀ h₀ g L s.heap m [(I, isP oI), (c2, cellP (some (.int v tv))), (426, tabP g lamQ)]) (hd : A.depth + 60 < recursionLimit) (hh : A.handled = none) (hu : A.units + 5 < cLine) (hfr : A.frames = some [lawEnv L f c1 c2 d.c3 d.c4 d.c5]) (Z : LF w mg mb d g) (K : MK d m) (hv : 0 < v)
    (hQ : ∀ fl g' h' tk m', fl = Flow.next ∨ fl = Flow.cont → FN w mg mb g₀ h₀ g' L h' m' [(I, isP oI), (c2, cellP (some (.int v tv))), (426, tabP g' lamQ)] → Sub g g' → MK d m' → Q fl { s with heap := h', toks := tk }) :
    wpAny (model Pg w) A (execs loopBody (lawEnv L f c1 c2 d.c3 d.c4 d.c5)) Q E s := by
  rw [loop_split]
  cases hW : walkF d.ls d.ks (d.ls.length + 1) [] (some v) with
  | none =>
    refine wpAny_execs_cons (line_stmt F hd Z K.links K.kinds (fun _ _ _ _ _ _ q => by rw [hW] at q; cases q) fun _ g₁ h₁ t₁ F₁ kg₁ => ?_)
    have F₁ := weakM [_, _] F₁ (tabP.up kg₁)
    have Z₁ := Z.up kg₁
    dsimp only
    refine wpAny_execs_cons (heard_stmt F₁ hd hh hfr Z₁ hv (fun _ _ _ _ _ _ q => by rw [hW] at q; cases q) fun _ g₂ h₂ t₂ F₂ kg₂ => ?_)
    have Z₂ := Z₁.up kg₂
    dsimp only
    refine wpAny_execs_cons (if_bad F₂ rfl rfl fun h₃ t₃ F₃ => ?_)
    dsimp only
    refine wpAny_execs_cons (found_stmt F₃ hd hh hfr Z₂ hv (fun _ _ _ _ _ _ q => by rw [hW] at q; cases q) fun _ g₄ h₄ t₄ F₄ kg₄ => ?_)
    dsimp only
    refine wpAny_execs_cons (none_bad F₄ rfl rfl fun h₅ t₅ F₅ => ?_)
    exact hQ _ _ _ _ _ (.inr rfl) F₅ (kg₁.tr (kg₂.tr kg₄)) (K.to rfl rfl rfl)
  | some line =>
    refine wpAny_execs_cons (line_stmt F hd Z K.links K.kinds (fun g₁ h₁ t₁ D vs line' q F₁ kg₁ hD hvs => ?_) fun q => by rw [hW] at q; cases q)
    rw [hW] at q
    cases q
    have F₁ := weakM [_, _] F₁ (tabP.up kg₁)
    have Z₁ := Z.up kg₁
    have hlen : line.length ≤ 6 := by have := (walkF_good hW Good.nil).length; have := Z.hl; omega
    dsimp only
    refine wpAny_execs_cons (heard_stmt F₁ hd hh hfr Z₁ hv (fun g₂ h₂ t₂ fl rs line' q F₂ kg₂ hfl hrs => ?_) fun q => by rw [hW] at q; cases q)
    rw [hW] at q
    cases q
    have Z₂ := Z₁.up kg₂
    dsimp only
    refine wpAny_execs_cons (if_ok F₂ hu hd hh rfl rfl hfl hrs (stays_list kg₂ hD) hvs hlen fun g₃ h₃ t₃ F₃ kg₃ => ?_)
    have F₃ := weakM [_, _] F₃ (tabP.up kg₃)
    have Z₃ := Z₂.up kg₃
    dsimp only
    refine wpAny_execs_cons (found_stmt F₃ hd hh hfr Z₃ hv (fun g₄ h₄ t₄ fd ka line' q F₄ kg₄ hfd hfs ha hal => ?_) fun q => by rw [hW] at q; cases q)
    rw [hW] at q
    cases q
    have Z₄ := Z₃.up kg₄
    dsimp only
    refine wpAny_execs_cons (none_ok (D := D) F₄ rfl fun h₅ t₅ F₅ => ?_)
    dsimp only
    refine wpAny_execs_cons (due_stmt F₅ fun h₆ t₆ dd F₆ hds => ?_)
    dsimp only
    obtain ⟨r, rfl, hok, hll, htail⟩ := walkF_tail hW
    refine wpAny_execs_cons (due_loop F₆ hh Z₄ rfl ⟨hok.1, hok.2.1⟩ fun g₇ h₇ t₇ m₇ kvs F₇ kg₇ hm₇ hkv hkl => ?_)
    have F₇ := weakM [_, _, _] F₇ (tabP.up kg₇)
    have Z₇ := Z₄.up kg₇
    dsimp only
    refine wpAny_execs_cons (behind_stmt (D := D) (vs := vs) F₇ hd hh hfr Z₇ ((hm₇ _ (by decide) (by decide)).trans rfl) (stays_list (kg₂.tr (kg₃.tr (kg₄.tr kg₇))) hD) hvs hW fun g₈ h₈ t₈ bd kb F₈ kg₈ hbd hbs hkb hbl => ?_)
    have F₈ := weakM [_, _, _] F₈ (tabP.up kg₈)
    dsimp only
    refine wpAny_execs_cons (fill_loop (dd := dd) (bd := bd) F₈ hh ((hm₇ _ (by decide) (by decide)).trans rfl) rfl hbd hbs hds hkv hkb hkl hbl fun h₉ t₉ m₉ kvs' F₉ hm₉ hkv' => ?_)
    dsimp only
    refine wpAny_execs_cons (same_stmt (fd := fd) (dd := dd) F₉ hu ((hm₉ _ (by decide)).trans ((hm₇ _ (by decide) (by decide)).trans rfl)) ((hm₉ _ (by decide)).trans ((hm₇ _ (by decide) (by decide)).trans rfl))
      (dicUp hfd (kg₇.tr kg₈)) hfs hds ha hkv' (fun k => ?_) fun hA tA FA => ?_)
    · rw [getP_fold, getP_fold, getP_fold, getP_rev]
      rw [show rowsOf (rowsFn d.rws) (v :: r) = rowsFn d.rws (v - 1).toNat ++ rowsOf (rowsFn d.rws) r from rfl, getP_append]
      simp [getP]
    · dsimp only
      refine wpAny_execs_nil ?_
      exact hQ _ _ _ _ _ (.inl rfl) FA.tl (kg₁.tr (kg₂.tr (kg₃.tr (kg₄.tr (kg₇.tr kg₈))))) (K.to ((hm₉ _ (by decide)).trans ((hm₇ _ (by decide) (by decide)).trans rfl)) ((hm₉ _ (by decide)).trans ((hm₇ _ (by decide) (by decide)).trans rfl)) ((hm₉ _ (by decide)).trans ((hm₇ _ (by decide) (by decide)).trans rfl)))
end
/-! MLawV -/
section
variable {A : Around} {E : Value → Shared → Prop} {s : Shared} {w : World} {mg mb : Str → Option Value} {g₀ h₀ g : Heap} {m : Str → Option Value} {mus : List (Addr × Ob)} {Q : Flow → Shared → Prop} {L f c1 c2 c3 c4 c5 p : Addr} {n count : Int} {tc : Tok} {vc : Option Value}
set_option maxHeartbeats 1000000 in
theorem pen_stmt {sa : Addr} {vs : List Value} {ns : List Int} (F : FN w mg mb g₀ h₀ g L s.heap m ((c1, cellP vc) :: mus)) (hd : A.depth + 60 < recursionLimit) (hh : A.handled = none) (m1 : m "script" = some (.ref sa)) (hl : g.IsList sa vs.toArray) (hcs : IntsAre vs ns) (hcl : ns.length ≤ 63)
    (hQ : ∀ g' h' tk p, FN w mg mb g₀ h₀ g' L h' m ((p, penP g' 0) :: mus) → Sub g g' → g'.IsCell c1 (some (.ref p)) → Q .next { s with heap := h', toks := tk }) :
    wpAny (model Pg w) A (exec (lawStmt 0) (lawEnv L f c1 c2 c3 c4 c5)) Q E s := by
  rw [show lawStmt 0 = .Assign [.Name _ _] (.Call _ [_] _ _) _ from rfl]
  repeat' ((fail_if_success (with_reducible show wpAny _ _ (call (Value.ref 389) _) _ _ _)); tb_rel)
  rename FN _ _ _ _ _ _ _ _ _ _ => F
  refine wpAny_call (pen_spec F.G F.st (by omega) hh hl hcs hcl fun g' h' t' p ca cvs cs great state t1 t2 t3 W hp hgp hsp hca hcs' hcl' hg hs0 hs1 => ?_)
  have hpm : ∀ q ∈ ((c1, cellP vc) :: mus), q.1 ≠ p := fun q hq e => by obtain ⟨⟨o, ho, _⟩, _⟩ := F.nw q hq; rw [e, hsp] at ho; cases ho
  have hpL : p ≠ L := fun e => by obtain ⟨o, _, _, ho, _⟩ := F.ns; rw [e, ho] at hsp; cases hsp
  have h0p := none_of_sub F.kh hsp
  have F := F.after W
  have kg := W.kg
  clear W
  obtain ⟨o, ho, hc, nn, hdd⟩ := hp
  have F := F.add (p := p) (P := penP g' 0) ⟨o, ho, ca, cvs, cs, great, state, t1, t2, t3, ⟨hc, nn, hdd⟩, hca, hcs', hcl', hg, hs0, hs1⟩ hpL hgp h0p hpm
  dsimp only
  refine sC [_] F rfl rfl rfl fun h₂ F => ?_
  simp only [List.cons_append, List.nil_append] at F
  obtain ⟨g₃, F, kg3, hf⟩ := FN.freeze (mus := [(c1, cellP (some (.ref p)))]) ((p, penP g' 0) :: mus) F.swap
  exact hQ _ _ _ p (F.weak (penP.up kg3)) (kg.tr kg3) (let ⟨o, ho, q⟩ := hf _ (.head _); ⟨o, ho, q⟩)
set_option maxHeartbeats 1000000 in
theorem count_stmt (F : FN w mg mb g₀ h₀ g L s.heap m ((p, penP g 0) :: mus)) (hd : A.depth + 60 < recursionLimit) (hcp : g.IsCell c1 (some (.ref p)))
    (hQ : ∀ g' h' tk count tc, FN w mg mb g₀ h₀ g' L h' (fun y => if y = "count" then some (.int count tc) else m y) ((p, penP g' 1) :: mus) → Sub g g' → 1 ≤ count → count ≤ 6 → Q .next { s with heap := h', toks := tk }) :
    wpAny (model Pg w) A (exec (lawStmt 1) (lawEnv L f c1 c2 c3 c4 c5)) Q E s := by
  rw [show lawStmt 1 = .Assign [.Name _ _] (.BinOp _ _ _ _) _ from rfl]
  repeat' ((fail_if_success (with_reducible show wpAny _ _ (call (Value.ref 396) _) _ _ _)); tb_rel)
  rename FN _ _ _ _ _ _ _ _ _ _ => F
  refine' draw_FN [] F ?ddep ?dlim ?dn ?_
  case ddep => omega
  case dlim => omega
  case dn => omega
  clear F
  intro g₄ h' tk d td F kg hd0 hd1
  simp only [List.cons_append, List.nil_append] at F
  dsimp only
  have kg4 := kg
  repeat' tb_rel
  rename FN _ _ _ _ _ _ _ _ _ _ => F
  exact hQ _ _ _ _ _ F kg4 (by omega) (by omega)
set_option maxHeartbeats 1000000 in
theorem links_stmt (F : FN w mg mb g₀ h₀ g L s.heap m ((p, penP g n) :: mus)) (hd : A.depth + 60 < recursionLimit) (hh : A.handled = none) (hcp : g.IsCell c1 (some (.ref p))) (hct : 1 ≤ count ∧ count ≤ 6) (hn : 0 ≤ n ∧ n < 50) (m1 : m "count" = some (.int count tc))
    (hQ : ∀ g' h' tk lk ys ls k, FN w mg mb g₀ h₀ g' L h' (fun y => if y = "links" then some (.ref lk) else m y) ((p, penP g' k) :: mus) → Sub g g' → n ≤ k → k ≤ n + 2 * count → g'.IsList lk ys.toArray → All2 LinkV ys ls → (ls.length : Int) = count →
      Q .next { s with heap := h', toks := tk }) :
    wpAny (model Pg w) A (exec (lawStmt 2) (lawEnv L f c1 c2 c3 c4 c5)) Q E s := by
  rw [show lawStmt 2 = .Assign [.Name _ _] (.Call _ [_, _] _ _) _ from rfl]
  repeat' ((fail_if_success (with_reducible show wpAny _ _ (call (Value.ref 403) _) _ _ _)); tb_rel)
  rename FN _ _ _ _ _ _ _ _ _ _ => F
  have P := F.nw _ (.head _)
  refine wpAny_call (links_spec F.G F.st (by omega) hh P.2.2.1 P.1 ⟨hn.1, by omega⟩ hct fun g' h' t' lk ys ls k W hp hgp hk0 hk1 hlk hys hln => ?_)
  have F := F.afterM W hp hgp
  dsimp only
  have hW := W.kg
  clear W
  have F := F.weak (P' := penP g' k) (fun o q => q)
  repeat' tb_rel
  rename FN _ _ _ _ _ _ _ _ _ _ => F
  exact hQ _ _ _ _ _ _ _ F hW hk0 hk1 hlk hys hln
end
/-! MLawW -/
section
variable {A : Around} {E : Value → Shared → Prop} {s : Shared} {w : World} {mg mb : Str → Option Value} {g₀ h₀ g : Heap} {m : Str → Option Value} {mus : List (Addr × Ob)} {Q : Flow → Shared → Prop} {L f c1 c2 c3 c4 c5 p : Addr} {n count : Int} {tc : Tok} {vc : Option Value}
set_option maxHeartbeats 1000000 in
theorem shelf_stmt {lk kl : Addr} {ys zs : List Value} {ls : List (Option Int)} {ks : List Int} (mus₁ : List (Addr × Ob)) (F : FN w mg mb g₀ h₀ g L s.heap m (mus₁ ++ (c5, cellP vc) :: mus)) (hd : A.depth + 60 < recursionLimit) (hh : A.handled = none) (hcp : g.IsCell c1 (some (.ref p)))
    (m1 : m "links" = some (.ref lk)) (m2 : m "kinds" = some (.ref kl)) (hlk : g.IsList lk ys.toArray) (hkl : g.IsList kl zs.toArray) (hys : All2 LinkV ys ls) (hzs : IntsAre zs ks) (hlen : ls.length ≤ 6) (hln : ks.length = ls.length) (hks : ∀ k ∈ ks, 0 ≤ k ∧ k ≤ 3)
    (hQ : ∀ g' h' tk x td tr nt nm ts, FN w mg mb g₀ h₀ g' L h' m (mus₁ ++ (c5, cellP (some (.ref x))) :: mus) → Sub g g' → ShelfIs w g' x ls ks td tr nt nm ts → Q .next { s with heap := h', toks := tk }) :
    wpAny (model Pg w) A (exec (lawStmt 4) (lawEnv L f c1 c2 c3 c4 c5)) Q E s := by
  rw [show lawStmt 4 = .Assign [.Name _ _] (.Call _ [_, _, _] _ _) _ from rfl]
  repeat' ((fail_if_success (with_reducible show wpAny _ _ (call (Value.ref 410) _) _ _ _)); tb_rel)
  rename FN _ _ _ _ _ _ _ _ _ _ => F
  refine wpAny_call (shelf_spec F.G F.st (by omega) hh hlk hkl hys hzs hlen hln hks fun g' h' t' x td tr nt nm ts W S => ?_)
  have F := F.after W
  have kg := W.kg
  clear W
  dsimp only
  refine sC mus₁ F rfl rfl rfl fun h₂ F => ?_
  exact hQ _ _ _ _ _ _ _ _ _ F kg S
set_option maxHeartbeats 1000000 in
theorem before_stmt {sh td tr nt nm : Addr} {ts : List Addr} {ls : List (Option Int)} {ks : List Int} (F : FN w mg mb g₀ h₀ g L s.heap m mus) (hd : A.depth + 60 < recursionLimit) (hh : A.handled = none) (hcs : g.IsCell c5 (some (.ref sh))) (S : ShelfIs w g sh ls ks td tr nt nm ts) (hl : ls.length ≤ 6)
    (hQ : ∀ g' h' tk b, FN w mg mb g₀ h₀ g' L h' (fun y => if y = "before" then some (.ref b) else m y) mus → Sub g g' → (∀ q, Rep g' (q + 7) (ptShelf ls ks) (.ref b)) → Q .next { s with heap := h', toks := tk }) :
    wpAny (model Pg w) A (exec (lawStmt 6) (lawEnv L f c1 c2 c3 c4 c5)) Q E s := by
  rw [show lawStmt 6 = .Assign [.Name _ _] (.Call (.Attribute _ _ _) _ _ _) _ from rfl]
  repeat' ((fail_if_success (with_reducible show wpAny _ _ (getMethod _ _ _) _ _ _)); tb_rel)
  rename FN _ _ _ _ _ _ _ _ _ _ => F
  refine getM F (S.told) rfl rfl rfl ?_
  dsimp only
  repeat' ((fail_if_success (with_reducible show wpAny _ _ (call (Value.ref 360) _) _ _ _)); tb_rel)
  rename FN _ _ _ _ _ _ _ _ _ _ => F
  refine wpAny_call (shelf_told F.G F.st (by omega) hh S hl fun g' h' t' b W hb => ?_)
  have F := F.after W
  have kg := W.kg
  clear W
  dsimp only
  repeat' tb_rel
  rename FN _ _ _ _ _ _ _ _ _ _ => F
  exact hQ _ _ _ _ F kg hb
theorem eq_reps {A : Around} {E : Value → Shared → Prop} {s : Shared} {w : World} {Q : Value → Shared → Prop} {g : Heap} {a b : Addr} {l : List PT} {q : Nat} (k : Sub g s.heap) (ha : Rep g (q + 1) (.tup l) (.ref a)) (hb : Rep g (q + 1) (.tup l) (.ref b))
    (hun : A.units + q + 3 < cLine) (h : Q (.bool true) s) : wpAny (model Pg w) A (compareOp .Eq (.ref a) (.ref b)) Q E s := by
  cases ha with
  | @tup _ _ _ vs hta qa =>
  cases hb with
  | @tup _ _ _ us htb qb =>
    have hlen : vs.length = us.length := by rw [← qa.length, ← qb.length]
    have := SeqAt.RcAt.tuples (A := A) (s := s) (e := fun _ => true) (tupUp hta k) (tupUp htb k) (by omega) (fun j h1 h2 => RepL.eq k qa qb (A := A.in1) (by have : A.in1.units = A.units + 1 := rfl; omega) j _ _ (by simp at h1 ⊢) (by simp at h2 ⊢))
    rw [show ((List.range (min vs.toArray.size us.toArray.size)).all (fun _ => true) && vs.toArray.size == us.toArray.size) = true by simp [hlen]] at this
    exact this _ _ _ _ h
set_option maxHeartbeats 1000000 in
theorem ret_stmt {sh td tr nt nm bt : Addr} {ts : List Addr} {ls : List (Option Int)} {ks : List Int} (F : FN w mg mb g₀ h₀ g L s.heap m mus) (hd : A.depth + 60 < recursionLimit) (hh : A.handled = none) (hu : A.units + 20 < cLine) (hcs : g.IsCell c5 (some (.ref sh))) (S : ShelfIs w g sh ls ks td tr nt nm ts) (hl : ls.length ≤ 6)
    (m1 : m "before" = some (.ref bt)) (hbt : ∀ q, Rep g (q + 7) (ptShelf ls ks) (.ref bt))
    (hQ : ∀ g' h' tk, FN w mg mb g₀ h₀ g' L h' m mus → Sub g g' → Q (.ret (.bool true)) { s with heap := h', toks := tk }) :
    wpAny (model Pg w) A (exec (lawStmt 9) (lawEnv L f c1 c2 c3 c4 c5)) Q E s := by
  rw [show lawStmt 9 = .Return (some (.Compare (.Call (.Attribute _ _ _) _ _ _) _ _ _)) _ from rfl]
  repeat' ((fail_if_success (with_reducible show wpAny _ _ (getMethod _ _ _) _ _ _)); tb_rel)
  rename FN _ _ _ _ _ _ _ _ _ _ => F
  refine getM F (S.told) rfl rfl rfl ?_
  dsimp only
  repeat' ((fail_if_success (with_reducible show wpAny _ _ (call (Value.ref 360) _) _ _ _)); tb_rel)
  rename FN _ _ _ _ _ _ _ _ _ _ => F
  refine wpAny_call (shelf_told F.G F.st (by omega) hh S hl fun g' h' t' b W hb => ?_)
  have F := F.after W
  have kg := W.kg
  clear W
  dsimp only
  repeat' ((fail_if_success (with_reducible show wpAny _ _ (compareOp _ _ _) _ _ _)); tb_rel)
  rename FN _ _ _ _ _ _ _ _ _ _ => F
  refine eq_reps (q := 6) F.st (hb 0) ((hbt 0).up kg) (by omega) ?_
  repeat' tb_rel
  exact hQ _ _ _ F kg
set_option maxHeartbeats 1000000 in
theorem loop_stmt {d : Dat} (F : FN w mg mb g₀ h₀ g L s.heap m [(c2, cellP vc), (426, tabP g lamQ)]) (hd : A.depth + 60 < recursionLimit) (hh : A.handled = none) (hu : A.units + 5 < cLine) (hfr : A.frames = some [lawEnv L f c1 c2 d.c3 d.c4 d.c5]) (Z : LF w mg mb d g) (K : MK d m) (m1 : m "count" = some (.int count tc)) (hct : 1 ≤ count ∧ count ≤ 6)
    (hQ : ∀ g' h' tk m' v', FN w mg mb g₀ h₀ g' L h' m' [(c2, cellP v'), (426, tabP g' lamQ)] → Sub g g' → MK d m' → Q .next { s with heap := h', toks := tk }) :
    wpAny (model Pg w) A (exec (lawStmt 8) (lawEnv L f c1 c2 d.c3 d.c4 d.c5)) Q E s := by
  rw [show lawStmt 8 = .For (.Name _ _) (.Call _ [_, _] _ _) loopBody [] _ from rfl]
  repeat' ((fail_if_success (with_reducible show wpAny _ _ (call (Value.type "range") _) _ _ _)); tb_rel)
  rename FN _ _ _ _ _ _ _ _ _ _ => F
  refine range_2 F (by decide) (by omega) (by omega) fun I h₃ oI tk F₃ hit _ k₃ => ?_
  clear F
  refine' forLoopC_FN (mus₀ := [(426, tabP g lamQ)]) (It.range hh I _ _) (fun i g m mus => mus = [(426, tabP g lamQ)] ∧ MK d m) ?qL ?qk ?qx ?qc ?qfp F₃ hit ⟨rfl, K⟩ ?turn ?fin
  case qL => exact rfl
  case qk => exact rfl
  case qx => exact rfl
  case qc => exact rfl
  case qfp => exact fun b hb => .inl (List.mem_singleton.mp hb)
  case turn =>
    rintro i g₅ h₅ m₅ mus5 x tk₅ oI₅ E' hi ⟨tx, rfl⟩ kg5 ⟨rfl, K5⟩ F₅
    refine turn_spec F₅ hd hh hu hfr (Z.up kg5) K5 (by omega) fun fl g' h' tk m' hfl F' kg' K' => ?_
    rcases hfl with rfl | rfl
    · exact ⟨g', h', m', _, _, _, rfl, kg', F', rfl, K'⟩
    · exact ⟨g', h', m', _, _, _, rfl, kg', F', rfl, K'⟩
  case fin =>
    rintro g₅ h₅ m₅ mus5 tk₅ v' kg5 ⟨rfl, K5⟩ F₅
    exact hQ _ _ _ _ _ F₅ kg5 K5
end
/-! MLawX -/
section
variable {A : Around} {E : Value → Shared → Prop} {s : Shared} {w : World} {mg mb : Str → Option Value} {g₀ h₀ g : Heap} {m : Str → Option Value} {Q : Flow → Shared → Prop} {L f c1 c2 c3 c4 c5 : Addr} {v1 v2 v3 v4 v5 : Option Value}
set_option maxHeartbeats 2000000 in
theorem law_spec {sa : Addr} {vs : List Value} {ns : List Int} (F : FN w mg mb g₀ h₀ g L s.heap m [(c1, cellP v1), (c4, cellP v4), (c5, cellP v5), (c3, cellP v3), (c2, cellP v2), (426, tabP g lamQ)]) (hd : A.depth + 60 < recursionLimit) (hh : A.handled = none) (hu : A.units + 20 < cLine)
    (hfr : A.frames = some [lawEnv L f c1 c2 c3 c4 c5]) (C : CodeHd g 428 426) (m1 : m "script" = some (.ref sa)) (hl : g.IsList sa vs.toArray) (hcs : IntsAre vs ns) (hcl : ns.length ≤ 63)
    (hQ : ∀ g' h' tk m', FN w mg mb g₀ h₀ g' L h' m' [(426, tabP g' lamQ)] → Q (.ret (.bool true)) { s with heap := h', toks := tk }) :
    wpAny (model Pg w) A (execs lawBody (lawEnv L f c1 c2 c3 c4 c5)) Q E s := by
  rw [law_split]
  refine wpAny_execs_cons (pen_stmt F hd hh m1 hl hcs hcl fun g₁ h₁ t₁ p F₁ kg₁ hc1 => ?_)
  dsimp only
  refine wpAny_execs_cons (count_stmt F₁ hd hc1 fun g₂ h₂ t₂ count tc F₂ kg₂ hct0 hct1 => ?_)
  have hc1 := cellUp hc1 kg₂
  dsimp only
  refine wpAny_execs_cons (links_stmt F₂ hd hh hc1 ⟨hct0, hct1⟩ (by omega) rfl fun g₃ h₃ t₃ lk ys ls n₃ F₃ kg₃ hn0 hn1 hlk hys hln => ?_)
  have hc1 := cellUp hc1 kg₃
  dsimp only
  refine wpAny_execs_cons (kinds_stmt (count := count) (tc := tc) F₃ (by omega) hh hc1 ⟨hct0, hct1⟩ (by omega) rfl fun g₄ h₄ t₄ kl zs ks n₄ F₄ kg₄ hkl hzs hkn hks hk0 hk1 => ?_)
  have hc1 := cellUp hc1 kg₄
  have hlk := stays_list kg₄ hlk
  dsimp only
  refine wpAny_execs_cons (shelf_stmt [(p, penP g₄ n₄), (c4, cellP v4)] F₄ hd hh hc1 rfl rfl hlk hkl hys hzs (by omega) (by omega) hks fun g₅ h₅ t₅ sh td tr nt nm ts F₅ kg₅ S => ?_)
  have hc1 := cellUp hc1 kg₅
  have hlk := stays_list kg₅ hlk
  have hkl := stays_list kg₅ hkl
  simp only [List.cons_append, List.nil_append] at F₅
  have F₅ := F₅.weak (penP.up kg₅)
  dsimp only
  refine wpAny_execs_cons (rows_stmt (count := count) (tc := tc) F₅ (by omega) hh hc1 ⟨hct0, hct1⟩ (by omega) rfl fun g₆ h₆ t₆ rl ras rws n₆ F₆ kg₆ hrl hras hrn hrw hn6 => ?_)
  obtain ⟨g₇, F₇, kg₇, hf⟩ := FN.freeze (mus := [(c4, cellP (some (.ref rl))), (c5, cellP (some (.ref sh)))]) [(c3, cellP v3), (c2, cellP v2), (426, tabP g lamQ)] F₆.tl
  have hc4 : g₇.IsCell c4 (some (.ref rl)) := let ⟨o, ho, q⟩ := hf _ (.head _); ⟨o, ho, q⟩
  have hc5 : g₇.IsCell c5 (some (.ref sh)) := let ⟨o, ho, q⟩ := hf _ (.tail _ (.head _)); ⟨o, ho, q⟩
  have kg67 := kg₆.tr kg₇
  have hlk := stays_list kg67 hlk
  have hkl := stays_list kg67 hkl
  have S := S.up kg67
  have hrl := stays_list kg₇ hrl
  have hras := hras.mono fun _ _ q => RowL.up q kg₇
  dsimp only
  refine wpAny_execs_cons (before_stmt F₇ hd hh hc5 S (by omega) fun g₈ h₈ t₈ bt F₈ kg₈ hbt => ?_)
  have kgg : Sub g g₈ := kg₁.tr (kg₂.tr (kg₃.tr (kg₄.tr (kg₅.tr (kg67.tr kg₈)))))
  have F₈ : FN w mg mb g₀ h₀ g₈ L h₈ _ ((426, tabP g lamQ) :: (c3, cellP v3) :: [(c2, cellP v2)]) := F₈.perm ((List.perm_middle (l₁ := [(c3, cellP v3), (c2, cellP v2)]) (l₂ := [])).symm)
  have F₈ := F₈.weak (tabP.up kgg)
  dsimp only
  refine wpAny_execs_cons (read_stmt F₈ (C.keeps kgg) fun g₉ h₉ t₉ rd pm cdv ctv F₉ kg₉ hfn hcr => ?_)
  obtain ⟨gA, FA, kgA, hfA⟩ := FN.freeze (mus := [(c3, cellP (some (.ref rd)))]) [(426, tabP g₉ lamQ), (c2, cellP v2)] F₉.swap
  have hc3 : gA.IsCell c3 (some (.ref rd)) := let ⟨o, ho, q⟩ := hfA _ (.head _); ⟨o, ho, q⟩
  have kgB := kg₉.tr kgA
  have kgC := kg₈.tr kgB
  have hc4A := cellUp hc4 kgC
  have hrlA := stays_list kgC hrl
  have hrasA := hras.mono fun _ _ q => RowL.up q kgC
  have FA := (FA.weak (tabP.up kgA)).swap
  have Z : LF w mg mb ⟨sh, td, tr, nt, nm, lk, kl, rl, rd, bt, c3, c4, c5, ts, ys, zs, ls, ks, ras, rws⟩ gA :=
    { S := S.up kgC, hl := by show ls.length ≤ 6; omega, hk0 := fun k hk => (hks k hk).1, hln := by show ks.length = ls.length; omega, hrn := by show rws.length = ls.length; omega, hrw := hrw, cS := cellUp hc5 kgC, cR := hc4A, cD := hc3,
      lk := stays_list kgC hlk, kl := stays_list kgC hkl, hys := hys, hzs := hzs, rl := hrlA, hras := hrasA, fn := ⟨_, _, _, _, kgA _ _ hfn⟩,
      rd := read_reads (kgA _ _ hfn) (codeRecUp hcr kgA) hc4A hrlA hrasA (by show rws.length = ls.length; omega) (by show ls.length ≤ 6; omega), before := fun q => (hbt q).up kgB, code := C.keeps (kgg.tr kgB) }
  dsimp only
  refine wpAny_execs_cons (loop_stmt (d := ⟨sh, td, tr, nt, nm, lk, kl, rl, rd, bt, c3, c4, c5, ts, ys, zs, ls, ks, ras, rws⟩) (count := count) (tc := tc) FA hd hh (by omega) hfr Z ⟨rfl, rfl, rfl⟩ rfl ⟨hct0, hct1⟩ fun gD hD tD mD v' FD kgD KD => ?_)
  dsimp only
  have ZD := Z.up kgD
  refine wpAny_execs_cons (ret_stmt (bt := bt) FD hd hh hu ZD.cS ZD.S ZD.hl KD.before ZD.before fun gE hE tE FE kgE => ?_)
  exact hQ _ _ _ _ (FE.tl.weak (tabP.up kgE))
end
/-! MTop -/
theorem ne_at {a b : Nat} (h : a ≠ b) : (a : Addr) ≠ b := h
/-- the frame of the law as the head leaves it -/
theorem law_entry {w : World} {mg mb : Str → Option Value} {B h : Heap} {L : Addr} {m : Str → Option Value} {o1 o2 o3 o4 o5 : Obj} {v1 v2 v3 v4 v5 : Option Value}
    (G : Gr w mg mb B) (F : Fr B L h m) (N : News B L h [(L + 1 + 1 + 1 + 1 + 1, o5), (L + 1 + 1 + 1 + 1, o4), (L + 1 + 1 + 1, o3), (L + 1 + 1, o2), (L + 1, o1), (426, tabObj #[])]) (hl : 426 < L)
    (d5 : o5.data = .cell v5) (d4 : o4.data = .cell v4) (d3 : o3.data = .cell v3) (d2 : o2.data = .cell v2) (d1 : o1.data = .cell v1) :
    FN w mg mb B B B L h m [(L + 1, cellP v1), (L + 1 + 1 + 1 + 1, cellP v4), (L + 1 + 1 + 1 + 1 + 1, cellP v5), (L + 1 + 1 + 1, cellP v3), (L + 1 + 1, cellP v2), (426, tabP B lamQ)] := by
  have n5 := N _ (.head _)
  have n4 := N _ (.tail _ (.head _))
  have n3 := N _ (.tail _ (.tail _ (.head _)))
  have n2 := N _ (.tail _ (.tail _ (.tail _ (.head _))))
  have n1 := N _ (.tail _ (.tail _ (.tail _ (.tail _ (.head _)))))
  have n0 := N _ (.tail _ (.tail _ (.tail _ (.tail _ (.tail _ (.head _))))))
  have F0 : FN w mg mb B B B L h m [] := FN.start G (Sub.rfl' _) F.ns F.keep (Heap.get?_none_of_le F.above)
  have hl : Nat.lt 426 L := hl
  have ne : ∀ i j : Nat, i ≠ j → (L : Nat) + i ≠ L + j := fun i j h q => h (Nat.add_left_cancel q)
  have n426 : ∀ i : Nat, (426 : Nat) ≠ L + i := fun i => Nat.ne_of_lt (Nat.lt_of_lt_of_le hl (Nat.le_add_right _ _))
  have F1 := F0.add (p := 426) (P := tabP B lamQ) ⟨_, n0.1, #[], rfl, trivial, fun pos cv e => by cases e⟩ n0.2.1 n0.2.2 n0.2.2 (fun _ h => nomatch h)
  have F2 := F1.add (p := L + 1 + 1) (P := cellP v2) ⟨_, n2.1, d2⟩ n2.2.1 n2.2.2 n2.2.2 (fun q hq => by
    simp only [List.mem_cons, List.not_mem_nil, or_false] at hq
    rcases hq with rfl
    exact n426 2)
  have F3 := F2.add (p := L + 1 + 1 + 1) (P := cellP v3) ⟨_, n3.1, d3⟩ n3.2.1 n3.2.2 n3.2.2 (fun q hq => by
    simp only [List.mem_cons, List.not_mem_nil, or_false] at hq
    rcases hq with rfl | rfl
    · exact ne 2 3 (by decide)
    · exact n426 3)
  have F5 := F3.add (p := L + 1 + 1 + 1 + 1 + 1) (P := cellP v5) ⟨_, n5.1, d5⟩ n5.2.1 n5.2.2 n5.2.2 (fun q hq => by
    simp only [List.mem_cons, List.not_mem_nil, or_false] at hq
    rcases hq with rfl | rfl | rfl
    · exact ne 3 5 (by decide)
    · exact ne 2 5 (by decide)
    · exact n426 5)
  have F4 := F5.add (p := L + 1 + 1 + 1 + 1) (P := cellP v4) ⟨_, n4.1, d4⟩ n4.2.1 n4.2.2 n4.2.2 (fun q hq => by
    simp only [List.mem_cons, List.not_mem_nil, or_false] at hq
    rcases hq with rfl | rfl | rfl | rfl
    · exact ne 5 4 (by decide)
    · exact ne 3 4 (by decide)
    · exact ne 2 4 (by decide)
    · exact n426 4)
  exact F4.add (p := L + 1) (P := cellP v1) ⟨_, n1.1, d1⟩ n1.2.1 n1.2.2 n1.2.2 (fun q hq => by
    simp only [List.mem_cons, List.not_mem_nil, or_false] at hq
    rcases hq with rfl | rfl | rfl | rfl | rfl
    · exact ne 4 1 (by decide)
    · exact ne 5 1 (by decide)
    · exact ne 3 1 (by decide)
    · exact ne 2 1 (by decide)
    · exact n426 1)
end Mine
open PySem PySem.W PyProof.Rows
set_option maxHeartbeats 8000000 in
theorem PySem.Challenge.cw_og0165_01_holds : PySem.Challenge.rw_og0165_01.Holds := by
  w_on
  o_law
  open Mine in
  refine holds_open (q := viewE) (loose := looseE) (Xt := seesE) (XP := XL viewE []) (Yf := Hook.obs (kmHook KF KA KA_eq [426])) (Ya := Hook.val (kmHook KF KA KA_eq [426])) (YP := Hook.says (kmHook KF KA KA_eq [426])) (N := 6512) leftE (Hook.of (kmHook KF KA KA_eq [426])) (Hook.keeps (kmHook KF KA KA_eq [426])) (fun s e => xl_of s (Bool.and_eq_true_iff.mp e).1) XL.keeps (by rfl) (by rfl) (by rfl) (fun s e => recFacts_of (Bool.and_eq_true_iff.mp e).2) (by rfl) (by first | assumption | decide +kernel) (by decide +kernel) ⟨rfl, rfl, rfl, rfl, rfl, by decide +kernel⟩ ?hw ?hc
  case hw => w_witness2
  w_strict (
  k_go0
  all_goals try k_fold
  rename Top topProg _ _ _ _ _ => T'
  rename Fr _ _ _ _ => F'
  rename News _ _ _ _ => N'
  rename IntsAre _ _ => hI
  rename Frag.In _ (ghostOf _ _) => X'
  rename 426 < _ => l0'
  have G' : Mine.Gr _ _ _ _ := ⟨X', T'.g, T'.b, T'.nolimit, T'.builtins, T'.bmain⟩
  have FF := Mine.law_entry G' F' N' l0' (by assumption) (by assumption) (by assumption) (by assumption) (by assumption)
  refine Mine.law_spec FF ?hd rfl ?hu rfl codeHd rfl lifted hI ?hn fun g' h' tk m' F => ?_
  case hd => exact (by decide +kernel : 1 + PySem.claimMargin + 1 + 60 < recursionLimit)
  case hu => exact (by decide +kernel : 4 + 3 + 20 < cLine)
  case hn => omega
  have nT := F.nw _ (.head _)
  refine ⟨goodW_bool ⟨F.ns, F.kh, F'.above⟩ (by assumption) (raisesW_false ?_) ?_, ⟨?_, trivial⟩⟩
  · wrow_none_raised
  · wrow_post
  · obtain ⟨⟨o, ho, ps, e, _⟩, _⟩ := nT
    exact ⟨ps, by rw [← e]; exact ho⟩)
