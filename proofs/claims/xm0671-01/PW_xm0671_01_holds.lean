import PyProof.Rows.All
import Wide.All
import OpenK.AllK
import Wide.FinOn
import PySem.Challenge.RW_xm0671_01
open PySem PySem.W PyProof.Rows PySem.Calls
set_option Elab.async false
set_option linter.all false
set_option maxRecDepth 100000
set_option maxHeartbeats 8000000
namespace Mine
abbrev PP : Program := PySem.Challenge.rw_xm0671_01.row.toRowW.prog
abbrev fnO (i : Nat) {n : PySem.Str} {a : PySem.Arguments} {b : List PySem.Stmt} {d : List PySem.Expr} {r : Option PySem.Expr} {t : List PySem.TypeParam} {s : PySem.Scope} {ts : Option PySem.Scope} {bn : PySem.Str} {p : PySem.Pos}
  (_h : PySem.Challenge.pw_xm0671_01.main.body[i]? = some (PySem.Stmt.FunctionDef n a b d r t s ts bn p)) (c : Value) (nm qn : PySem.Str) (g : Addr) (cl : List (PySem.Str × Addr)) (dv kv dc pm : Value) (an : Option Addr) (cd ct : Value) (bt : Addr) : Obj :=
  ⟨c, none, .func ⟨nm, qn, a, .stmts b, s, g, cl, dv, kv, dc, pm, an, cd, ct, bt⟩, #[]⟩
abbrev mtO (i j : Nat) {cn : PySem.Str} {bs : List PySem.Expr} {ks : List PySem.Keyword} {cb : List PySem.Stmt} {cd1 : List PySem.Expr} {ct1 : List PySem.TypeParam} {cs : PySem.Scope} {cts : Option PySem.Scope} {cbn : PySem.Str} {csa : List PySem.Str} {cp : PySem.Pos}
  {n : PySem.Str} {a : PySem.Arguments} {b : List PySem.Stmt} {d : List PySem.Expr} {r : Option PySem.Expr} {t : List PySem.TypeParam} {s : PySem.Scope} {ts : Option PySem.Scope} {bn : PySem.Str} {p : PySem.Pos}
  (_h1 : PySem.Challenge.pw_xm0671_01.main.body[i]? = some (PySem.Stmt.ClassDef cn bs ks cb cd1 ct1 cs cts cbn csa cp)) (_h2 : cb[j]? = some (PySem.Stmt.FunctionDef n a b d r t s ts bn p))
  (c : Value) (nm qn : PySem.Str) (g : Addr) (cl : List (PySem.Str × Addr)) (dv kv dc pm : Value) (an : Option Addr) (cd ct : Value) (bt : Addr) : Obj :=
  ⟨c, none, .func ⟨nm, qn, a, .stmts b, s, g, cl, dv, kv, dc, pm, an, cd, ct, bt⟩, #[]⟩
noncomputable abbrev qo_43 : Params → Obj := fun P => ⟨(.type "tuple"), none, (.seq #[] 0), #[]⟩
noncomputable abbrev qo_44 : Params → Obj := fun P => ⟨.none, none, (.fields #[]), #[]⟩
noncomputable abbrev qo_45 : Params → Obj := fun P => ⟨(.type "code"), none, (.fields #[(.str "<module>" 182), (.str "<module>" 183), (.str "/claim/cut.py" 184), (.int 1 0), (.int 0 0), (.int 0 0), (.int 0 0), (.int 0 0), (.ref 11), (.bool false), (.int 181 0), (.ref 12), .none, .none, .none, .none, (.int 185 0), (.int 1 0), (.str "/claim/cut.py" 186)]), #[]⟩
noncomputable abbrev qo_46 : Params → Obj := fun P => ⟨(.type "frame"), none, .plain, #[(some (.ref 13)), (some (.ref 3)), (some (.ref 3)), none, (some (.str "__main__" 164)), none, (some (.ref 0))]⟩
noncomputable abbrev qo_124 : Params → Obj := fun P => ⟨(.type "dict"), none, (.dict #[⟨(PySem.PyData.keyHash P "__name__"), (.str "__name__" 165), (.str "markupmill.errors" 384)⟩, ⟨(PySem.PyData.keyHash P "__doc__"), (.str "__doc__" 166), .none⟩, ⟨(PySem.PyData.keyHash P "__package__"), (.str "__package__" 167), .none⟩, ⟨(PySem.PyData.keyHash P "__loader__"), (.str "__loader__" 168), (.builtin "__main__.__loader__#opaque")⟩, ⟨(PySem.PyData.keyHash P "__spec__"), (.str "__spec__" 169), .none⟩, ⟨(PySem.PyData.keyHash P "__annotations__"), (.str "__annotations__" 170), (.ref 6)⟩, ⟨(PySem.PyData.keyHash P "__builtins__"), (.str "__builtins__" 171), (.ref 4)⟩, ⟨(PySem.PyData.keyHash P "__file__"), (.str "__file__" 173), (.str "/claim/cut.py" 172)⟩, ⟨(PySem.PyData.keyHash P "__cached__"), (.str "__cached__" 174), .none⟩, ⟨(PySem.PyData.keyHash P "_wall"), (.str "_wall" 193), (.ref 21)⟩, ⟨(PySem.PyData.keyHash P "NAN"), (.str "NAN" 198), (.ref 22)⟩, ⟨(PySem.PyData.keyHash P "INFINITY"), (.str "INFINITY" 201), (.ref 23)⟩, ⟨(PySem.PyData.keyHash P "SPACES"), (.str "SPACES" 203), (.str " \t\n\r" 202)⟩, ⟨(PySem.PyData.keyHash P "DIGITS"), (.str "DIGITS" 205), (.str "0123456789" 204)⟩, ⟨(PySem.PyData.keyHash P "MOST_FIGURES"), (.str "MOST_FIGURES" 207), (.int 400 206)⟩, ⟨(PySem.PyData.keyHash P "MOST"), (.str "MOST" 210), (.int 10000000000000000000000000000000000000000000000000000000000000000000000000000000000000000000000000000000000000000000000000000000000000000000000000000000000000000000000000000000000000000000000000000000000000000000000000000000000000000000000000000000000000000000000000000000000000000000000000000000000000000000000000000000000000000000000000000000000000000000000000000000000000000000000000000000000000000 209)⟩, ⟨(PySem.PyData.keyHash P "common_divisor"), (.str "common_divisor" 220), (.ref 30)⟩, ⟨(PySem.PyData.keyHash P "sign_of"), (.str "sign_of" 227), (.ref 37)⟩, ⟨(PySem.PyData.keyHash P "number_of"), (.str "number_of" 237), (.ref 45)⟩, ⟨(PySem.PyData.keyHash P "is_nan"), (.str "is_nan" 244), (.ref 52)⟩, ⟨(PySem.PyData.keyHash P "negated"), (.str "negated" 251), (.ref 59)⟩, ⟨(PySem.PyData.keyHash P "digits_end"), (.str "digits_end" 259), (.ref 66)⟩, ⟨(PySem.PyData.keyHash P "trimmed"), (.str "trimmed" 268), (.ref 73)⟩, ⟨(PySem.PyData.keyHash P "whole_of"), (.str "whole_of" 277), (.ref 80)⟩, ⟨(PySem.PyData.keyHash P "read_number"), (.str "read_number" 291), (.ref 87)⟩, ⟨(PySem.PyData.keyHash P "number_of_digits"), (.str "number_of_digits" 302), (.ref 94)⟩, ⟨(PySem.PyData.keyHash P "write_number"), (.str "write_number" 317), (.ref 102)⟩, ⟨(PySem.PyData.keyHash P "beneath"), (.str "beneath" 330), (.ref 109)⟩, ⟨(PySem.PyData.keyHash P "string_value"), (.str "string_value" 336), (.ref 114)⟩, ⟨(PySem.PyData.keyHash P "as_text"), (.str "as_text" 346), (.ref 121)⟩, ⟨(PySem.PyData.keyHash P "as_number"), (.str "as_number" 354), (.ref 128)⟩, ⟨(PySem.PyData.keyHash P "is_equality"), (.str "is_equality" 361), (.ref 135)⟩, ⟨(PySem.PyData.keyHash P "as_compared"), (.str "as_compared" 367), (.ref 140)⟩, ⟨(PySem.PyData.keyHash P "texts_of"), (.str "texts_of" 373), (.ref 145)⟩, ⟨(PySem.PyData.keyHash P "listed"), (.str "listed" 383), (.ref 152)⟩] 35), #[]⟩
noncomputable abbrev qo_51 : Params → Obj := fun P => ⟨(.type "tuple"), none, (.seq #[] 0), #[]⟩
noncomputable abbrev qo_67 : Params → Obj := fun P => ⟨(.type "tuple"), none, (.seq #[] 0), #[]⟩
noncomputable abbrev qo_99 : Params → Obj := fun P => ⟨(.type "tuple"), none, (.seq #[] 0), #[]⟩
noncomputable abbrev qo_165 : Params → Obj := fun P => ⟨(.type "code"), none, (.fields #[(.str "as_number" 347), (.str "as_number" 348), (.str "/claim/cut.py" 349), (.int 112 0), (.int 2 0), (.int 0 0), (.int 0 0), (.int 3 0), (.ref 122), (.bool true), (.int 181 0), (.ref 123), .none, (.ref 124), (.ref 125), (.ref 126), (.int 352 0), (.int 112 0), (.str "/claim/cut.py" 353)]), #[]⟩
noncomputable abbrev qo_133 : Params → Obj := fun P => ⟨(.type "tuple"), none, (.seq #[(.int 15 303)] 0), #[]⟩
noncomputable abbrev qo_83 : Params → Obj := fun P => ⟨.none, none, (.fields #[]), #[]⟩
noncomputable abbrev qo_115 : Params → Obj := fun P => ⟨(.type "code"), none, (.fields #[(.str "whole_of" 269), (.str "whole_of" 270), (.str "/claim/cut.py" 271), (.int 47 0), (.int 1 0), (.int 0 0), (.int 0 0), (.int 3 0), (.ref 74), (.bool true), (.int 181 0), (.ref 75), .none, (.ref 76), (.ref 77), (.ref 78), (.int 275 0), (.int 47 0), (.str "/claim/cut.py" 276)]), #[]⟩
noncomputable abbrev qo_181 : Params → Obj := fun _ => fnO 27 rfl .none "texts_of" "texts_of" 0 [] .none .none .none .none none .none .none 0
noncomputable abbrev qo_149 : Params → Obj := fun P => ⟨.none, none, (.fields #[]), #[]⟩
noncomputable abbrev qo_59 : Params → Obj := fun P => ⟨(.type "tuple"), none, (.seq #[(.int 1 199), (.int 0 200)] 0), #[]⟩
noncomputable abbrev qo_75 : Params → Obj := fun P => ⟨(.type "tuple"), none, (.seq #[] 0), #[]⟩
noncomputable abbrev qo_107 : Params → Obj := fun _ => fnO 14 rfl .none "trimmed" "trimmed" 0 [] .none .none .none .none none .none .none 0
noncomputable abbrev qo_173 : Params → Obj := fun _ => fnO 25 rfl (.type "function") "is_equality" "is_equality" 3 [] .none .none .none (.str "markupmill.compare" 337) none (.ref 134) .none 0
noncomputable abbrev qo_141 : Params → Obj := fun P => ⟨(.type "tuple"), none, (.seq #[] 0), #[]⟩
noncomputable abbrev qo_91 : Params → Obj := fun P => ⟨(.type "tuple"), none, (.seq #[(.str "a" 248)] 0), #[]⟩
noncomputable abbrev qo_123 : Params → Obj := fun _ => fnO 16 rfl (.type "function") "read_number" "read_number" 3 [] .none .none .none (.str "markupmill.numbers" 194) none (.ref 86) .none 0
noncomputable abbrev qo_189 : Params → Obj := fun P => ⟨(.type "code"), none, (.fields #[(.str "listed" 374), (.str "listed" 375), (.str "/claim/cut.py" 376), (.int 126 0), (.int 4 0), (.int 0 0), (.int 0 0), (.int 3 0), (.ref 146), (.bool true), (.int 181 0), (.ref 147), .none, (.ref 148), (.ref 149), (.ref 150), (.int 381 0), (.int 126 0), (.str "/claim/cut.py" 382)]), #[]⟩
noncomputable abbrev qo_157 : Params → Obj := fun _ => fnO 23 rfl .none "as_text" "as_text" 0 [] .none .none .none .none none .none .none 0
noncomputable abbrev qo_55 : Params → Obj := fun _ => fnO 0 rfl .none "_wall" "_wall" 0 [] .none .none .none .none none .none .none 0
noncomputable abbrev qo_71 : Params → Obj := fun _ => fnO 9 rfl .none "sign_of" "sign_of" 0 [] .none .none .none .none none .none .none 0
noncomputable abbrev qo_103 : Params → Obj := fun P => ⟨(.type "tuple"), none, (.seq #[] 0), #[]⟩
noncomputable abbrev qo_169 : Params → Obj := fun P => ⟨(.type "tuple"), none, (.seq #[(.str "op" 358)] 0), #[]⟩
noncomputable abbrev qo_137 : Params → Obj := fun P => ⟨(.type "tuple"), none, (.seq #[] 0), #[]⟩
noncomputable abbrev qo_87 : Params → Obj := fun P => ⟨(.type "code"), none, (.fields #[(.str "is_nan" 238), (.str "is_nan" 239), (.str "/claim/cut.py" 240), (.int 32 0), (.int 1 0), (.int 0 0), (.int 0 0), (.int 3 0), (.ref 46), (.bool true), (.int 181 0), (.ref 47), .none, (.ref 48), (.ref 49), (.ref 50), (.int 242 0), (.int 32 0), (.str "/claim/cut.py" 243)]), #[]⟩
noncomputable abbrev qo_119 : Params → Obj := fun P => ⟨(.type "tuple"), none, (.seq #[(.str "text" 281), (.str "told" 282), (.str "begin" 283), (.str "end" 284), (.str "whole" 285), (.str "parts" 286), (.str "last" 287), (.str "found" 288)] 0), #[]⟩
noncomputable abbrev qo_185 : Params → Obj := fun P => ⟨.none, none, (.fields #[]), #[]⟩
noncomputable abbrev qo_153 : Params → Obj := fun P => ⟨(.type "tuple"), none, (.seq #[] 0), #[]⟩
noncomputable abbrev qo_63 : Params → Obj := fun P => ⟨(.type "tuple"), none, (.seq #[] 0), #[]⟩
noncomputable abbrev qo_79 : Params → Obj := fun _ => fnO 10 rfl .none "number_of" "number_of" 0 [] .none .none .none .none none .none .none 0
noncomputable abbrev qo_111 : Params → Obj := fun P => ⟨.none, none, (.fields #[]), #[]⟩
noncomputable abbrev qo_177 : Params → Obj := fun P => ⟨(.type "code"), none, (.fields #[(.str "as_compared" 362), (.str "as_compared" 363), (.str "/claim/cut.py" 364), (.int 120 0), (.int 3 0), (.int 0 0), (.int 0 0), (.int 3 0), (.ref 136), (.bool true), (.int 181 0), (.ref 137), .none, .none, .none, (.ref 138), (.int 365 0), (.int 120 0), (.str "/claim/cut.py" 366)]), #[]⟩
noncomputable abbrev qo_145 : Params → Obj := fun _ => fnO 20 rfl .none "beneath" "beneath" 0 [] .none .none .none .none none .none .none 0
noncomputable abbrev qo_95 : Params → Obj := fun _ => fnO 12 rfl (.type "function") "negated" "negated" 3 [] .none .none .none (.str "markupmill.numbers" 194) none (.ref 58) .none 0
noncomputable abbrev qo_129 : Params → Obj := fun P => ⟨(.type "tuple"), none, (.seq #[] 0), #[]⟩
noncomputable abbrev qo_161 : Params → Obj := fun P => ⟨.none, none, (.fields #[]), #[]⟩
noncomputable abbrev qo_53 : Params → Obj := fun P => ⟨(.type "tuple"), none, (.seq #[(.str "k" 190)] 0), #[]⟩
noncomputable abbrev qo_69 : Params → Obj := fun P => ⟨(.type "tuple"), none, (.seq #[(.str "number" 224)] 0), #[]⟩
noncomputable abbrev qo_101 : Params → Obj := fun P => ⟨(.type "code"), none, (.fields #[(.str "digits_end" 252), (.str "digits_end" 253), (.str "/claim/cut.py" 254), (.int 36 0), (.int 2 0), (.int 0 0), (.int 0 0), (.int 3 0), (.ref 60), (.bool true), (.int 181 0), (.ref 61), .none, (.ref 62), (.ref 63), (.ref 64), (.int 257 0), (.int 36 0), (.str "/claim/cut.py" 258)]), #[]⟩
noncomputable abbrev qo_167 : Params → Obj := fun P => ⟨(.type "tuple"), none, (.seq #[] 0), #[]⟩
noncomputable abbrev qo_135 : Params → Obj := fun P => ⟨.none, none, (.fields #[]), #[]⟩
noncomputable abbrev qo_85 : Params → Obj := fun P => ⟨(.type "tuple"), none, (.seq #[] 0), #[]⟩
noncomputable abbrev qo_117 : Params → Obj := fun P => ⟨(.type "tuple"), none, (.seq #[] 0), #[]⟩
noncomputable abbrev qo_183 : Params → Obj := fun _ => fnO 27 rfl (.type "function") "texts_of" "texts_of" 3 [] .none .none .none (.str "markupmill.compare" 337) none (.ref 144) .none 0
noncomputable abbrev qo_151 : Params → Obj := fun P => ⟨(.type "code"), none, (.fields #[(.str "string_value" 331), (.str "string_value" 332), (.str "/claim/cut.py" 333), (.int 99 0), (.int 2 0), (.int 0 0), (.int 0 0), (.int 3 0), (.ref 110), (.bool true), (.int 181 0), (.ref 111), .none, .none, .none, (.ref 112), (.int 334 0), (.int 99 0), (.str "/claim/cut.py" 335)]), #[]⟩
noncomputable abbrev qo_61 : Params → Obj := fun P => ⟨.none, none, (.fields #[]), #[]⟩
noncomputable abbrev qo_77 : Params → Obj := fun P => ⟨(.type "tuple"), none, (.seq #[(.str "top" 232), (.str "bottom" 233), (.str "common" 234)] 0), #[]⟩
noncomputable abbrev qo_109 : Params → Obj := fun _ => fnO 14 rfl (.type "function") "trimmed" "trimmed" 3 [] .none .none .none (.str "markupmill.numbers" 194) none (.ref 72) .none 0
noncomputable abbrev qo_175 : Params → Obj := fun P => ⟨.none, none, (.fields #[]), #[]⟩
noncomputable abbrev qo_143 : Params → Obj := fun P => ⟨(.type "tuple"), none, (.seq #[(.str "tree" 323), (.str "node" 324), (.str "found" 325), (.str "left" 326), (.str "here" 327)] 0), #[]⟩
noncomputable abbrev qo_93 : Params → Obj := fun _ => fnO 12 rfl .none "negated" "negated" 0 [] .none .none .none .none none .none .none 0
noncomputable abbrev qo_127 : Params → Obj := fun P => ⟨.none, none, (.fields #[]), #[]⟩
noncomputable abbrev qo_159 : Params → Obj := fun _ => fnO 23 rfl (.type "function") "as_text" "as_text" 3 [] .none .none .none (.str "markupmill.compare" 337) none (.ref 120) .none 0
noncomputable abbrev qo_57 : Params → Obj := fun _ => fnO 0 rfl (.type "function") "_wall" "_wall" 3 [] .none .none .none (.str "__main__" 164) none (.ref 20) .none 0
noncomputable abbrev qo_73 : Params → Obj := fun _ => fnO 9 rfl (.type "function") "sign_of" "sign_of" 3 [] .none .none .none (.str "markupmill.numbers" 194) none (.ref 36) .none 0
noncomputable abbrev qo_105 : Params → Obj := fun P => ⟨(.type "tuple"), none, (.seq #[(.str "text" 263), (.str "begin" 264), (.str "end" 265)] 0), #[]⟩
noncomputable abbrev qo_171 : Params → Obj := fun _ => fnO 25 rfl .none "is_equality" "is_equality" 0 [] .none .none .none .none none .none .none 0
noncomputable abbrev qo_139 : Params → Obj := fun P => ⟨(.type "code"), none, (.fields #[(.str "write_number" 304), (.str "write_number" 305), (.str "/claim/cut.py" 306), (.int 74 0), (.int 2 0), (.int 0 0), (.int 0 0), (.int 3 0), (.ref 96), (.bool true), (.int 181 0), (.ref 97), .none, (.ref 98), (.ref 99), (.ref 100), (.int 315 0), (.int 74 0), (.str "/claim/cut.py" 316)]), #[]⟩
noncomputable abbrev qo_89 : Params → Obj := fun P => ⟨(.type "tuple"), none, (.seq #[] 0), #[]⟩
noncomputable abbrev qo_121 : Params → Obj := fun _ => fnO 16 rfl .none "read_number" "read_number" 0 [] .none .none .none .none none .none .none 0
noncomputable abbrev qo_187 : Params → Obj := fun P => ⟨(.type "tuple"), none, (.seq #[] 0), #[]⟩
noncomputable abbrev qo_155 : Params → Obj := fun P => ⟨(.type "tuple"), none, (.seq #[(.str "value" 342), (.str "tree" 343)] 0), #[]⟩
noncomputable abbrev qo_65 : Params → Obj := fun P => ⟨(.type "code"), none, (.fields #[(.str "common_divisor" 211), (.str "common_divisor" 212), (.str "/claim/cut.py" 213), (.int 11 0), (.int 2 0), (.int 0 0), (.int 0 0), (.int 3 0), (.ref 24), (.bool true), (.int 181 0), (.ref 25), .none, (.ref 26), (.ref 27), (.ref 28), (.int 218 0), (.int 11 0), (.str "/claim/cut.py" 219)]), #[]⟩
noncomputable abbrev qo_81 : Params → Obj := fun _ => fnO 10 rfl (.type "function") "number_of" "number_of" 3 [] (.ref 38) .none .none (.str "markupmill.numbers" 194) none (.ref 44) .none 0
noncomputable abbrev qo_113 : Params → Obj := fun P => ⟨(.type "tuple"), none, (.seq #[] 0), #[]⟩
noncomputable abbrev qo_179 : Params → Obj := fun P => ⟨(.type "tuple"), none, (.seq #[] 0), #[]⟩
noncomputable abbrev qo_147 : Params → Obj := fun _ => fnO 20 rfl (.type "function") "beneath" "beneath" 3 [] .none .none .none (.str "markupmill.order" 318) none (.ref 108) .none 0
noncomputable abbrev qo_97 : Params → Obj := fun P => ⟨.none, none, (.fields #[]), #[]⟩
noncomputable abbrev qo_131 : Params → Obj := fun P => ⟨(.type "code"), none, (.fields #[(.str "number_of_digits" 292), (.str "number_of_digits" 293), (.str "/claim/cut.py" 294), (.int 65 0), (.int 2 0), (.int 0 0), (.int 0 0), (.int 3 0), (.ref 88), (.bool true), (.int 181 0), (.ref 89), .none, (.ref 90), (.ref 91), (.ref 92), (.int 300 0), (.int 65 0), (.str "/claim/cut.py" 301)]), #[]⟩
noncomputable abbrev qo_163 : Params → Obj := fun P => ⟨(.type "tuple"), none, (.seq #[] 0), #[]⟩
noncomputable abbrev qo_52 : Params → Obj := fun P => ⟨.none, none, (.fields #[]), #[]⟩
noncomputable abbrev qo_68 : Params → Obj := fun P => ⟨.none, none, (.fields #[]), #[]⟩
noncomputable abbrev qo_100 : Params → Obj := fun _ => fnO 13 rfl .none "digits_end" "digits_end" 0 [] .none .none .none .none none .none .none 0
noncomputable abbrev qo_166 : Params → Obj := fun _ => fnO 24 rfl (.type "function") "as_number" "as_number" 3 [] .none .none .none (.str "markupmill.compare" 337) none (.ref 127) .none 0
noncomputable abbrev qo_134 : Params → Obj := fun P => ⟨(.type "tuple"), none, (.seq #[] 0), #[]⟩
noncomputable abbrev qo_84 : Params → Obj := fun P => ⟨(.type "tuple"), none, (.seq #[(.str "a" 241)] 0), #[]⟩
noncomputable abbrev qo_116 : Params → Obj := fun _ => fnO 15 rfl (.type "function") "whole_of" "whole_of" 3 [] .none .none .none (.str "markupmill.numbers" 194) none (.ref 79) .none 0
noncomputable abbrev qo_182 : Params → Obj := fun P => ⟨(.type "code"), none, (.fields #[(.str "texts_of" 368), (.str "texts_of" 369), (.str "/claim/cut.py" 370), (.int 124 0), (.int 2 0), (.int 0 0), (.int 0 0), (.int 3 0), (.ref 141), (.bool true), (.int 181 0), (.ref 142), .none, .none, .none, (.ref 143), (.int 371 0), (.int 124 0), (.str "/claim/cut.py" 372)]), #[]⟩
noncomputable abbrev qo_150 : Params → Obj := fun _ => fnO 21 rfl .none "string_value" "string_value" 0 [] .none .none .none .none none .none .none 0
noncomputable abbrev qo_60 : Params → Obj := fun P => ⟨(.type "tuple"), none, (.seq #[] 0), #[]⟩
noncomputable abbrev qo_76 : Params → Obj := fun P => ⟨.none, none, (.fields #[]), #[]⟩
noncomputable abbrev qo_108 : Params → Obj := fun P => ⟨(.type "code"), none, (.fields #[(.str "trimmed" 260), (.str "trimmed" 261), (.str "/claim/cut.py" 262), (.int 40 0), (.int 1 0), (.int 0 0), (.int 0 0), (.int 3 0), (.ref 67), (.bool true), (.int 181 0), (.ref 68), .none, (.ref 69), (.ref 70), (.ref 71), (.int 266 0), (.int 40 0), (.str "/claim/cut.py" 267)]), #[]⟩
noncomputable abbrev qo_174 : Params → Obj := fun P => ⟨(.type "tuple"), none, (.seq #[] 0), #[]⟩
noncomputable abbrev qo_142 : Params → Obj := fun P => ⟨.none, none, (.fields #[]), #[]⟩
noncomputable abbrev qo_92 : Params → Obj := fun P => ⟨(.type "tuple"), none, (.seq #[] 0), #[]⟩
noncomputable abbrev qo_126 : Params → Obj := fun P => ⟨(.type "tuple"), none, (.seq #[] 0), #[]⟩
noncomputable abbrev qo_190 : Params → Obj := fun _ => fnO 28 rfl (.type "function") "listed" "listed" 3 [] .none .none .none (.str "markupmill.compare" 337) none (.ref 151) .none 0
noncomputable abbrev qo_158 : Params → Obj := fun P => ⟨(.type "code"), none, (.fields #[(.str "as_text" 339), (.str "as_text" 340), (.str "/claim/cut.py" 341), (.int 104 0), (.int 2 0), (.int 0 0), (.int 0 0), (.int 3 0), (.ref 115), (.bool true), (.int 181 0), (.ref 116), .none, (.ref 117), (.ref 118), (.ref 119), (.int 344 0), (.int 104 0), (.str "/claim/cut.py" 345)]), #[]⟩
noncomputable abbrev qo_125 : Params → Obj := fun P => ⟨.none, none, (.fields #[(.int 1 0), (.int 0 0), (.ref 20), (.int 11 0), (.int 0 0), (.ref 29), (.int 16 0), (.int 0 0), (.ref 36), (.int 22 0), (.int 0 0), (.ref 44), (.int 32 0), (.int 0 0), (.ref 51), (.int 34 0), (.int 0 0), (.ref 58), (.int 36 0), (.int 0 0), (.ref 65), (.int 40 0), (.int 0 0), (.ref 72), (.int 47 0), (.int 0 0), (.ref 79), (.int 52 0), (.int 0 0), (.ref 86), (.int 65 0), (.int 0 0), (.ref 93), (.int 74 0), (.int 0 0), (.ref 101), (.int 91 0), (.int 0 0), (.ref 108), (.int 99 0), (.int 0 0), (.ref 113), (.int 104 0), (.int 0 0), (.ref 120), (.int 112 0), (.int 0 0), (.ref 127), (.int 118 0), (.int 0 0), (.ref 134), (.int 120 0), (.int 0 0), (.ref 139), (.int 124 0), (.int 0 0), (.ref 144), (.int 126 0), (.int 0 0), (.ref 151)]), #[]⟩
noncomputable abbrev qo_56 : Params → Obj := fun P => ⟨(.type "code"), none, (.fields #[(.str "_wall" 187), (.str "_wall" 188), (.str "/claim/cut.py" 189), (.int 1 0), (.int 1 0), (.int 0 0), (.int 0 0), (.int 3 0), (.ref 15), (.bool true), (.int 181 0), (.ref 16), .none, (.ref 17), (.ref 18), (.ref 19), (.int 191 0), (.int 1 0), (.str "/claim/cut.py" 192)]), #[]⟩
noncomputable abbrev qo_72 : Params → Obj := fun P => ⟨(.type "code"), none, (.fields #[(.str "sign_of" 221), (.str "sign_of" 222), (.str "/claim/cut.py" 223), (.int 16 0), (.int 1 0), (.int 0 0), (.int 0 0), (.int 3 0), (.ref 31), (.bool true), (.int 181 0), (.ref 32), .none, (.ref 33), (.ref 34), (.ref 35), (.int 225 0), (.int 16 0), (.str "/claim/cut.py" 226)]), #[]⟩
noncomputable abbrev qo_104 : Params → Obj := fun P => ⟨.none, none, (.fields #[]), #[]⟩
noncomputable abbrev qo_170 : Params → Obj := fun P => ⟨(.type "tuple"), none, (.seq #[] 0), #[]⟩
noncomputable abbrev qo_138 : Params → Obj := fun _ => fnO 18 rfl .none "write_number" "write_number" 0 [] .none .none .none .none none .none .none 0
noncomputable abbrev qo_88 : Params → Obj := fun _ => fnO 11 rfl (.type "function") "is_nan" "is_nan" 3 [] .none .none .none (.str "markupmill.numbers" 194) none (.ref 51) .none 0
noncomputable abbrev qo_120 : Params → Obj := fun P => ⟨(.type "tuple"), none, (.seq #[] 0), #[]⟩
noncomputable abbrev qo_186 : Params → Obj := fun P => ⟨(.type "tuple"), none, (.seq #[(.str "op" 377), (.str "value" 378), (.str "other" 379), (.str "tree" 380)] 0), #[]⟩
noncomputable abbrev qo_154 : Params → Obj := fun P => ⟨.none, none, (.fields #[]), #[]⟩
noncomputable abbrev qo_64 : Params → Obj := fun _ => fnO 8 rfl .none "common_divisor" "common_divisor" 0 [] .none .none .none .none none .none .none 0
noncomputable abbrev qo_80 : Params → Obj := fun P => ⟨(.type "code"), none, (.fields #[(.str "number_of" 229), (.str "number_of" 230), (.str "/claim/cut.py" 231), (.int 22 0), (.int 2 0), (.int 0 0), (.int 0 0), (.int 3 0), (.ref 39), (.bool true), (.int 181 0), (.ref 40), .none, (.ref 41), (.ref 42), (.ref 43), (.int 235 0), (.int 22 0), (.str "/claim/cut.py" 236)]), #[]⟩
noncomputable abbrev qo_112 : Params → Obj := fun P => ⟨(.type "tuple"), none, (.seq #[(.str "digits" 272), (.str "number" 273), (.str "digit" 274)] 0), #[]⟩
noncomputable abbrev qo_178 : Params → Obj := fun _ => fnO 26 rfl (.type "function") "as_compared" "as_compared" 3 [] .none .none .none (.str "markupmill.compare" 337) none (.ref 139) .none 0
noncomputable abbrev qo_146 : Params → Obj := fun P => ⟨(.type "code"), none, (.fields #[(.str "beneath" 320), (.str "beneath" 321), (.str "/claim/cut.py" 322), (.int 91 0), (.int 2 0), (.int 0 0), (.int 0 0), (.int 3 0), (.ref 103), (.bool true), (.int 181 0), (.ref 104), .none, (.ref 105), (.ref 106), (.ref 107), (.int 328 0), (.int 91 0), (.str "/claim/cut.py" 329)]), #[]⟩
noncomputable abbrev qo_96 : Params → Obj := fun P => ⟨(.type "tuple"), none, (.seq #[] 0), #[]⟩
noncomputable abbrev qo_130 : Params → Obj := fun _ => fnO 17 rfl .none "number_of_digits" "number_of_digits" 0 [] .none .none .none .none none .none .none 0
noncomputable abbrev qo_162 : Params → Obj := fun P => ⟨(.type "tuple"), none, (.seq #[(.str "value" 350), (.str "tree" 351)] 0), #[]⟩
noncomputable abbrev qo_54 : Params → Obj := fun P => ⟨(.type "tuple"), none, (.seq #[] 0), #[]⟩
noncomputable abbrev qo_70 : Params → Obj := fun P => ⟨(.type "tuple"), none, (.seq #[] 0), #[]⟩
noncomputable abbrev qo_102 : Params → Obj := fun _ => fnO 13 rfl (.type "function") "digits_end" "digits_end" 3 [] .none .none .none (.str "markupmill.numbers" 194) none (.ref 65) .none 0
noncomputable abbrev qo_168 : Params → Obj := fun P => ⟨.none, none, (.fields #[]), #[]⟩
noncomputable abbrev qo_136 : Params → Obj := fun P => ⟨(.type "tuple"), none, (.seq #[(.str "n" 307), (.str "places" 308), (.str "scale" 309), (.str "scaled" 310), (.str "told" 311), (.str "rest" 312), (.str "parts" 313), (.str "end" 314)] 0), #[]⟩
noncomputable abbrev qo_86 : Params → Obj := fun _ => fnO 11 rfl .none "is_nan" "is_nan" 0 [] .none .none .none .none none .none .none 0
noncomputable abbrev qo_118 : Params → Obj := fun P => ⟨.none, none, (.fields #[]), #[]⟩
noncomputable abbrev qo_184 : Params → Obj := fun P => ⟨(.type "tuple"), none, (.seq #[] 0), #[]⟩
noncomputable abbrev qo_152 : Params → Obj := fun _ => fnO 21 rfl (.type "function") "string_value" "string_value" 3 [] .none .none .none (.str "markupmill.order" 318) none (.ref 113) .none 0
noncomputable abbrev qo_62 : Params → Obj := fun P => ⟨(.type "tuple"), none, (.seq #[(.str "one" 214), (.str "other" 215), (.str "first" 216), (.str "second" 217)] 0), #[]⟩
noncomputable abbrev qo_78 : Params → Obj := fun P => ⟨(.type "tuple"), none, (.seq #[] 0), #[]⟩
noncomputable abbrev qo_110 : Params → Obj := fun P => ⟨(.type "tuple"), none, (.seq #[] 0), #[]⟩
noncomputable abbrev qo_176 : Params → Obj := fun _ => fnO 26 rfl .none "as_compared" "as_compared" 0 [] .none .none .none .none none .none .none 0
noncomputable abbrev qo_144 : Params → Obj := fun P => ⟨(.type "tuple"), none, (.seq #[] 0), #[]⟩
noncomputable abbrev qo_94 : Params → Obj := fun P => ⟨(.type "code"), none, (.fields #[(.str "negated" 245), (.str "negated" 246), (.str "/claim/cut.py" 247), (.int 34 0), (.int 1 0), (.int 0 0), (.int 0 0), (.int 3 0), (.ref 53), (.bool true), (.int 181 0), (.ref 54), .none, (.ref 55), (.ref 56), (.ref 57), (.int 249 0), (.int 34 0), (.str "/claim/cut.py" 250)]), #[]⟩
noncomputable abbrev qo_128 : Params → Obj := fun P => ⟨(.type "tuple"), none, (.seq #[(.str "whole" 295), (.str "parts" 296), (.str "begin" 297), (.str "kept" 298), (.str "more" 299)] 0), #[]⟩
noncomputable abbrev qo_160 : Params → Obj := fun P => ⟨(.type "tuple"), none, (.seq #[] 0), #[]⟩
noncomputable abbrev qo_58 : Params → Obj := fun P => ⟨(.type "tuple"), none, (.seq #[(.int 0 196), (.int 0 197)] 0), #[]⟩
noncomputable abbrev qo_74 : Params → Obj := fun P => ⟨(.type "tuple"), none, (.seq #[(.int 1 228)] 0), #[]⟩
noncomputable abbrev qo_106 : Params → Obj := fun P => ⟨(.type "tuple"), none, (.seq #[] 0), #[]⟩
noncomputable abbrev qo_172 : Params → Obj := fun P => ⟨(.type "code"), none, (.fields #[(.str "is_equality" 355), (.str "is_equality" 356), (.str "/claim/cut.py" 357), (.int 118 0), (.int 1 0), (.int 0 0), (.int 0 0), (.int 3 0), (.ref 129), (.bool true), (.int 181 0), (.ref 130), .none, (.ref 131), (.ref 132), (.ref 133), (.int 359 0), (.int 118 0), (.str "/claim/cut.py" 360)]), #[]⟩
noncomputable abbrev qo_140 : Params → Obj := fun _ => fnO 18 rfl (.type "function") "write_number" "write_number" 3 [] (.ref 95) .none .none (.str "markupmill.numbers" 194) none (.ref 101) .none 0
noncomputable abbrev qo_90 : Params → Obj := fun P => ⟨.none, none, (.fields #[]), #[]⟩
noncomputable abbrev qo_122 : Params → Obj := fun P => ⟨(.type "code"), none, (.fields #[(.str "read_number" 278), (.str "read_number" 279), (.str "/claim/cut.py" 280), (.int 52 0), (.int 1 0), (.int 0 0), (.int 0 0), (.int 3 0), (.ref 81), (.bool true), (.int 181 0), (.ref 82), .none, (.ref 83), (.ref 84), (.ref 85), (.int 289 0), (.int 52 0), (.str "/claim/cut.py" 290)]), #[]⟩
noncomputable abbrev qo_188 : Params → Obj := fun _ => fnO 28 rfl .none "listed" "listed" 0 [] .none .none .none .none none .none .none 0
noncomputable abbrev qo_156 : Params → Obj := fun P => ⟨(.type "tuple"), none, (.seq #[] 0), #[]⟩
noncomputable abbrev qo_66 : Params → Obj := fun _ => fnO 8 rfl (.type "function") "common_divisor" "common_divisor" 3 [] .none .none .none (.str "markupmill.numbers" 194) none (.ref 29) .none 0
noncomputable abbrev qo_82 : Params → Obj := fun P => ⟨(.type "tuple"), none, (.seq #[] 0), #[]⟩
noncomputable abbrev qo_114 : Params → Obj := fun _ => fnO 15 rfl .none "whole_of" "whole_of" 0 [] .none .none .none .none none .none .none 0
noncomputable abbrev qo_180 : Params → Obj := fun P => ⟨.none, none, (.fields #[]), #[]⟩
noncomputable abbrev qo_148 : Params → Obj := fun P => ⟨(.type "tuple"), none, (.seq #[] 0), #[]⟩
noncomputable abbrev qo_98 : Params → Obj := fun P => ⟨(.type "tuple"), none, (.seq #[(.str "text" 255), (.str "at" 256)] 0), #[]⟩
noncomputable abbrev qo_132 : Params → Obj := fun _ => fnO 17 rfl (.type "function") "number_of_digits" "number_of_digits" 3 [] .none .none .none (.str "markupmill.numbers" 194) none (.ref 93) .none 0
noncomputable abbrev qo_164 : Params → Obj := fun _ => fnO 24 rfl .none "as_number" "as_number" 0 [] .none .none .none .none none .none .none 0
noncomputable abbrev qo_230 : Params → Obj := fun P => ⟨(.type "dict"), none, (.dict #[⟨(PySem.PyData.keyHash P "__name__"), (.str "__name__" 165), (.str "markupmill.tree" 431)⟩, ⟨(PySem.PyData.keyHash P "__doc__"), (.str "__doc__" 166), .none⟩, ⟨(PySem.PyData.keyHash P "__package__"), (.str "__package__" 167), .none⟩, ⟨(PySem.PyData.keyHash P "__loader__"), (.str "__loader__" 168), (.builtin "__main__.__loader__#opaque")⟩, ⟨(PySem.PyData.keyHash P "__spec__"), (.str "__spec__" 169), .none⟩, ⟨(PySem.PyData.keyHash P "__annotations__"), (.str "__annotations__" 170), (.ref 6)⟩, ⟨(PySem.PyData.keyHash P "__builtins__"), (.str "__builtins__" 171), (.ref 4)⟩, ⟨(PySem.PyData.keyHash P "__file__"), (.str "__file__" 173), (.str "/claim/cut.py" 172)⟩, ⟨(PySem.PyData.keyHash P "__cached__"), (.str "__cached__" 174), .none⟩, ⟨(PySem.PyData.keyHash P "_wall"), (.str "_wall" 193), (.ref 21)⟩, ⟨(PySem.PyData.keyHash P "NAN"), (.str "NAN" 198), (.ref 22)⟩, ⟨(PySem.PyData.keyHash P "INFINITY"), (.str "INFINITY" 201), (.ref 23)⟩, ⟨(PySem.PyData.keyHash P "SPACES"), (.str "SPACES" 203), (.str " \t\n\r" 202)⟩, ⟨(PySem.PyData.keyHash P "DIGITS"), (.str "DIGITS" 205), (.str "0123456789" 204)⟩, ⟨(PySem.PyData.keyHash P "MOST_FIGURES"), (.str "MOST_FIGURES" 207), (.int 400 206)⟩, ⟨(PySem.PyData.keyHash P "MOST"), (.str "MOST" 210), (.int 10000000000000000000000000000000000000000000000000000000000000000000000000000000000000000000000000000000000000000000000000000000000000000000000000000000000000000000000000000000000000000000000000000000000000000000000000000000000000000000000000000000000000000000000000000000000000000000000000000000000000000000000000000000000000000000000000000000000000000000000000000000000000000000000000000000000000000 209)⟩, ⟨(PySem.PyData.keyHash P "common_divisor"), (.str "common_divisor" 220), (.ref 30)⟩, ⟨(PySem.PyData.keyHash P "sign_of"), (.str "sign_of" 227), (.ref 37)⟩, ⟨(PySem.PyData.keyHash P "number_of"), (.str "number_of" 237), (.ref 45)⟩, ⟨(PySem.PyData.keyHash P "is_nan"), (.str "is_nan" 244), (.ref 52)⟩, ⟨(PySem.PyData.keyHash P "negated"), (.str "negated" 251), (.ref 59)⟩, ⟨(PySem.PyData.keyHash P "digits_end"), (.str "digits_end" 259), (.ref 66)⟩, ⟨(PySem.PyData.keyHash P "trimmed"), (.str "trimmed" 268), (.ref 73)⟩, ⟨(PySem.PyData.keyHash P "whole_of"), (.str "whole_of" 277), (.ref 80)⟩, ⟨(PySem.PyData.keyHash P "read_number"), (.str "read_number" 291), (.ref 87)⟩, ⟨(PySem.PyData.keyHash P "number_of_digits"), (.str "number_of_digits" 302), (.ref 94)⟩, ⟨(PySem.PyData.keyHash P "write_number"), (.str "write_number" 317), (.ref 102)⟩, ⟨(PySem.PyData.keyHash P "beneath"), (.str "beneath" 330), (.ref 109)⟩, ⟨(PySem.PyData.keyHash P "string_value"), (.str "string_value" 336), (.ref 114)⟩, ⟨(PySem.PyData.keyHash P "as_text"), (.str "as_text" 346), (.ref 121)⟩, ⟨(PySem.PyData.keyHash P "as_number"), (.str "as_number" 354), (.ref 128)⟩, ⟨(PySem.PyData.keyHash P "is_equality"), (.str "is_equality" 361), (.ref 135)⟩, ⟨(PySem.PyData.keyHash P "as_compared"), (.str "as_compared" 367), (.ref 140)⟩, ⟨(PySem.PyData.keyHash P "texts_of"), (.str "texts_of" 373), (.ref 145)⟩, ⟨(PySem.PyData.keyHash P "listed"), (.str "listed" 383), (.ref 152)⟩, ⟨(PySem.PyData.keyHash P "MarkupError"), (.str "MarkupError" 414), (.ref 169)⟩, ⟨(PySem.PyData.keyHash P "TreeFault"), (.str "TreeFault" 430), (.ref 182)⟩, ⟨(PySem.PyData.keyHash P "PARENTS"), (.str "PARENTS" 435), (.ref 185)⟩, ⟨(PySem.PyData.keyHash P "NodeRow"), (.str "NodeRow" 477), (.ref 202)⟩] 39), #[]⟩
noncomputable abbrev qo_237 : Params → Obj := fun P => ⟨(.type "code"), none, (.fields #[(.str "NodeRow" 438), (.str "NodeRow" 439), (.str "/claim/cut.py" 440), (.int 142 0), (.int 0 0), (.int 0 0), (.int 0 0), (.int 0 0), (.ref 189), (.bool false), (.int 181 0), (.ref 190), .none, .none, .none, .none, (.int 441 0), (.int 142 0), (.str "/claim/cut.py" 442)]), #[]⟩
noncomputable abbrev qo_200 : Params → Obj := fun P => ⟨(.type "frame"), none, .plain, #[(some (.ref 158)), (some (.ref 3)), (some (.ref 155)), none, (some (.str "markupmill.errors" 384)), none, (some (.ref 0))]⟩
noncomputable abbrev qo_219 : Params → Obj := fun P => ⟨(.type "dict"), none, (.dict #[⟨(PySem.PyData.keyHash P "__module__"), (.str "__module__" 422), (.str "markupmill.errors" 384)⟩, ⟨(PySem.PyData.keyHash P "__qualname__"), (.str "__qualname__" 424), (.str "TreeFault" 423)⟩, ⟨(PySem.PyData.keyHash P "__firstlineno__"), (.str "__firstlineno__" 426), (.int 138 425)⟩, ⟨(PySem.PyData.keyHash P "__static_attributes__"), (.str "__static_attributes__" 427), (.ref 180)⟩] 4), #[]⟩
noncomputable abbrev qo_245 : Params → Obj := fun _ => mtO 34 0 rfl rfl (.type "function") "__init__" "NodeRow.__init__" 3 [] .none .none .none (.str "markupmill.tree" 431) none (.ref 198) .none 0
noncomputable abbrev qo_208 : Params → Obj := fun P => ⟨(.type "tuple"), none, (.seq #[(.str "message" 406)] 0), #[]⟩
noncomputable abbrev qo_227 : Params → Obj := fun P => ⟨(.type "super"), none, (.fields #[(.ref 182), (.ref 182), (.ref 182)]), #[]⟩
noncomputable abbrev qo_241 : Params → Obj := fun P => ⟨(.type "tuple"), none, (.seq #[(.str "self" 451), (.str "kind" 452), (.str "name" 453), (.str "uri" 454), (.str "local" 455), (.str "value" 456), (.str "parent" 457)] 0), #[]⟩
noncomputable abbrev qo_204 : Params → Obj := fun P => ⟨(.type "tuple"), none, (.seq #[] 0), #[]⟩
noncomputable abbrev qo_223 : Params → Obj := fun P => ⟨(.type "frame"), none, .plain, #[(some (.ref 178)), (some (.ref 3)), (some (.ref 175)), none, (some (.str "markupmill.errors" 384)), none, (some (.ref 0))]⟩
noncomputable abbrev qo_249 : Params → Obj := fun P => ⟨(.type "getset_descriptor"), none, (.fields #[(.str "__dict__" 471), (.ref 202), (.builtin "function.__dict__"), (.builtin "function.__dict__#set")]), #[]⟩
noncomputable abbrev qo_212 : Params → Obj := fun P => ⟨(.type "super"), none, (.fields #[(.ref 169), (.ref 169), (.ref 169)]), #[]⟩
noncomputable abbrev qo_196 : Params → Obj := fun P => ⟨(.type "dict"), none, (.dict #[⟨(PySem.PyData.keyHash P "__module__"), (.str "__module__" 393), (.str "markupmill.errors" 384)⟩, ⟨(PySem.PyData.keyHash P "__qualname__"), (.str "__qualname__" 395), (.str "MarkupError" 394)⟩, ⟨(PySem.PyData.keyHash P "__firstlineno__"), (.str "__firstlineno__" 397), (.int 133 396)⟩, ⟨(PySem.PyData.keyHash P "__init__"), (.str "__init__" 405), (.ref 166)⟩, ⟨(PySem.PyData.keyHash P "__static_attributes__"), (.str "__static_attributes__" 407), (.ref 167)⟩] 5), #[]⟩
noncomputable abbrev qo_233 : Params → Obj := fun P => ⟨(.type "builtin_function_or_method"), none, (.fields #[(.builtin "type.__prepare__"), (.type "type")]), #[]⟩
noncomputable abbrev qo_239 : Params → Obj := fun P => ⟨(.type "tuple"), none, (.seq #[] 0), #[]⟩
noncomputable abbrev qo_202 : Params → Obj := fun P => ⟨.none, none, (.fields #[]), #[]⟩
noncomputable abbrev qo_221 : Params → Obj := fun P => ⟨.none, none, (.fields #[]), #[]⟩
noncomputable abbrev qo_247 : Params → Obj := fun P => ⟨(.type "dict"), none, (.dict #[⟨(PySem.PyData.keyHash P "__module__"), (.str "__module__" 443), (.str "markupmill.tree" 431)⟩, ⟨(PySem.PyData.keyHash P "__firstlineno__"), (.str "__firstlineno__" 447), (.int 142 446)⟩, ⟨(PySem.PyData.keyHash P "__init__"), (.str "__init__" 460), (.ref 199)⟩, ⟨(PySem.PyData.keyHash P "__static_attributes__"), (.str "__static_attributes__" 470), (.ref 200)⟩, ⟨(PySem.PyData.keyHash P "__dict__"), (.str "__dict__" 472), (.ref 203)⟩, ⟨(PySem.PyData.keyHash P "__weakref__"), (.str "__weakref__" 474), (.ref 204)⟩, ⟨(PySem.PyData.keyHash P "__doc__"), (.str "__doc__" 475), .none⟩] 4), #[]⟩
noncomputable abbrev qo_216 : Params → Obj := fun P => ⟨(.type "type"), none, (.cls ⟨"MarkupError", [(.type "Exception")], [(.ref 169), (.type "Exception"), (.type "BaseException"), (.type "object")], 168, "MarkupError", true, [], [(.ref 182)], false, none, false⟩), #[(some (.ref 153)), none, (some (.str "MarkupError" 386)), (some (.str "MarkupError" 394)), (some (.builtin "Exception.__new__")), (some (.bool true))]⟩
noncomputable abbrev qo_194 : Params → Obj := fun P => ⟨(.type "tuple"), none, (.seq #[(.type "Exception")] 0), #[]⟩
noncomputable abbrev qo_229 : Params → Obj := fun P => ⟨(.type "tuple"), none, (.seq #[(.str "root" 433), (.str "element" 434)] 0), #[]⟩
noncomputable abbrev qo_243 : Params → Obj := fun _ => mtO 34 0 rfl rfl .none "__init__" "NodeRow.__init__" 0 [] .none .none .none .none none .none .none 0
noncomputable abbrev qo_206 : Params → Obj := fun P => ⟨(.type "code"), none, (.fields #[(.str "__init__" 398), (.str "MarkupError.__init__" 399), (.str "/claim/cut.py" 400), (.int 135 0), (.int 2 0), (.int 0 0), (.int 0 0), (.int 3 0), (.ref 160), (.bool true), (.int 181 0), (.ref 161), .none, (.ref 162), (.ref 163), (.ref 164), (.int 403 0), (.int 135 0), (.str "/claim/cut.py" 404)]), #[]⟩
noncomputable abbrev qo_225 : Params → Obj := fun P => ⟨(.type "dict"), none, (.dict #[⟨(PySem.PyData.keyHash P "__module__"), (.str "__module__" 422), (.str "markupmill.errors" 384)⟩, ⟨(PySem.PyData.keyHash P "__firstlineno__"), (.str "__firstlineno__" 426), (.int 138 425)⟩, ⟨(PySem.PyData.keyHash P "__static_attributes__"), (.str "__static_attributes__" 427), (.ref 180)⟩, ⟨(PySem.PyData.keyHash P "__doc__"), (.str "__doc__" 428), .none⟩] 2), #[]⟩
noncomputable abbrev qo_251 : Params → Obj := fun P => ⟨(.type "super"), none, (.fields #[(.ref 202), (.ref 202), (.ref 202)]), #[]⟩
noncomputable abbrev qo_217 : Params → Obj := fun P => ⟨(.type "tuple"), none, (.seq #[(.ref 169)] 0), #[]⟩
noncomputable abbrev qo_198 : Params → Obj := fun P => ⟨.none, none, (.fields #[(.int 135 0), (.int 4 0), (.ref 165)]), #[]⟩
noncomputable abbrev qo_235 : Params → Obj := fun P => ⟨(.type "tuple"), none, (.seq #[] 0), #[]⟩
noncomputable abbrev qo_191 : Params → Obj := fun P => ⟨.none, none, (.dict #[⟨(PySem.PyData.keyHash P "type.__subclasses__.Exception.0"), (.str "type.__subclasses__.Exception.0" 411), (.int 169 0)⟩, ⟨(PySem.PyData.keyHash P "type.__subclasses__.Exception.n"), (.str "type.__subclasses__.Exception.n" 412), (.int 1 0)⟩] 2), #[]⟩
noncomputable abbrev qo_238 : Params → Obj := fun P => ⟨(.type "frame"), none, .plain, #[(some (.ref 191)), (some (.ref 3)), (some (.ref 188)), none, (some (.str "markupmill.tree" 431)), none, (some (.ref 0))]⟩
noncomputable abbrev qo_201 : Params → Obj := fun P => ⟨(.type "tuple"), none, (.seq #[] 0), #[]⟩
noncomputable abbrev qo_220 : Params → Obj := fun P => ⟨(.type "tuple"), none, (.seq #[] 0), #[]⟩
noncomputable abbrev qo_246 : Params → Obj := fun P => ⟨(.type "tuple"), none, (.seq #[(.str "attributes" 461), (.str "children" 462), (.str "kind" 463), (.str "local" 464), (.str "name" 465), (.str "namespaces" 466), (.str "parent" 467), (.str "uri" 468), (.str "value" 469)] 0), #[]⟩
noncomputable abbrev qo_209 : Params → Obj := fun P => ⟨(.type "dict"), none, (.dict #[⟨(PySem.PyData.keyHash P "__module__"), (.str "__module__" 393), (.str "markupmill.errors" 384)⟩, ⟨(PySem.PyData.keyHash P "__firstlineno__"), (.str "__firstlineno__" 397), (.int 133 396)⟩, ⟨(PySem.PyData.keyHash P "__init__"), (.str "__init__" 405), (.ref 166)⟩, ⟨(PySem.PyData.keyHash P "__static_attributes__"), (.str "__static_attributes__" 407), (.ref 167)⟩, ⟨(PySem.PyData.keyHash P "__weakref__"), (.str "__weakref__" 409), (.ref 170)⟩, ⟨(PySem.PyData.keyHash P "__doc__"), (.str "__doc__" 410), .none⟩] 3), #[]⟩
noncomputable abbrev qo_228 : Params → Obj := fun P => ⟨(.type "builtin_function_or_method"), none, (.fields #[(.builtin "object.__init_subclass__"), (.ref 182)]), #[]⟩
noncomputable abbrev qo_231 : Params → Obj := fun P => ⟨.none, none, (.fields #[(.int 1 0), (.int 0 0), (.ref 20), (.int 11 0), (.int 0 0), (.ref 29), (.int 16 0), (.int 0 0), (.ref 36), (.int 22 0), (.int 0 0), (.ref 44), (.int 32 0), (.int 0 0), (.ref 51), (.int 34 0), (.int 0 0), (.ref 58), (.int 36 0), (.int 0 0), (.ref 65), (.int 40 0), (.int 0 0), (.ref 72), (.int 47 0), (.int 0 0), (.ref 79), (.int 52 0), (.int 0 0), (.ref 86), (.int 65 0), (.int 0 0), (.ref 93), (.int 74 0), (.int 0 0), (.ref 101), (.int 91 0), (.int 0 0), (.ref 108), (.int 99 0), (.int 0 0), (.ref 113), (.int 104 0), (.int 0 0), (.ref 120), (.int 112 0), (.int 0 0), (.ref 127), (.int 118 0), (.int 0 0), (.ref 134), (.int 120 0), (.int 0 0), (.ref 139), (.int 124 0), (.int 0 0), (.ref 144), (.int 126 0), (.int 0 0), (.ref 151), (.int 133 0), (.int 0 0), (.ref 158), (.int 138 0), (.int 0 0), (.ref 178), (.int 142 0), (.int 0 0), (.ref 191)]), #[]⟩
noncomputable abbrev qo_242 : Params → Obj := fun P => ⟨(.type "tuple"), none, (.seq #[] 0), #[]⟩
noncomputable abbrev qo_205 : Params → Obj := fun _ => mtO 30 0 rfl rfl .none "__init__" "MarkupError.__init__" 0 [] .none .none .none .none none .none .none 0
noncomputable abbrev qo_224 : Params → Obj := fun P => ⟨(.type "tuple"), none, (.seq #[] 0), #[]⟩
noncomputable abbrev qo_250 : Params → Obj := fun P => ⟨(.type "getset_descriptor"), none, (.fields #[(.str "__weakref__" 473), (.ref 202), (.builtin "ExceptionGroup.__weakref__"), .none]), #[]⟩
noncomputable abbrev qo_213 : Params → Obj := fun P => ⟨(.type "builtin_function_or_method"), none, (.fields #[(.builtin "object.__init_subclass__"), (.ref 169)]), #[]⟩
noncomputable abbrev qo_197 : Params → Obj := fun P => ⟨(.type "tuple"), none, (.seq #[] 0), #[]⟩
noncomputable abbrev qo_234 : Params → Obj := fun P => ⟨(.type "dict"), none, (.dict #[⟨(PySem.PyData.keyHash P "__module__"), (.str "__module__" 443), (.str "markupmill.tree" 431)⟩, ⟨(PySem.PyData.keyHash P "__qualname__"), (.str "__qualname__" 445), (.str "NodeRow" 444)⟩, ⟨(PySem.PyData.keyHash P "__firstlineno__"), (.str "__firstlineno__" 447), (.int 142 446)⟩, ⟨(PySem.PyData.keyHash P "__init__"), (.str "__init__" 460), (.ref 199)⟩, ⟨(PySem.PyData.keyHash P "__static_attributes__"), (.str "__static_attributes__" 470), (.ref 200)⟩] 5), #[]⟩
noncomputable abbrev qo_240 : Params → Obj := fun P => ⟨.none, none, (.fields #[]), #[]⟩
noncomputable abbrev qo_203 : Params → Obj := fun P => ⟨(.type "tuple"), none, (.seq #[(.str "self" 401), (.str "message" 402)] 0), #[]⟩
noncomputable abbrev qo_222 : Params → Obj := fun P => ⟨(.type "code"), none, (.fields #[(.str "TreeFault" 417), (.str "TreeFault" 418), (.str "/claim/cut.py" 419), (.int 138 0), (.int 0 0), (.int 0 0), (.int 0 0), (.int 0 0), (.ref 176), (.bool false), (.int 181 0), (.ref 177), .none, .none, .none, .none, (.int 420 0), (.int 138 0), (.str "/claim/cut.py" 421)]), #[]⟩
noncomputable abbrev qo_248 : Params → Obj := fun P => ⟨(.type "type"), none, (.cls ⟨"NodeRow", [(.type "object")], [(.ref 202), (.type "object")], 201, "NodeRow", true, [], [], false, none, false⟩), #[none, none, (some (.str "NodeRow" 436)), (some (.str "NodeRow" 444)), (some (.builtin "object.__new__")), (some (.bool true))]⟩
noncomputable abbrev qo_211 : Params → Obj := fun P => ⟨(.type "getset_descriptor"), none, (.fields #[(.str "__weakref__" 408), (.ref 169), (.builtin "ExceptionGroup.__weakref__"), .none]), #[]⟩
noncomputable abbrev qo_195 : Params → Obj := fun P => ⟨(.type "builtin_function_or_method"), none, (.fields #[(.builtin "type.__prepare__"), (.type "type")]), #[]⟩
noncomputable abbrev qo_232 : Params → Obj := fun P => ⟨(.type "tuple"), none, (.seq #[] 0), #[]⟩
noncomputable abbrev qo_244 : Params → Obj := fun P => ⟨(.type "code"), none, (.fields #[(.str "__init__" 448), (.str "NodeRow.__init__" 449), (.str "/claim/cut.py" 450), (.int 144 0), (.int 7 0), (.int 0 0), (.int 0 0), (.int 3 0), (.ref 193), (.bool true), (.int 181 0), (.ref 194), .none, (.ref 195), (.ref 196), (.ref 197), (.int 458 0), (.int 144 0), (.str "/claim/cut.py" 459)]), #[]⟩
noncomputable abbrev qo_207 : Params → Obj := fun _ => mtO 30 0 rfl rfl (.type "function") "__init__" "MarkupError.__init__" 3 [] .none .none .none (.str "markupmill.errors" 384) none (.ref 165) .none 0
noncomputable abbrev qo_226 : Params → Obj := fun P => ⟨(.type "type"), none, (.cls ⟨"TreeFault", [(.ref 169)], [(.ref 182), (.ref 169), (.type "Exception"), (.type "BaseException"), (.type "object")], 181, "TreeFault", true, [], [], false, none, false⟩), #[(some (.ref 173)), none, (some (.str "TreeFault" 415)), (some (.str "TreeFault" 423)), (some (.builtin "Exception.__new__")), (some (.bool true))]⟩
noncomputable abbrev qo_252 : Params → Obj := fun P => ⟨(.type "builtin_function_or_method"), none, (.fields #[(.builtin "object.__init_subclass__"), (.ref 202)]), #[]⟩
noncomputable abbrev qo_218 : Params → Obj := fun P => ⟨(.type "builtin_function_or_method"), none, (.fields #[(.builtin "type.__prepare__"), (.type "type")]), #[]⟩
noncomputable abbrev qo_199 : Params → Obj := fun P => ⟨(.type "code"), none, (.fields #[(.str "MarkupError" 388), (.str "MarkupError" 389), (.str "/claim/cut.py" 390), (.int 133 0), (.int 0 0), (.int 0 0), (.int 0 0), (.int 0 0), (.ref 156), (.bool false), (.int 181 0), (.ref 157), .none, .none, .none, .none, (.int 391 0), (.int 133 0), (.str "/claim/cut.py" 392)]), #[]⟩
noncomputable abbrev qo_236 : Params → Obj := fun P => ⟨.none, none, (.fields #[(.int 144 0), (.int 4 0), (.ref 198)]), #[]⟩
noncomputable abbrev qo_253 : Params → Obj := fun P => ⟨(.type "dict"), none, (.dict #[⟨(PySem.PyData.keyHash P "__name__"), (.str "__name__" 165), (.str "markupmill.tree" 431)⟩, ⟨(PySem.PyData.keyHash P "__doc__"), (.str "__doc__" 166), .none⟩, ⟨(PySem.PyData.keyHash P "__package__"), (.str "__package__" 167), .none⟩, ⟨(PySem.PyData.keyHash P "__loader__"), (.str "__loader__" 168), (.builtin "__main__.__loader__#opaque")⟩, ⟨(PySem.PyData.keyHash P "__spec__"), (.str "__spec__" 169), .none⟩, ⟨(PySem.PyData.keyHash P "__annotations__"), (.str "__annotations__" 170), (.ref 6)⟩, ⟨(PySem.PyData.keyHash P "__builtins__"), (.str "__builtins__" 171), (.ref 4)⟩, ⟨(PySem.PyData.keyHash P "__file__"), (.str "__file__" 173), (.str "/claim/cut.py" 172)⟩, ⟨(PySem.PyData.keyHash P "__cached__"), (.str "__cached__" 174), .none⟩, ⟨(PySem.PyData.keyHash P "_wall"), (.str "_wall" 193), (.ref 21)⟩, ⟨(PySem.PyData.keyHash P "NAN"), (.str "NAN" 198), (.ref 22)⟩, ⟨(PySem.PyData.keyHash P "INFINITY"), (.str "INFINITY" 201), (.ref 23)⟩, ⟨(PySem.PyData.keyHash P "SPACES"), (.str "SPACES" 203), (.str " \t\n\r" 202)⟩, ⟨(PySem.PyData.keyHash P "DIGITS"), (.str "DIGITS" 205), (.str "0123456789" 204)⟩, ⟨(PySem.PyData.keyHash P "MOST_FIGURES"), (.str "MOST_FIGURES" 207), (.int 400 206)⟩, ⟨(PySem.PyData.keyHash P "MOST"), (.str "MOST" 210), (.int 10000000000000000000000000000000000000000000000000000000000000000000000000000000000000000000000000000000000000000000000000000000000000000000000000000000000000000000000000000000000000000000000000000000000000000000000000000000000000000000000000000000000000000000000000000000000000000000000000000000000000000000000000000000000000000000000000000000000000000000000000000000000000000000000000000000000000000 209)⟩, ⟨(PySem.PyData.keyHash P "common_divisor"), (.str "common_divisor" 220), (.ref 30)⟩, ⟨(PySem.PyData.keyHash P "sign_of"), (.str "sign_of" 227), (.ref 37)⟩, ⟨(PySem.PyData.keyHash P "number_of"), (.str "number_of" 237), (.ref 45)⟩, ⟨(PySem.PyData.keyHash P "is_nan"), (.str "is_nan" 244), (.ref 52)⟩, ⟨(PySem.PyData.keyHash P "negated"), (.str "negated" 251), (.ref 59)⟩, ⟨(PySem.PyData.keyHash P "digits_end"), (.str "digits_end" 259), (.ref 66)⟩, ⟨(PySem.PyData.keyHash P "trimmed"), (.str "trimmed" 268), (.ref 73)⟩, ⟨(PySem.PyData.keyHash P "whole_of"), (.str "whole_of" 277), (.ref 80)⟩, ⟨(PySem.PyData.keyHash P "read_number"), (.str "read_number" 291), (.ref 87)⟩, ⟨(PySem.PyData.keyHash P "number_of_digits"), (.str "number_of_digits" 302), (.ref 94)⟩, ⟨(PySem.PyData.keyHash P "write_number"), (.str "write_number" 317), (.ref 102)⟩, ⟨(PySem.PyData.keyHash P "beneath"), (.str "beneath" 330), (.ref 109)⟩, ⟨(PySem.PyData.keyHash P "string_value"), (.str "string_value" 336), (.ref 114)⟩, ⟨(PySem.PyData.keyHash P "as_text"), (.str "as_text" 346), (.ref 121)⟩, ⟨(PySem.PyData.keyHash P "as_number"), (.str "as_number" 354), (.ref 128)⟩, ⟨(PySem.PyData.keyHash P "is_equality"), (.str "is_equality" 361), (.ref 135)⟩, ⟨(PySem.PyData.keyHash P "as_compared"), (.str "as_compared" 367), (.ref 140)⟩, ⟨(PySem.PyData.keyHash P "texts_of"), (.str "texts_of" 373), (.ref 145)⟩, ⟨(PySem.PyData.keyHash P "listed"), (.str "listed" 383), (.ref 152)⟩, ⟨(PySem.PyData.keyHash P "MarkupError"), (.str "MarkupError" 414), (.ref 169)⟩, ⟨(PySem.PyData.keyHash P "TreeFault"), (.str "TreeFault" 430), (.ref 182)⟩, ⟨(PySem.PyData.keyHash P "PARENTS"), (.str "PARENTS" 435), (.ref 185)⟩, ⟨(PySem.PyData.keyHash P "NodeRow"), (.str "NodeRow" 477), (.ref 202)⟩, ⟨(PySem.PyData.keyHash P "Tree"), (.str "Tree" 728), (.ref 391)⟩] 40), #[]⟩
noncomputable abbrev qo_303 : Params → Obj := fun _ => mtO 35 5 rfl rfl (.type "function") "add_element" "Tree.add_element" 3 [] .none .none .none (.str "markupmill.tree" 431) none (.ref 254) .none 0
noncomputable abbrev qo_431 : Params → Obj := fun P => ⟨.none, none, (.fields #[]), #[]⟩
noncomputable abbrev qo_367 : Params → Obj := fun P => ⟨(.type "tuple"), none, (.seq #[] 0), #[]⟩
noncomputable abbrev qo_335 : Params → Obj := fun P => ⟨(.type "tuple"), none, (.seq #[] 0), #[]⟩
noncomputable abbrev qo_271 : Params → Obj := fun P => ⟨(.type "tuple"), none, (.seq #[(.str "self" 500), (.str "kind" 501), (.str "name" 502), (.str "uri" 503), (.str "local" 504), (.str "value" 505), (.str "parent" 506)] 0), #[]⟩
noncomputable abbrev qo_399 : Params → Obj := fun _ => mtO 35 19 rfl rfl .none "children" "Tree.children" 0 [] .none .none .none .none none .none .none 0
noncomputable abbrev qo_319 : Params → Obj := fun P => ⟨.none, none, (.fields #[]), #[]⟩
noncomputable abbrev qo_255 : Params → Obj := fun P => ⟨(.type "tuple"), none, (.seq #[] 0), #[]⟩
noncomputable abbrev qo_383 : Params → Obj := fun P => ⟨(.type "tuple"), none, (.seq #[(.str "self" 656), (.str "node" 657)] 0), #[]⟩
noncomputable abbrev qo_351 : Params → Obj := fun P => ⟨(.type "code"), none, (.fields #[(.str "set_value" 612), (.str "Tree.set_value" 613), (.str "/claim/cut.py" 614), (.int 212 0), (.int 3 0), (.int 0 0), (.int 0 0), (.int 3 0), (.ref 298), (.bool true), (.int 181 0), (.ref 299), .none, (.ref 300), (.ref 301), (.ref 302), (.int 618 0), (.int 212 0), (.str "/claim/cut.py" 619)]), #[]⟩
noncomputable abbrev qo_287 : Params → Obj := fun _ => mtO 35 3 rfl rfl .none "new_root" "Tree.new_root" 0 [] .none .none .none .none none .none .none 0
noncomputable abbrev qo_415 : Params → Obj := fun _ => mtO 35 21 rfl rfl (.type "function") "namespaces" "Tree.namespaces" 3 [] .none .none .none (.str "markupmill.tree" 431) none (.ref 366) .none 0
noncomputable abbrev qo_311 : Params → Obj := fun P => ⟨(.type "tuple"), none, (.seq #[] 0), #[]⟩
noncomputable abbrev qo_439 : Params → Obj := fun P => ⟨(.type "type"), none, (.cls ⟨"Tree", [(.type "object")], [(.ref 391), (.type "object")], 390, "Tree", true, [], [], false, none, false⟩), #[none, none, (some (.str "Tree" 478)), (some (.str "Tree" 486)), (some (.builtin "object.__new__")), (some (.bool true))]⟩
noncomputable abbrev qo_375 : Params → Obj := fun P => ⟨.none, none, (.fields #[]), #[]⟩
noncomputable abbrev qo_343 : Params → Obj := fun _ => mtO 35 11 rfl rfl .none "add_namespace" "Tree.add_namespace" 0 [] .none .none .none .none none .none .none 0
noncomputable abbrev qo_279 : Params → Obj := fun P => ⟨(.type "tuple"), none, (.seq #[] 0), #[]⟩
noncomputable abbrev qo_407 : Params → Obj := fun P => ⟨(.type "code"), none, (.fields #[(.str "attributes" 677), (.str "Tree.attributes" 678), (.str "/claim/cut.py" 679), (.int 236 0), (.int 2 0), (.int 0 0), (.int 0 0), (.int 3 0), (.ref 354), (.bool true), (.int 181 0), (.ref 355), .none, (.ref 356), (.ref 357), (.ref 358), (.int 682 0), (.int 236 0), (.str "/claim/cut.py" 683)]), #[]⟩
noncomputable abbrev qo_327 : Params → Obj := fun P => ⟨(.type "tuple"), none, (.seq #[(.str "self" 581), (.str "element" 582), (.str "row" 583)] 0), #[]⟩
noncomputable abbrev qo_263 : Params → Obj := fun P => ⟨.none, none, (.fields #[]), #[]⟩
noncomputable abbrev qo_391 : Params → Obj := fun P => ⟨(.type "tuple"), none, (.seq #[] 0), #[]⟩
noncomputable abbrev qo_359 : Params → Obj := fun _ => mtO 35 13 rfl rfl (.type "function") "kind" "Tree.kind" 3 [] .none .none .none (.str "markupmill.tree" 431) none (.ref 310) .none 0
noncomputable abbrev qo_295 : Params → Obj := fun P => ⟨(.type "code"), none, (.fields #[(.str "add_child" 525), (.str "Tree.add_child" 526), (.str "/claim/cut.py" 527), (.int 171 0), (.int 7 0), (.int 0 0), (.int 0 0), (.int 3 0), (.ref 242), (.bool true), (.int 181 0), (.ref 243), .none, (.ref 244), (.ref 245), (.ref 246), (.int 536 0), (.int 171 0), (.str "/claim/cut.py" 537)]), #[]⟩
noncomputable abbrev qo_423 : Params → Obj := fun P => ⟨(.type "tuple"), none, (.seq #[] 0), #[]⟩
noncomputable abbrev qo_307 : Params → Obj := fun P => ⟨(.type "tuple"), none, (.seq #[] 0), #[]⟩
noncomputable abbrev qo_435 : Params → Obj := fun P => ⟨(.type "code"), none, (.fields #[(.str "attribute_value" 710), (.str "Tree.attribute_value" 711), (.str "/claim/cut.py" 712), (.int 248 0), (.int 4 0), (.int 0 0), (.int 0 0), (.int 3 0), (.ref 382), (.bool true), (.int 181 0), (.ref 383), .none, (.ref 384), (.ref 385), (.ref 386), (.int 717 0), (.int 248 0), (.str "/claim/cut.py" 718)]), #[]⟩
noncomputable abbrev qo_371 : Params → Obj := fun _ => mtO 35 15 rfl rfl .none "uri" "Tree.uri" 0 [] .none .none .none .none none .none .none 0
noncomputable abbrev qo_339 : Params → Obj := fun P => ⟨(.type "tuple"), none, (.seq #[] 0), #[]⟩
noncomputable abbrev qo_275 : Params → Obj := fun _ => mtO 35 1 rfl rfl (.type "function") "new_row" "Tree.new_row" 3 [] .none .none .none (.str "markupmill.tree" 431) none (.ref 226) .none 0
noncomputable abbrev qo_403 : Params → Obj := fun P => ⟨.none, none, (.fields #[]), #[]⟩
noncomputable abbrev qo_323 : Params → Obj := fun P => ⟨(.type "code"), none, (.fields #[(.str "add_instruction" 568), (.str "Tree.add_instruction" 569), (.str "/claim/cut.py" 570), (.int 188 0), (.int 4 0), (.int 0 0), (.int 0 0), (.int 3 0), (.ref 270), (.bool true), (.int 181 0), (.ref 271), .none, (.ref 272), (.ref 273), (.ref 274), (.int 575 0), (.int 188 0), (.str "/claim/cut.py" 576)]), #[]⟩
noncomputable abbrev qo_259 : Params → Obj := fun P => ⟨.none, none, (.fields #[(.int 156 0), (.int 4 0), (.ref 219), (.int 159 0), (.int 4 0), (.ref 226), (.int 163 0), (.int 4 0), (.ref 233), (.int 168 0), (.int 4 0), (.ref 240), (.int 171 0), (.int 4 0), (.ref 247), (.int 179 0), (.int 4 0), (.ref 254), (.int 182 0), (.int 4 0), (.ref 261), (.int 185 0), (.int 4 0), (.ref 268), (.int 188 0), (.int 4 0), (.ref 275), (.int 191 0), (.int 4 0), (.ref 282), (.int 197 0), (.int 4 0), (.ref 289), (.int 209 0), (.int 4 0), (.ref 296), (.int 212 0), (.int 4 0), (.ref 303), (.int 215 0), (.int 4 0), (.ref 310), (.int 218 0), (.int 4 0), (.ref 317), (.int 221 0), (.int 4 0), (.ref 324), (.int 224 0), (.int 4 0), (.ref 331), (.int 227 0), (.int 4 0), (.ref 338), (.int 230 0), (.int 4 0), (.ref 345), (.int 233 0), (.int 4 0), (.ref 352), (.int 236 0), (.int 4 0), (.ref 359), (.int 239 0), (.int 4 0), (.ref 366), (.int 242 0), (.int 4 0), (.ref 373), (.int 245 0), (.int 4 0), (.ref 380), (.int 248 0), (.int 4 0), (.ref 387)]), #[]⟩
noncomputable abbrev qo_387 : Params → Obj := fun _ => mtO 35 17 rfl rfl (.type "function") "value" "Tree.value" 3 [] .none .none .none (.str "markupmill.tree" 431) none (.ref 338) .none 0
noncomputable abbrev qo_355 : Params → Obj := fun P => ⟨(.type "tuple"), none, (.seq #[(.str "self" 624), (.str "node" 625)] 0), #[]⟩
noncomputable abbrev qo_291 : Params → Obj := fun P => ⟨.none, none, (.fields #[]), #[]⟩
noncomputable abbrev qo_419 : Params → Obj := fun P => ⟨(.type "tuple"), none, (.seq #[] 0), #[]⟩
noncomputable abbrev qo_315 : Params → Obj := fun _ => mtO 35 7 rfl rfl .none "add_comment" "Tree.add_comment" 0 [] .none .none .none .none none .none .none 0
noncomputable abbrev qo_443 : Params → Obj := fun P => ⟨(.type "builtin_function_or_method"), none, (.fields #[(.builtin "object.__init_subclass__"), (.ref 391)]), #[]⟩
noncomputable abbrev qo_379 : Params → Obj := fun P => ⟨(.type "code"), none, (.fields #[(.str "local" 645), (.str "Tree.local" 646), (.str "/claim/cut.py" 647), (.int 224 0), (.int 2 0), (.int 0 0), (.int 0 0), (.int 3 0), (.ref 326), (.bool true), (.int 181 0), (.ref 327), .none, (.ref 328), (.ref 329), (.ref 330), (.int 650 0), (.int 224 0), (.str "/claim/cut.py" 651)]), #[]⟩
noncomputable abbrev qo_347 : Params → Obj := fun P => ⟨.none, none, (.fields #[]), #[]⟩
noncomputable abbrev qo_283 : Params → Obj := fun P => ⟨(.type "tuple"), none, (.seq #[] 0), #[]⟩
noncomputable abbrev qo_411 : Params → Obj := fun P => ⟨(.type "tuple"), none, (.seq #[(.str "self" 688), (.str "node" 689)] 0), #[]⟩
noncomputable abbrev qo_331 : Params → Obj := fun _ => mtO 35 9 rfl rfl (.type "function") "element_row" "Tree.element_row" 3 [] .none .none .none (.str "markupmill.tree" 431) none (.ref 282) .none 0
noncomputable abbrev qo_267 : Params → Obj := fun P => ⟨(.type "code"), none, (.fields #[(.str "__init__" 490), (.str "Tree.__init__" 491), (.str "/claim/cut.py" 492), (.int 156 0), (.int 1 0), (.int 0 0), (.int 0 0), (.int 3 0), (.ref 214), (.bool true), (.int 181 0), (.ref 215), .none, (.ref 216), (.ref 217), (.ref 218), (.int 494 0), (.int 156 0), (.str "/claim/cut.py" 495)]), #[]⟩
noncomputable abbrev qo_395 : Params → Obj := fun P => ⟨(.type "tuple"), none, (.seq #[] 0), #[]⟩
noncomputable abbrev qo_363 : Params → Obj := fun P => ⟨(.type "tuple"), none, (.seq #[] 0), #[]⟩
noncomputable abbrev qo_299 : Params → Obj := fun P => ⟨(.type "tuple"), none, (.seq #[(.str "self" 542), (.str "parent" 543), (.str "name" 544), (.str "uri" 545), (.str "local" 546)] 0), #[]⟩
noncomputable abbrev qo_427 : Params → Obj := fun _ => mtO 35 23 rfl rfl .none "is_above" "Tree.is_above" 0 [] .none .none .none .none none .none .none 0
noncomputable abbrev qo_305 : Params → Obj := fun P => ⟨.none, none, (.fields #[]), #[]⟩
noncomputable abbrev qo_433 : Params → Obj := fun P => ⟨(.type "tuple"), none, (.seq #[] 0), #[]⟩
noncomputable abbrev qo_369 : Params → Obj := fun P => ⟨(.type "tuple"), none, (.seq #[(.str "self" 640), (.str "node" 641)] 0), #[]⟩
noncomputable abbrev qo_337 : Params → Obj := fun P => ⟨(.type "code"), none, (.fields #[(.str "set_attribute" 587), (.str "Tree.set_attribute" 588), (.str "/claim/cut.py" 589), (.int 197 0), (.int 6 0), (.int 0 0), (.int 0 0), (.int 3 0), (.ref 284), (.bool true), (.int 181 0), (.ref 285), .none, (.ref 286), (.ref 287), (.ref 288), (.int 599 0), (.int 197 0), (.str "/claim/cut.py" 600)]), #[]⟩
noncomputable abbrev qo_273 : Params → Obj := fun _ => mtO 35 1 rfl rfl .none "new_row" "Tree.new_row" 0 [] .none .none .none .none none .none .none 0
noncomputable abbrev qo_401 : Params → Obj := fun _ => mtO 35 19 rfl rfl (.type "function") "children" "Tree.children" 3 [] .none .none .none (.str "markupmill.tree" 431) none (.ref 352) .none 0
noncomputable abbrev qo_321 : Params → Obj := fun P => ⟨(.type "tuple"), none, (.seq #[] 0), #[]⟩
noncomputable abbrev qo_257 : Params → Obj := fun P => ⟨(.type "dict"), none, (.dict #[⟨(PySem.PyData.keyHash P "__module__"), (.str "__module__" 485), (.str "markupmill.tree" 431)⟩, ⟨(PySem.PyData.keyHash P "__qualname__"), (.str "__qualname__" 487), (.str "Tree" 486)⟩, ⟨(PySem.PyData.keyHash P "__firstlineno__"), (.str "__firstlineno__" 489), (.int 154 488)⟩, ⟨(PySem.PyData.keyHash P "__init__"), (.str "__init__" 496), (.ref 220)⟩, ⟨(PySem.PyData.keyHash P "new_row"), (.str "new_row" 509), (.ref 227)⟩, ⟨(PySem.PyData.keyHash P "row"), (.str "row" 517), (.ref 234)⟩, ⟨(PySem.PyData.keyHash P "new_root"), (.str "new_root" 524), (.ref 241)⟩, ⟨(PySem.PyData.keyHash P "add_child"), (.str "add_child" 538), (.ref 248)⟩, ⟨(PySem.PyData.keyHash P "add_element"), (.str "add_element" 549), (.ref 255)⟩, ⟨(PySem.PyData.keyHash P "add_text"), (.str "add_text" 558), (.ref 262)⟩, ⟨(PySem.PyData.keyHash P "add_comment"), (.str "add_comment" 567), (.ref 269)⟩, ⟨(PySem.PyData.keyHash P "add_instruction"), (.str "add_instruction" 577), (.ref 276)⟩, ⟨(PySem.PyData.keyHash P "element_row"), (.str "element_row" 586), (.ref 283)⟩, ⟨(PySem.PyData.keyHash P "set_attribute"), (.str "set_attribute" 601), (.ref 290)⟩, ⟨(PySem.PyData.keyHash P "add_namespace"), (.str "add_namespace" 611), (.ref 297)⟩, ⟨(PySem.PyData.keyHash P "set_value"), (.str "set_value" 620), (.ref 304)⟩, ⟨(PySem.PyData.keyHash P "kind"), (.str "kind" 628), (.ref 311)⟩, ⟨(PySem.PyData.keyHash P "name"), (.str "name" 636), (.ref 318)⟩, ⟨(PySem.PyData.keyHash P "uri"), (.str "uri" 644), (.ref 325)⟩, ⟨(PySem.PyData.keyHash P "local"), (.str "local" 652), (.ref 332)⟩, ⟨(PySem.PyData.keyHash P "value"), (.str "value" 660), (.ref 339)⟩, ⟨(PySem.PyData.keyHash P "parent"), (.str "parent" 668), (.ref 346)⟩, ⟨(PySem.PyData.keyHash P "children"), (.str "children" 676), (.ref 353)⟩, ⟨(PySem.PyData.keyHash P "attributes"), (.str "attributes" 684), (.ref 360)⟩, ⟨(PySem.PyData.keyHash P "namespaces"), (.str "namespaces" 692), (.ref 367)⟩, ⟨(PySem.PyData.keyHash P "root_of"), (.str "root_of" 700), (.ref 374)⟩, ⟨(PySem.PyData.keyHash P "is_above"), (.str "is_above" 709), (.ref 381)⟩, ⟨(PySem.PyData.keyHash P "attribute_value"), (.str "attribute_value" 719), (.ref 388)⟩, ⟨(PySem.PyData.keyHash P "__static_attributes__"), (.str "__static_attributes__" 721), (.ref 389)⟩] 29), #[]⟩
noncomputable abbrev qo_385 : Params → Obj := fun _ => mtO 35 17 rfl rfl .none "value" "Tree.value" 0 [] .none .none .none .none none .none .none 0
noncomputable abbrev qo_353 : Params → Obj := fun P => ⟨(.type "tuple"), none, (.seq #[] 0), #[]⟩
noncomputable abbrev qo_289 : Params → Obj := fun _ => mtO 35 3 rfl rfl (.type "function") "new_root" "Tree.new_root" 3 [] .none .none .none (.str "markupmill.tree" 431) none (.ref 240) .none 0
noncomputable abbrev qo_417 : Params → Obj := fun P => ⟨.none, none, (.fields #[]), #[]⟩
noncomputable abbrev qo_313 : Params → Obj := fun P => ⟨(.type "tuple"), none, (.seq #[(.str "self" 562), (.str "parent" 563), (.str "value" 564)] 0), #[]⟩
noncomputable abbrev qo_441 : Params → Obj := fun P => ⟨(.type "getset_descriptor"), none, (.fields #[(.str "__weakref__" 724), (.ref 391), (.builtin "ExceptionGroup.__weakref__"), .none]), #[]⟩
noncomputable abbrev qo_377 : Params → Obj := fun P => ⟨(.type "tuple"), none, (.seq #[] 0), #[]⟩
noncomputable abbrev qo_345 : Params → Obj := fun _ => mtO 35 11 rfl rfl (.type "function") "add_namespace" "Tree.add_namespace" 3 [] .none .none .none (.str "markupmill.tree" 431) none (.ref 296) .none 0
noncomputable abbrev qo_281 : Params → Obj := fun P => ⟨(.type "code"), none, (.fields #[(.str "row" 510), (.str "Tree.row" 511), (.str "/claim/cut.py" 512), (.int 163 0), (.int 2 0), (.int 0 0), (.int 0 0), (.int 3 0), (.ref 228), (.bool true), (.int 181 0), (.ref 229), .none, (.ref 230), (.ref 231), (.ref 232), (.int 515 0), (.int 163 0), (.str "/claim/cut.py" 516)]), #[]⟩
noncomputable abbrev qo_409 : Params → Obj := fun P => ⟨(.type "tuple"), none, (.seq #[] 0), #[]⟩
noncomputable abbrev qo_329 : Params → Obj := fun _ => mtO 35 9 rfl rfl .none "element_row" "Tree.element_row" 0 [] .none .none .none .none none .none .none 0
noncomputable abbrev qo_265 : Params → Obj := fun P => ⟨(.type "tuple"), none, (.seq #[] 0), #[]⟩
noncomputable abbrev qo_393 : Params → Obj := fun P => ⟨(.type "code"), none, (.fields #[(.str "parent" 661), (.str "Tree.parent" 662), (.str "/claim/cut.py" 663), (.int 230 0), (.int 2 0), (.int 0 0), (.int 0 0), (.int 3 0), (.ref 340), (.bool true), (.int 181 0), (.ref 341), .none, (.ref 342), (.ref 343), (.ref 344), (.int 666 0), (.int 230 0), (.str "/claim/cut.py" 667)]), #[]⟩
noncomputable abbrev qo_361 : Params → Obj := fun P => ⟨.none, none, (.fields #[]), #[]⟩
noncomputable abbrev qo_297 : Params → Obj := fun P => ⟨(.type "tuple"), none, (.seq #[] 0), #[]⟩
noncomputable abbrev qo_425 : Params → Obj := fun P => ⟨(.type "tuple"), none, (.seq #[(.str "self" 704), (.str "node" 705), (.str "other" 706)] 0), #[]⟩
noncomputable abbrev qo_309 : Params → Obj := fun P => ⟨(.type "code"), none, (.fields #[(.str "add_text" 550), (.str "Tree.add_text" 551), (.str "/claim/cut.py" 552), (.int 182 0), (.int 3 0), (.int 0 0), (.int 0 0), (.int 3 0), (.ref 256), (.bool true), (.int 181 0), (.ref 257), .none, (.ref 258), (.ref 259), (.ref 260), (.int 556 0), (.int 182 0), (.str "/claim/cut.py" 557)]), #[]⟩
noncomputable abbrev qo_437 : Params → Obj := fun P => ⟨(.type "tuple"), none, (.seq #[(.str "rows" 720)] 0), #[]⟩
noncomputable abbrev qo_373 : Params → Obj := fun _ => mtO 35 15 rfl rfl (.type "function") "uri" "Tree.uri" 3 [] .none .none .none (.str "markupmill.tree" 431) none (.ref 324) .none 0
noncomputable abbrev qo_341 : Params → Obj := fun P => ⟨(.type "tuple"), none, (.seq #[(.str "self" 605), (.str "element" 606), (.str "prefix" 607), (.str "uri" 608)] 0), #[]⟩
noncomputable abbrev qo_277 : Params → Obj := fun P => ⟨.none, none, (.fields #[]), #[]⟩
noncomputable abbrev qo_405 : Params → Obj := fun P => ⟨(.type "tuple"), none, (.seq #[] 0), #[]⟩
noncomputable abbrev qo_325 : Params → Obj := fun P => ⟨(.type "tuple"), none, (.seq #[] 0), #[]⟩
noncomputable abbrev qo_261 : Params → Obj := fun P => ⟨(.type "frame"), none, .plain, #[(some (.ref 212)), (some (.ref 3)), (some (.ref 209)), none, (some (.str "markupmill.tree" 431)), none, (some (.ref 0))]⟩
noncomputable abbrev qo_389 : Params → Obj := fun P => ⟨.none, none, (.fields #[]), #[]⟩
noncomputable abbrev qo_357 : Params → Obj := fun _ => mtO 35 13 rfl rfl .none "kind" "Tree.kind" 0 [] .none .none .none .none none .none .none 0
noncomputable abbrev qo_293 : Params → Obj := fun P => ⟨(.type "tuple"), none, (.seq #[] 0), #[]⟩
noncomputable abbrev qo_421 : Params → Obj := fun P => ⟨(.type "code"), none, (.fields #[(.str "root_of" 693), (.str "Tree.root_of" 694), (.str "/claim/cut.py" 695), (.int 242 0), (.int 2 0), (.int 0 0), (.int 0 0), (.int 3 0), (.ref 368), (.bool true), (.int 181 0), (.ref 369), .none, (.ref 370), (.ref 371), (.ref 372), (.int 698 0), (.int 242 0), (.str "/claim/cut.py" 699)]), #[]⟩
noncomputable abbrev qo_317 : Params → Obj := fun _ => mtO 35 7 rfl rfl (.type "function") "add_comment" "Tree.add_comment" 3 [] .none .none .none (.str "markupmill.tree" 431) none (.ref 268) .none 0
noncomputable abbrev qo_381 : Params → Obj := fun P => ⟨(.type "tuple"), none, (.seq #[] 0), #[]⟩
noncomputable abbrev qo_349 : Params → Obj := fun P => ⟨(.type "tuple"), none, (.seq #[] 0), #[]⟩
noncomputable abbrev qo_285 : Params → Obj := fun P => ⟨(.type "tuple"), none, (.seq #[(.str "self" 521)] 0), #[]⟩
noncomputable abbrev qo_413 : Params → Obj := fun _ => mtO 35 21 rfl rfl .none "namespaces" "Tree.namespaces" 0 [] .none .none .none .none none .none .none 0
noncomputable abbrev qo_333 : Params → Obj := fun P => ⟨.none, none, (.fields #[]), #[]⟩
noncomputable abbrev qo_269 : Params → Obj := fun P => ⟨(.type "tuple"), none, (.seq #[] 0), #[]⟩
noncomputable abbrev qo_397 : Params → Obj := fun P => ⟨(.type "tuple"), none, (.seq #[(.str "self" 672), (.str "node" 673)] 0), #[]⟩
noncomputable abbrev qo_365 : Params → Obj := fun P => ⟨(.type "code"), none, (.fields #[(.str "name" 629), (.str "Tree.name" 630), (.str "/claim/cut.py" 631), (.int 218 0), (.int 2 0), (.int 0 0), (.int 0 0), (.int 3 0), (.ref 312), (.bool true), (.int 181 0), (.ref 313), .none, (.ref 314), (.ref 315), (.ref 316), (.int 634 0), (.int 218 0), (.str "/claim/cut.py" 635)]), #[]⟩
noncomputable abbrev qo_301 : Params → Obj := fun _ => mtO 35 5 rfl rfl .none "add_element" "Tree.add_element" 0 [] .none .none .none .none none .none .none 0
noncomputable abbrev qo_429 : Params → Obj := fun _ => mtO 35 23 rfl rfl (.type "function") "is_above" "Tree.is_above" 3 [] .none .none .none (.str "markupmill.tree" 431) none (.ref 380) .none 0
noncomputable abbrev qo_304 : Params → Obj := fun P => ⟨(.type "tuple"), none, (.seq #[] 0), #[]⟩
noncomputable abbrev qo_432 : Params → Obj := fun P => ⟨(.type "tuple"), none, (.seq #[(.str "self" 713), (.str "element" 714), (.str "uri" 715), (.str "local" 716)] 0), #[]⟩
noncomputable abbrev qo_368 : Params → Obj := fun P => ⟨.none, none, (.fields #[]), #[]⟩
noncomputable abbrev qo_336 : Params → Obj := fun _ => mtO 35 10 rfl rfl .none "set_attribute" "Tree.set_attribute" 0 [] .none .none .none .none none .none .none 0
noncomputable abbrev qo_272 : Params → Obj := fun P => ⟨(.type "tuple"), none, (.seq #[] 0), #[]⟩
noncomputable abbrev qo_400 : Params → Obj := fun P => ⟨(.type "code"), none, (.fields #[(.str "children" 669), (.str "Tree.children" 670), (.str "/claim/cut.py" 671), (.int 233 0), (.int 2 0), (.int 0 0), (.int 0 0), (.int 3 0), (.ref 347), (.bool true), (.int 181 0), (.ref 348), .none, (.ref 349), (.ref 350), (.ref 351), (.int 674 0), (.int 233 0), (.str "/claim/cut.py" 675)]), #[]⟩
noncomputable abbrev qo_320 : Params → Obj := fun P => ⟨(.type "tuple"), none, (.seq #[(.str "self" 571), (.str "parent" 572), (.str "target" 573), (.str "data" 574)] 0), #[]⟩
noncomputable abbrev qo_256 : Params → Obj := fun P => ⟨(.type "builtin_function_or_method"), none, (.fields #[(.builtin "type.__prepare__"), (.type "type")]), #[]⟩
noncomputable abbrev qo_384 : Params → Obj := fun P => ⟨(.type "tuple"), none, (.seq #[] 0), #[]⟩
noncomputable abbrev qo_352 : Params → Obj := fun _ => mtO 35 12 rfl rfl (.type "function") "set_value" "Tree.set_value" 3 [] .none .none .none (.str "markupmill.tree" 431) none (.ref 303) .none 0
noncomputable abbrev qo_288 : Params → Obj := fun P => ⟨(.type "code"), none, (.fields #[(.str "new_root" 518), (.str "Tree.new_root" 519), (.str "/claim/cut.py" 520), (.int 168 0), (.int 1 0), (.int 0 0), (.int 0 0), (.int 3 0), (.ref 235), (.bool true), (.int 181 0), (.ref 236), .none, (.ref 237), (.ref 238), (.ref 239), (.int 522 0), (.int 168 0), (.str "/claim/cut.py" 523)]), #[]⟩
noncomputable abbrev qo_416 : Params → Obj := fun P => ⟨(.type "tuple"), none, (.seq #[] 0), #[]⟩
noncomputable abbrev qo_312 : Params → Obj := fun P => ⟨.none, none, (.fields #[]), #[]⟩
noncomputable abbrev qo_440 : Params → Obj := fun P => ⟨(.type "getset_descriptor"), none, (.fields #[(.str "__dict__" 722), (.ref 391), (.builtin "function.__dict__"), (.builtin "function.__dict__#set")]), #[]⟩
noncomputable abbrev qo_376 : Params → Obj := fun P => ⟨(.type "tuple"), none, (.seq #[(.str "self" 648), (.str "node" 649)] 0), #[]⟩
noncomputable abbrev qo_344 : Params → Obj := fun P => ⟨(.type "code"), none, (.fields #[(.str "add_namespace" 602), (.str "Tree.add_namespace" 603), (.str "/claim/cut.py" 604), (.int 209 0), (.int 4 0), (.int 0 0), (.int 0 0), (.int 3 0), (.ref 291), (.bool true), (.int 181 0), (.ref 292), .none, (.ref 293), (.ref 294), (.ref 295), (.int 609 0), (.int 209 0), (.str "/claim/cut.py" 610)]), #[]⟩
noncomputable abbrev qo_280 : Params → Obj := fun _ => mtO 35 2 rfl rfl .none "row" "Tree.row" 0 [] .none .none .none .none none .none .none 0
noncomputable abbrev qo_408 : Params → Obj := fun _ => mtO 35 20 rfl rfl (.type "function") "attributes" "Tree.attributes" 3 [] .none .none .none (.str "markupmill.tree" 431) none (.ref 359) .none 0
noncomputable abbrev qo_328 : Params → Obj := fun P => ⟨(.type "tuple"), none, (.seq #[] 0), #[]⟩
noncomputable abbrev qo_264 : Params → Obj := fun P => ⟨(.type "tuple"), none, (.seq #[(.str "self" 493)] 0), #[]⟩
noncomputable abbrev qo_392 : Params → Obj := fun _ => mtO 35 18 rfl rfl .none "parent" "Tree.parent" 0 [] .none .none .none .none none .none .none 0
noncomputable abbrev qo_360 : Params → Obj := fun P => ⟨(.type "tuple"), none, (.seq #[] 0), #[]⟩
noncomputable abbrev qo_296 : Params → Obj := fun _ => mtO 35 4 rfl rfl (.type "function") "add_child" "Tree.add_child" 3 [] .none .none .none (.str "markupmill.tree" 431) none (.ref 247) .none 0
noncomputable abbrev qo_424 : Params → Obj := fun P => ⟨.none, none, (.fields #[]), #[]⟩
noncomputable abbrev qo_254 : Params → Obj := fun P => ⟨.none, none, (.fields #[(.int 1 0), (.int 0 0), (.ref 20), (.int 11 0), (.int 0 0), (.ref 29), (.int 16 0), (.int 0 0), (.ref 36), (.int 22 0), (.int 0 0), (.ref 44), (.int 32 0), (.int 0 0), (.ref 51), (.int 34 0), (.int 0 0), (.ref 58), (.int 36 0), (.int 0 0), (.ref 65), (.int 40 0), (.int 0 0), (.ref 72), (.int 47 0), (.int 0 0), (.ref 79), (.int 52 0), (.int 0 0), (.ref 86), (.int 65 0), (.int 0 0), (.ref 93), (.int 74 0), (.int 0 0), (.ref 101), (.int 91 0), (.int 0 0), (.ref 108), (.int 99 0), (.int 0 0), (.ref 113), (.int 104 0), (.int 0 0), (.ref 120), (.int 112 0), (.int 0 0), (.ref 127), (.int 118 0), (.int 0 0), (.ref 134), (.int 120 0), (.int 0 0), (.ref 139), (.int 124 0), (.int 0 0), (.ref 144), (.int 126 0), (.int 0 0), (.ref 151), (.int 133 0), (.int 0 0), (.ref 158), (.int 138 0), (.int 0 0), (.ref 178), (.int 142 0), (.int 0 0), (.ref 191), (.int 154 0), (.int 0 0), (.ref 212)]), #[]⟩
noncomputable abbrev qo_308 : Params → Obj := fun _ => mtO 35 6 rfl rfl .none "add_text" "Tree.add_text" 0 [] .none .none .none .none none .none .none 0
noncomputable abbrev qo_436 : Params → Obj := fun _ => mtO 35 24 rfl rfl (.type "function") "attribute_value" "Tree.attribute_value" 3 [] .none .none .none (.str "markupmill.tree" 431) none (.ref 387) .none 0
noncomputable abbrev qo_372 : Params → Obj := fun P => ⟨(.type "code"), none, (.fields #[(.str "uri" 637), (.str "Tree.uri" 638), (.str "/claim/cut.py" 639), (.int 221 0), (.int 2 0), (.int 0 0), (.int 0 0), (.int 3 0), (.ref 319), (.bool true), (.int 181 0), (.ref 320), .none, (.ref 321), (.ref 322), (.ref 323), (.int 642 0), (.int 221 0), (.str "/claim/cut.py" 643)]), #[]⟩
noncomputable abbrev qo_340 : Params → Obj := fun P => ⟨.none, none, (.fields #[]), #[]⟩
noncomputable abbrev qo_276 : Params → Obj := fun P => ⟨(.type "tuple"), none, (.seq #[] 0), #[]⟩
noncomputable abbrev qo_404 : Params → Obj := fun P => ⟨(.type "tuple"), none, (.seq #[(.str "self" 680), (.str "node" 681)] 0), #[]⟩
noncomputable abbrev qo_324 : Params → Obj := fun _ => mtO 35 8 rfl rfl (.type "function") "add_instruction" "Tree.add_instruction" 3 [] .none .none .none (.str "markupmill.tree" 431) none (.ref 275) .none 0
noncomputable abbrev qo_260 : Params → Obj := fun P => ⟨(.type "code"), none, (.fields #[(.str "Tree" 480), (.str "Tree" 481), (.str "/claim/cut.py" 482), (.int 154 0), (.int 0 0), (.int 0 0), (.int 0 0), (.int 0 0), (.ref 210), (.bool false), (.int 181 0), (.ref 211), .none, .none, .none, .none, (.int 483 0), (.int 154 0), (.str "/claim/cut.py" 484)]), #[]⟩
noncomputable abbrev qo_388 : Params → Obj := fun P => ⟨(.type "tuple"), none, (.seq #[] 0), #[]⟩
noncomputable abbrev qo_356 : Params → Obj := fun P => ⟨(.type "tuple"), none, (.seq #[] 0), #[]⟩
noncomputable abbrev qo_292 : Params → Obj := fun P => ⟨(.type "tuple"), none, (.seq #[(.str "self" 528), (.str "parent" 529), (.str "kind" 530), (.str "name" 531), (.str "uri" 532), (.str "local" 533), (.str "value" 534), (.str "node" 535)] 0), #[]⟩
noncomputable abbrev qo_420 : Params → Obj := fun _ => mtO 35 22 rfl rfl .none "root_of" "Tree.root_of" 0 [] .none .none .none .none none .none .none 0
noncomputable abbrev qo_316 : Params → Obj := fun P => ⟨(.type "code"), none, (.fields #[(.str "add_comment" 559), (.str "Tree.add_comment" 560), (.str "/claim/cut.py" 561), (.int 185 0), (.int 3 0), (.int 0 0), (.int 0 0), (.int 3 0), (.ref 263), (.bool true), (.int 181 0), (.ref 264), .none, (.ref 265), (.ref 266), (.ref 267), (.int 565 0), (.int 185 0), (.str "/claim/cut.py" 566)]), #[]⟩
noncomputable abbrev qo_380 : Params → Obj := fun _ => mtO 35 16 rfl rfl (.type "function") "local" "Tree.local" 3 [] .none .none .none (.str "markupmill.tree" 431) none (.ref 331) .none 0
noncomputable abbrev qo_348 : Params → Obj := fun P => ⟨(.type "tuple"), none, (.seq #[(.str "self" 615), (.str "node" 616), (.str "value" 617)] 0), #[]⟩
noncomputable abbrev qo_284 : Params → Obj := fun P => ⟨.none, none, (.fields #[]), #[]⟩
noncomputable abbrev qo_412 : Params → Obj := fun P => ⟨(.type "tuple"), none, (.seq #[] 0), #[]⟩
noncomputable abbrev qo_332 : Params → Obj := fun P => ⟨(.type "tuple"), none, (.seq #[] 0), #[]⟩
noncomputable abbrev qo_268 : Params → Obj := fun _ => mtO 35 0 rfl rfl (.type "function") "__init__" "Tree.__init__" 3 [] .none .none .none (.str "markupmill.tree" 431) none (.ref 219) .none 0
noncomputable abbrev qo_396 : Params → Obj := fun P => ⟨.none, none, (.fields #[]), #[]⟩
noncomputable abbrev qo_364 : Params → Obj := fun _ => mtO 35 14 rfl rfl .none "name" "Tree.name" 0 [] .none .none .none .none none .none .none 0
noncomputable abbrev qo_300 : Params → Obj := fun P => ⟨(.type "tuple"), none, (.seq #[] 0), #[]⟩
noncomputable abbrev qo_428 : Params → Obj := fun P => ⟨(.type "code"), none, (.fields #[(.str "is_above" 701), (.str "Tree.is_above" 702), (.str "/claim/cut.py" 703), (.int 245 0), (.int 3 0), (.int 0 0), (.int 0 0), (.int 3 0), (.ref 375), (.bool true), (.int 181 0), (.ref 376), .none, (.ref 377), (.ref 378), (.ref 379), (.int 707 0), (.int 245 0), (.str "/claim/cut.py" 708)]), #[]⟩
noncomputable abbrev qo_306 : Params → Obj := fun P => ⟨(.type "tuple"), none, (.seq #[(.str "self" 553), (.str "parent" 554), (.str "value" 555)] 0), #[]⟩
noncomputable abbrev qo_434 : Params → Obj := fun _ => mtO 35 24 rfl rfl .none "attribute_value" "Tree.attribute_value" 0 [] .none .none .none .none none .none .none 0
noncomputable abbrev qo_370 : Params → Obj := fun P => ⟨(.type "tuple"), none, (.seq #[] 0), #[]⟩
noncomputable abbrev qo_338 : Params → Obj := fun _ => mtO 35 10 rfl rfl (.type "function") "set_attribute" "Tree.set_attribute" 3 [] .none .none .none (.str "markupmill.tree" 431) none (.ref 289) .none 0
noncomputable abbrev qo_274 : Params → Obj := fun P => ⟨(.type "code"), none, (.fields #[(.str "new_row" 497), (.str "Tree.new_row" 498), (.str "/claim/cut.py" 499), (.int 159 0), (.int 7 0), (.int 0 0), (.int 0 0), (.int 3 0), (.ref 221), (.bool true), (.int 181 0), (.ref 222), .none, (.ref 223), (.ref 224), (.ref 225), (.int 507 0), (.int 159 0), (.str "/claim/cut.py" 508)]), #[]⟩
noncomputable abbrev qo_402 : Params → Obj := fun P => ⟨(.type "tuple"), none, (.seq #[] 0), #[]⟩
noncomputable abbrev qo_322 : Params → Obj := fun _ => mtO 35 8 rfl rfl .none "add_instruction" "Tree.add_instruction" 0 [] .none .none .none .none none .none .none 0
noncomputable abbrev qo_258 : Params → Obj := fun P => ⟨(.type "tuple"), none, (.seq #[] 0), #[]⟩
noncomputable abbrev qo_386 : Params → Obj := fun P => ⟨(.type "code"), none, (.fields #[(.str "value" 653), (.str "Tree.value" 654), (.str "/claim/cut.py" 655), (.int 227 0), (.int 2 0), (.int 0 0), (.int 0 0), (.int 3 0), (.ref 333), (.bool true), (.int 181 0), (.ref 334), .none, (.ref 335), (.ref 336), (.ref 337), (.int 658 0), (.int 227 0), (.str "/claim/cut.py" 659)]), #[]⟩
noncomputable abbrev qo_354 : Params → Obj := fun P => ⟨.none, none, (.fields #[]), #[]⟩
noncomputable abbrev qo_290 : Params → Obj := fun P => ⟨(.type "tuple"), none, (.seq #[] 0), #[]⟩
noncomputable abbrev qo_418 : Params → Obj := fun P => ⟨(.type "tuple"), none, (.seq #[(.str "self" 696), (.str "node" 697)] 0), #[]⟩
noncomputable abbrev qo_314 : Params → Obj := fun P => ⟨(.type "tuple"), none, (.seq #[] 0), #[]⟩
noncomputable abbrev qo_442 : Params → Obj := fun P => ⟨(.type "super"), none, (.fields #[(.ref 391), (.ref 391), (.ref 391)]), #[]⟩
noncomputable abbrev qo_378 : Params → Obj := fun _ => mtO 35 16 rfl rfl .none "local" "Tree.local" 0 [] .none .none .none .none none .none .none 0
noncomputable abbrev qo_346 : Params → Obj := fun P => ⟨(.type "tuple"), none, (.seq #[] 0), #[]⟩
noncomputable abbrev qo_282 : Params → Obj := fun _ => mtO 35 2 rfl rfl (.type "function") "row" "Tree.row" 3 [] .none .none .none (.str "markupmill.tree" 431) none (.ref 233) .none 0
noncomputable abbrev qo_410 : Params → Obj := fun P => ⟨.none, none, (.fields #[]), #[]⟩
noncomputable abbrev qo_330 : Params → Obj := fun P => ⟨(.type "code"), none, (.fields #[(.str "element_row" 578), (.str "Tree.element_row" 579), (.str "/claim/cut.py" 580), (.int 191 0), (.int 2 0), (.int 0 0), (.int 0 0), (.int 3 0), (.ref 277), (.bool true), (.int 181 0), (.ref 278), .none, (.ref 279), (.ref 280), (.ref 281), (.int 584 0), (.int 191 0), (.str "/claim/cut.py" 585)]), #[]⟩
noncomputable abbrev qo_266 : Params → Obj := fun _ => mtO 35 0 rfl rfl .none "__init__" "Tree.__init__" 0 [] .none .none .none .none none .none .none 0
noncomputable abbrev qo_394 : Params → Obj := fun _ => mtO 35 18 rfl rfl (.type "function") "parent" "Tree.parent" 3 [] .none .none .none (.str "markupmill.tree" 431) none (.ref 345) .none 0
noncomputable abbrev qo_362 : Params → Obj := fun P => ⟨(.type "tuple"), none, (.seq #[(.str "self" 632), (.str "node" 633)] 0), #[]⟩
noncomputable abbrev qo_298 : Params → Obj := fun P => ⟨.none, none, (.fields #[]), #[]⟩
noncomputable abbrev qo_426 : Params → Obj := fun P => ⟨(.type "tuple"), none, (.seq #[] 0), #[]⟩
noncomputable abbrev qo_310 : Params → Obj := fun _ => mtO 35 6 rfl rfl (.type "function") "add_text" "Tree.add_text" 3 [] .none .none .none (.str "markupmill.tree" 431) none (.ref 261) .none 0
noncomputable abbrev qo_438 : Params → Obj := fun P => ⟨(.type "dict"), none, (.dict #[⟨(PySem.PyData.keyHash P "__module__"), (.str "__module__" 485), (.str "markupmill.tree" 431)⟩, ⟨(PySem.PyData.keyHash P "__firstlineno__"), (.str "__firstlineno__" 489), (.int 154 488)⟩, ⟨(PySem.PyData.keyHash P "__init__"), (.str "__init__" 496), (.ref 220)⟩, ⟨(PySem.PyData.keyHash P "new_row"), (.str "new_row" 509), (.ref 227)⟩, ⟨(PySem.PyData.keyHash P "row"), (.str "row" 517), (.ref 234)⟩, ⟨(PySem.PyData.keyHash P "new_root"), (.str "new_root" 524), (.ref 241)⟩, ⟨(PySem.PyData.keyHash P "add_child"), (.str "add_child" 538), (.ref 248)⟩, ⟨(PySem.PyData.keyHash P "add_element"), (.str "add_element" 549), (.ref 255)⟩, ⟨(PySem.PyData.keyHash P "add_text"), (.str "add_text" 558), (.ref 262)⟩, ⟨(PySem.PyData.keyHash P "add_comment"), (.str "add_comment" 567), (.ref 269)⟩, ⟨(PySem.PyData.keyHash P "add_instruction"), (.str "add_instruction" 577), (.ref 276)⟩, ⟨(PySem.PyData.keyHash P "element_row"), (.str "element_row" 586), (.ref 283)⟩, ⟨(PySem.PyData.keyHash P "set_attribute"), (.str "set_attribute" 601), (.ref 290)⟩, ⟨(PySem.PyData.keyHash P "add_namespace"), (.str "add_namespace" 611), (.ref 297)⟩, ⟨(PySem.PyData.keyHash P "set_value"), (.str "set_value" 620), (.ref 304)⟩, ⟨(PySem.PyData.keyHash P "kind"), (.str "kind" 628), (.ref 311)⟩, ⟨(PySem.PyData.keyHash P "name"), (.str "name" 636), (.ref 318)⟩, ⟨(PySem.PyData.keyHash P "uri"), (.str "uri" 644), (.ref 325)⟩, ⟨(PySem.PyData.keyHash P "local"), (.str "local" 652), (.ref 332)⟩, ⟨(PySem.PyData.keyHash P "value"), (.str "value" 660), (.ref 339)⟩, ⟨(PySem.PyData.keyHash P "parent"), (.str "parent" 668), (.ref 346)⟩, ⟨(PySem.PyData.keyHash P "children"), (.str "children" 676), (.ref 353)⟩, ⟨(PySem.PyData.keyHash P "attributes"), (.str "attributes" 684), (.ref 360)⟩, ⟨(PySem.PyData.keyHash P "namespaces"), (.str "namespaces" 692), (.ref 367)⟩, ⟨(PySem.PyData.keyHash P "root_of"), (.str "root_of" 700), (.ref 374)⟩, ⟨(PySem.PyData.keyHash P "is_above"), (.str "is_above" 709), (.ref 381)⟩, ⟨(PySem.PyData.keyHash P "attribute_value"), (.str "attribute_value" 719), (.ref 388)⟩, ⟨(PySem.PyData.keyHash P "__static_attributes__"), (.str "__static_attributes__" 721), (.ref 389)⟩, ⟨(PySem.PyData.keyHash P "__dict__"), (.str "__dict__" 723), (.ref 392)⟩, ⟨(PySem.PyData.keyHash P "__weakref__"), (.str "__weakref__" 725), (.ref 393)⟩, ⟨(PySem.PyData.keyHash P "__doc__"), (.str "__doc__" 726), .none⟩] 4), #[]⟩
noncomputable abbrev qo_374 : Params → Obj := fun P => ⟨(.type "tuple"), none, (.seq #[] 0), #[]⟩
noncomputable abbrev qo_342 : Params → Obj := fun P => ⟨(.type "tuple"), none, (.seq #[] 0), #[]⟩
noncomputable abbrev qo_278 : Params → Obj := fun P => ⟨(.type "tuple"), none, (.seq #[(.str "self" 513), (.str "node" 514)] 0), #[]⟩
noncomputable abbrev qo_406 : Params → Obj := fun _ => mtO 35 20 rfl rfl .none "attributes" "Tree.attributes" 0 [] .none .none .none .none none .none .none 0
noncomputable abbrev qo_326 : Params → Obj := fun P => ⟨.none, none, (.fields #[]), #[]⟩
noncomputable abbrev qo_262 : Params → Obj := fun P => ⟨(.type "tuple"), none, (.seq #[] 0), #[]⟩
noncomputable abbrev qo_390 : Params → Obj := fun P => ⟨(.type "tuple"), none, (.seq #[(.str "self" 664), (.str "node" 665)] 0), #[]⟩
noncomputable abbrev qo_358 : Params → Obj := fun P => ⟨(.type "code"), none, (.fields #[(.str "kind" 621), (.str "Tree.kind" 622), (.str "/claim/cut.py" 623), (.int 215 0), (.int 2 0), (.int 0 0), (.int 0 0), (.int 3 0), (.ref 305), (.bool true), (.int 181 0), (.ref 306), .none, (.ref 307), (.ref 308), (.ref 309), (.int 626 0), (.int 215 0), (.str "/claim/cut.py" 627)]), #[]⟩
noncomputable abbrev qo_294 : Params → Obj := fun _ => mtO 35 4 rfl rfl .none "add_child" "Tree.add_child" 0 [] .none .none .none .none none .none .none 0
noncomputable abbrev qo_422 : Params → Obj := fun _ => mtO 35 22 rfl rfl (.type "function") "root_of" "Tree.root_of" 3 [] .none .none .none (.str "markupmill.tree" 431) none (.ref 373) .none 0
noncomputable abbrev qo_318 : Params → Obj := fun P => ⟨(.type "tuple"), none, (.seq #[] 0), #[]⟩
noncomputable abbrev qo_382 : Params → Obj := fun P => ⟨.none, none, (.fields #[]), #[]⟩
noncomputable abbrev qo_350 : Params → Obj := fun _ => mtO 35 12 rfl rfl .none "set_value" "Tree.set_value" 0 [] .none .none .none .none none .none .none 0
noncomputable abbrev qo_286 : Params → Obj := fun P => ⟨(.type "tuple"), none, (.seq #[] 0), #[]⟩
noncomputable abbrev qo_414 : Params → Obj := fun P => ⟨(.type "code"), none, (.fields #[(.str "namespaces" 685), (.str "Tree.namespaces" 686), (.str "/claim/cut.py" 687), (.int 239 0), (.int 2 0), (.int 0 0), (.int 0 0), (.int 3 0), (.ref 361), (.bool true), (.int 181 0), (.ref 362), .none, (.ref 363), (.ref 364), (.ref 365), (.int 690 0), (.int 239 0), (.str "/claim/cut.py" 691)]), #[]⟩
noncomputable abbrev qo_334 : Params → Obj := fun P => ⟨(.type "tuple"), none, (.seq #[(.str "self" 590), (.str "element" 591), (.str "name" 592), (.str "uri" 593), (.str "local" 594), (.str "value" 595), (.str "row" 596), (.str "node" 597), (.str "known" 598)] 0), #[]⟩
noncomputable abbrev qo_270 : Params → Obj := fun P => ⟨.none, none, (.fields #[]), #[]⟩
noncomputable abbrev qo_398 : Params → Obj := fun P => ⟨(.type "tuple"), none, (.seq #[] 0), #[]⟩
noncomputable abbrev qo_366 : Params → Obj := fun _ => mtO 35 14 rfl rfl (.type "function") "name" "Tree.name" 3 [] .none .none .none (.str "markupmill.tree" 431) none (.ref 317) .none 0
noncomputable abbrev qo_302 : Params → Obj := fun P => ⟨(.type "code"), none, (.fields #[(.str "add_element" 539), (.str "Tree.add_element" 540), (.str "/claim/cut.py" 541), (.int 179 0), (.int 5 0), (.int 0 0), (.int 0 0), (.int 3 0), (.ref 249), (.bool true), (.int 181 0), (.ref 250), .none, (.ref 251), (.ref 252), (.ref 253), (.int 547 0), (.int 179 0), (.str "/claim/cut.py" 548)]), #[]⟩
noncomputable abbrev qo_430 : Params → Obj := fun P => ⟨(.type "tuple"), none, (.seq #[] 0), #[]⟩
noncomputable abbrev qo_618 : Params → Obj := fun P => ⟨(.type "dict"), none, (.dict #[⟨(PySem.PyData.keyHash P "__name__"), (.str "__name__" 165), (.str "law_xm0671_01" 729)⟩, ⟨(PySem.PyData.keyHash P "__doc__"), (.str "__doc__" 166), .none⟩, ⟨(PySem.PyData.keyHash P "__package__"), (.str "__package__" 167), .none⟩, ⟨(PySem.PyData.keyHash P "__loader__"), (.str "__loader__" 168), (.builtin "__main__.__loader__#opaque")⟩, ⟨(PySem.PyData.keyHash P "__spec__"), (.str "__spec__" 169), .none⟩, ⟨(PySem.PyData.keyHash P "__annotations__"), (.str "__annotations__" 170), (.ref 6)⟩, ⟨(PySem.PyData.keyHash P "__builtins__"), (.str "__builtins__" 171), (.ref 4)⟩, ⟨(PySem.PyData.keyHash P "__file__"), (.str "__file__" 173), (.str "/claim/cut.py" 172)⟩, ⟨(PySem.PyData.keyHash P "__cached__"), (.str "__cached__" 174), .none⟩, ⟨(PySem.PyData.keyHash P "_wall"), (.str "_wall" 193), (.ref 21)⟩, ⟨(PySem.PyData.keyHash P "NAN"), (.str "NAN" 198), (.ref 22)⟩, ⟨(PySem.PyData.keyHash P "INFINITY"), (.str "INFINITY" 201), (.ref 23)⟩, ⟨(PySem.PyData.keyHash P "SPACES"), (.str "SPACES" 203), (.str " \t\n\r" 202)⟩, ⟨(PySem.PyData.keyHash P "DIGITS"), (.str "DIGITS" 205), (.str "0123456789" 204)⟩, ⟨(PySem.PyData.keyHash P "MOST_FIGURES"), (.str "MOST_FIGURES" 207), (.int 400 206)⟩, ⟨(PySem.PyData.keyHash P "MOST"), (.str "MOST" 210), (.int 10000000000000000000000000000000000000000000000000000000000000000000000000000000000000000000000000000000000000000000000000000000000000000000000000000000000000000000000000000000000000000000000000000000000000000000000000000000000000000000000000000000000000000000000000000000000000000000000000000000000000000000000000000000000000000000000000000000000000000000000000000000000000000000000000000000000000000 209)⟩, ⟨(PySem.PyData.keyHash P "common_divisor"), (.str "common_divisor" 220), (.ref 30)⟩, ⟨(PySem.PyData.keyHash P "sign_of"), (.str "sign_of" 227), (.ref 37)⟩, ⟨(PySem.PyData.keyHash P "number_of"), (.str "number_of" 237), (.ref 45)⟩, ⟨(PySem.PyData.keyHash P "is_nan"), (.str "is_nan" 244), (.ref 52)⟩, ⟨(PySem.PyData.keyHash P "negated"), (.str "negated" 251), (.ref 59)⟩, ⟨(PySem.PyData.keyHash P "digits_end"), (.str "digits_end" 259), (.ref 66)⟩, ⟨(PySem.PyData.keyHash P "trimmed"), (.str "trimmed" 268), (.ref 73)⟩, ⟨(PySem.PyData.keyHash P "whole_of"), (.str "whole_of" 277), (.ref 80)⟩, ⟨(PySem.PyData.keyHash P "read_number"), (.str "read_number" 291), (.ref 87)⟩, ⟨(PySem.PyData.keyHash P "number_of_digits"), (.str "number_of_digits" 302), (.ref 94)⟩, ⟨(PySem.PyData.keyHash P "write_number"), (.str "write_number" 317), (.ref 102)⟩, ⟨(PySem.PyData.keyHash P "beneath"), (.str "beneath" 330), (.ref 109)⟩, ⟨(PySem.PyData.keyHash P "string_value"), (.str "string_value" 336), (.ref 114)⟩, ⟨(PySem.PyData.keyHash P "as_text"), (.str "as_text" 346), (.ref 121)⟩, ⟨(PySem.PyData.keyHash P "as_number"), (.str "as_number" 354), (.ref 128)⟩, ⟨(PySem.PyData.keyHash P "is_equality"), (.str "is_equality" 361), (.ref 135)⟩, ⟨(PySem.PyData.keyHash P "as_compared"), (.str "as_compared" 367), (.ref 140)⟩, ⟨(PySem.PyData.keyHash P "texts_of"), (.str "texts_of" 373), (.ref 145)⟩, ⟨(PySem.PyData.keyHash P "listed"), (.str "listed" 383), (.ref 152)⟩, ⟨(PySem.PyData.keyHash P "MarkupError"), (.str "MarkupError" 414), (.ref 169)⟩, ⟨(PySem.PyData.keyHash P "TreeFault"), (.str "TreeFault" 430), (.ref 182)⟩, ⟨(PySem.PyData.keyHash P "PARENTS"), (.str "PARENTS" 435), (.ref 185)⟩, ⟨(PySem.PyData.keyHash P "NodeRow"), (.str "NodeRow" 477), (.ref 202)⟩, ⟨(PySem.PyData.keyHash P "Tree"), (.str "Tree" 728), (.ref 391)⟩, ⟨(PySem.PyData.keyHash P "_law_bag"), (.str "_law_bag" 739), (.ref 402)⟩, ⟨(PySem.PyData.keyHash P "_law_pick"), (.str "_law_pick" 748), (.ref 409)⟩, ⟨(PySem.PyData.keyHash P "_law_one"), (.str "_law_one" 756), (.ref 416)⟩, ⟨(PySem.PyData.keyHash P "_law_word"), (.str "_law_word" 763), (.ref 423)⟩, ⟨(PySem.PyData.keyHash P "_law_numbered"), (.str "_law_numbered" 773), (.ref 430)⟩, ⟨(PySem.PyData.keyHash P "_law_nodes"), (.str "_law_nodes" 790), (.ref 437)⟩, ⟨(PySem.PyData.keyHash P "_law_plain"), (.str "_law_plain" 800), (.ref 444)⟩, ⟨(PySem.PyData.keyHash P "_law_is_same"), (.str "_law_is_same" 806), (.ref 449)⟩, ⟨(PySem.PyData.keyHash P "law"), (.str "law" 812), (.ref 454)⟩] 49), #[]⟩
noncomputable abbrev qo_671 : Params → Obj := fun _ => fnO 44 rfl .none "_law_is_same" "_law_is_same" 0 [] .none .none .none .none none .none .none 0
noncomputable abbrev qo_639 : Params → Obj := fun P => ⟨(.type "code"), none, (.fields #[(.str "_law_one" 749), (.str "_law_one" 750), (.str "/claim/cut.py" 751), (.int 262 0), (.int 2 0), (.int 0 0), (.int 0 0), (.int 3 0), (.ref 410), (.bool true), (.int 181 0), (.ref 411), .none, (.ref 412), (.ref 413), (.ref 414), (.int 754 0), (.int 262 0), (.str "/claim/cut.py" 755)]), #[]⟩
noncomputable abbrev qo_623 : Params → Obj := fun P => ⟨(.type "tuple"), none, (.seq #[] 0), #[]⟩
noncomputable abbrev qo_655 : Params → Obj := fun P => ⟨(.type "tuple"), none, (.seq #[] 0), #[]⟩
noncomputable abbrev qo_647 : Params → Obj := fun _ => fnO 40 rfl (.type "function") "_law_word" "_law_word" 3 [] .none .none .none (.str "law_xm0671_01" 729) none (.ref 422) .none 0
noncomputable abbrev qo_631 : Params → Obj := fun _ => fnO 38 rfl .none "_law_pick" "_law_pick" 0 [] .none .none .none .none none .none .none 0
noncomputable abbrev qo_663 : Params → Obj := fun P => ⟨.none, none, (.fields #[]), #[]⟩
noncomputable abbrev qo_675 : Params → Obj := fun P => ⟨.none, none, (.fields #[]), #[]⟩
noncomputable abbrev qo_643 : Params → Obj := fun P => ⟨(.type "tuple"), none, (.seq #[(.str "bag" 760)] 0), #[]⟩
noncomputable abbrev qo_627 : Params → Obj := fun P => ⟨(.type "tuple"), none, (.seq #[] 0), #[]⟩
noncomputable abbrev qo_659 : Params → Obj := fun _ => fnO 42 rfl .none "_law_nodes" "_law_nodes" 0 [] .none .none .none .none none .none .none 0
noncomputable abbrev qo_651 : Params → Obj := fun P => ⟨(.type "tuple"), none, (.seq #[] 0), #[]⟩
noncomputable abbrev qo_635 : Params → Obj := fun P => ⟨.none, none, (.fields #[]), #[]⟩
noncomputable abbrev qo_667 : Params → Obj := fun P => ⟨(.type "code"), none, (.fields #[(.str "_law_plain" 791), (.str "_law_plain" 792), (.str "/claim/cut.py" 793), (.int 286 0), (.int 1 0), (.int 0 0), (.int 0 0), (.int 3 0), (.ref 438), (.bool true), (.int 181 0), (.ref 439), .none, (.ref 440), (.ref 441), (.ref 442), (.int 798 0), (.int 286 0), (.str "/claim/cut.py" 799)]), #[]⟩
noncomputable abbrev qo_673 : Params → Obj := fun _ => fnO 44 rfl (.type "function") "_law_is_same" "_law_is_same" 3 [] .none .none .none (.str "law_xm0671_01" 729) none (.ref 448) .none 0
noncomputable abbrev qo_641 : Params → Obj := fun P => ⟨(.type "tuple"), none, (.seq #[] 0), #[]⟩
noncomputable abbrev qo_625 : Params → Obj := fun P => ⟨(.type "code"), none, (.fields #[(.str "_law_bag" 731), (.str "_law_bag" 732), (.str "/claim/cut.py" 733), (.int 251 0), (.int 1 0), (.int 0 0), (.int 0 0), (.int 3 0), (.ref 396), (.bool true), (.int 181 0), (.ref 397), .none, (.ref 398), (.ref 399), (.ref 400), (.int 737 0), (.int 251 0), (.str "/claim/cut.py" 738)]), #[]⟩
noncomputable abbrev qo_657 : Params → Obj := fun P => ⟨(.type "tuple"), none, (.seq #[(.str "bag" 777), (.str "tree" 778), (.str "root" 779), (.str "found" 780), (.str "top" 781), (.str "turn" 782), (.str "node" 783), (.str "one" 784), (.str "other" 785), (.str "inner" 786), (.str "told" 787)] 0), #[]⟩
noncomputable abbrev qo_649 : Params → Obj := fun P => ⟨.none, none, (.fields #[]), #[]⟩
noncomputable abbrev qo_633 : Params → Obj := fun _ => fnO 38 rfl (.type "function") "_law_pick" "_law_pick" 3 [] .none .none .none (.str "law_xm0671_01" 729) none (.ref 408) .none 0
noncomputable abbrev qo_665 : Params → Obj := fun P => ⟨(.type "tuple"), none, (.seq #[] 0), #[]⟩
noncomputable abbrev qo_677 : Params → Obj := fun P => ⟨(.type "code"), none, (.fields #[(.str "law" 807), (.str "law" 808), (.str "/claim/cut.py" 809), (.int 301 0), (.int 1 0), (.int 0 0), (.int 0 0), (.int 3 0), (.ref 450), (.bool true), (.int 181 0), (.ref 451), .none, .none, .none, (.ref 452), (.int 810 0), (.int 301 0), (.str "/claim/cut.py" 811)]), #[]⟩
noncomputable abbrev qo_645 : Params → Obj := fun _ => fnO 40 rfl .none "_law_word" "_law_word" 0 [] .none .none .none .none none .none .none 0
noncomputable abbrev qo_629 : Params → Obj := fun P => ⟨(.type "tuple"), none, (.seq #[(.str "bag" 743), (.str "top" 744), (.str "figure" 745)] 0), #[]⟩
noncomputable abbrev qo_661 : Params → Obj := fun _ => fnO 42 rfl (.type "function") "_law_nodes" "_law_nodes" 3 [] .none .none .none (.str "law_xm0671_01" 729) none (.ref 436) .none 0
noncomputable abbrev qo_621 : Params → Obj := fun P => ⟨.none, none, (.fields #[]), #[]⟩
noncomputable abbrev qo_653 : Params → Obj := fun P => ⟨(.type "code"), none, (.fields #[(.str "_law_numbered" 764), (.str "_law_numbered" 765), (.str "/claim/cut.py" 766), (.int 266 0), (.int 1 0), (.int 0 0), (.int 0 0), (.int 3 0), (.ref 424), (.bool true), (.int 181 0), (.ref 425), .none, (.ref 426), (.ref 427), (.ref 428), (.int 771 0), (.int 266 0), (.str "/claim/cut.py" 772)]), #[]⟩
noncomputable abbrev qo_637 : Params → Obj := fun P => ⟨(.type "tuple"), none, (.seq #[] 0), #[]⟩
noncomputable abbrev qo_669 : Params → Obj := fun P => ⟨(.type "tuple"), none, (.seq #[] 0), #[]⟩
noncomputable abbrev qo_672 : Params → Obj := fun P => ⟨(.type "code"), none, (.fields #[(.str "_law_is_same" 801), (.str "_law_is_same" 802), (.str "/claim/cut.py" 803), (.int 295 0), (.int 2 0), (.int 0 0), (.int 0 0), (.int 3 0), (.ref 445), (.bool true), (.int 181 0), (.ref 446), .none, .none, .none, (.ref 447), (.int 804 0), (.int 295 0), (.str "/claim/cut.py" 805)]), #[]⟩
noncomputable abbrev qo_640 : Params → Obj := fun _ => fnO 39 rfl (.type "function") "_law_one" "_law_one" 3 [] .none .none .none (.str "law_xm0671_01" 729) none (.ref 415) .none 0
noncomputable abbrev qo_624 : Params → Obj := fun _ => fnO 37 rfl .none "_law_bag" "_law_bag" 0 [] .none .none .none .none none .none .none 0
noncomputable abbrev qo_656 : Params → Obj := fun P => ⟨.none, none, (.fields #[]), #[]⟩
noncomputable abbrev qo_648 : Params → Obj := fun P => ⟨(.type "tuple"), none, (.seq #[] 0), #[]⟩
noncomputable abbrev qo_632 : Params → Obj := fun P => ⟨(.type "code"), none, (.fields #[(.str "_law_pick" 740), (.str "_law_pick" 741), (.str "/claim/cut.py" 742), (.int 255 0), (.int 2 0), (.int 0 0), (.int 0 0), (.int 3 0), (.ref 403), (.bool true), (.int 181 0), (.ref 404), .none, (.ref 405), (.ref 406), (.ref 407), (.int 746 0), (.int 255 0), (.str "/claim/cut.py" 747)]), #[]⟩
noncomputable abbrev qo_664 : Params → Obj := fun P => ⟨(.type "tuple"), none, (.seq #[(.str "bag" 794), (.str "way" 795), (.str "told" 796), (.str "number" 797)] 0), #[]⟩
noncomputable abbrev qo_619 : Params → Obj := fun P => ⟨.none, none, (.fields #[(.int 1 0), (.int 0 0), (.ref 20), (.int 11 0), (.int 0 0), (.ref 29), (.int 16 0), (.int 0 0), (.ref 36), (.int 22 0), (.int 0 0), (.ref 44), (.int 32 0), (.int 0 0), (.ref 51), (.int 34 0), (.int 0 0), (.ref 58), (.int 36 0), (.int 0 0), (.ref 65), (.int 40 0), (.int 0 0), (.ref 72), (.int 47 0), (.int 0 0), (.ref 79), (.int 52 0), (.int 0 0), (.ref 86), (.int 65 0), (.int 0 0), (.ref 93), (.int 74 0), (.int 0 0), (.ref 101), (.int 91 0), (.int 0 0), (.ref 108), (.int 99 0), (.int 0 0), (.ref 113), (.int 104 0), (.int 0 0), (.ref 120), (.int 112 0), (.int 0 0), (.ref 127), (.int 118 0), (.int 0 0), (.ref 134), (.int 120 0), (.int 0 0), (.ref 139), (.int 124 0), (.int 0 0), (.ref 144), (.int 126 0), (.int 0 0), (.ref 151), (.int 133 0), (.int 0 0), (.ref 158), (.int 138 0), (.int 0 0), (.ref 178), (.int 142 0), (.int 0 0), (.ref 191), (.int 154 0), (.int 0 0), (.ref 212), (.int 251 0), (.int 0 0), (.ref 401), (.int 255 0), (.int 0 0), (.ref 408), (.int 262 0), (.int 0 0), (.ref 415), (.int 264 0), (.int 0 0), (.ref 422), (.int 266 0), (.int 0 0), (.ref 429), (.int 272 0), (.int 0 0), (.ref 436), (.int 286 0), (.int 0 0), (.ref 443), (.int 295 0), (.int 0 0), (.ref 448), (.int 301 0), (.int 0 0), (.ref 453)]), #[]⟩
noncomputable abbrev qo_676 : Params → Obj := fun _ => fnO 45 rfl .none "law" "law" 0 [] .none .none .none .none none .none .none 0
noncomputable abbrev qo_644 : Params → Obj := fun P => ⟨(.type "tuple"), none, (.seq #[] 0), #[]⟩
noncomputable abbrev qo_628 : Params → Obj := fun P => ⟨.none, none, (.fields #[]), #[]⟩
noncomputable abbrev qo_660 : Params → Obj := fun P => ⟨(.type "code"), none, (.fields #[(.str "_law_nodes" 774), (.str "_law_nodes" 775), (.str "/claim/cut.py" 776), (.int 272 0), (.int 2 0), (.int 0 0), (.int 0 0), (.int 3 0), (.ref 431), (.bool true), (.int 181 0), (.ref 432), .none, (.ref 433), (.ref 434), (.ref 435), (.int 788 0), (.int 272 0), (.str "/claim/cut.py" 789)]), #[]⟩
noncomputable abbrev qo_620 : Params → Obj := fun P => ⟨(.type "tuple"), none, (.seq #[] 0), #[]⟩
noncomputable abbrev qo_652 : Params → Obj := fun _ => fnO 41 rfl .none "_law_numbered" "_law_numbered" 0 [] .none .none .none .none none .none .none 0
noncomputable abbrev qo_636 : Params → Obj := fun P => ⟨(.type "tuple"), none, (.seq #[(.str "bag" 752), (.str "things" 753)] 0), #[]⟩
noncomputable abbrev qo_668 : Params → Obj := fun _ => fnO 43 rfl (.type "function") "_law_plain" "_law_plain" 3 [] .none .none .none (.str "law_xm0671_01" 729) none (.ref 443) .none 0
noncomputable abbrev qo_674 : Params → Obj := fun P => ⟨(.type "tuple"), none, (.seq #[] 0), #[]⟩
noncomputable abbrev qo_642 : Params → Obj := fun P => ⟨.none, none, (.fields #[]), #[]⟩
noncomputable abbrev qo_626 : Params → Obj := fun _ => fnO 37 rfl (.type "function") "_law_bag" "_law_bag" 3 [] .none .none .none (.str "law_xm0671_01" 729) none (.ref 401) .none 0
noncomputable abbrev qo_658 : Params → Obj := fun P => ⟨(.type "tuple"), none, (.seq #[] 0), #[]⟩
noncomputable abbrev qo_650 : Params → Obj := fun P => ⟨(.type "tuple"), none, (.seq #[(.str "text" 767), (.str "known" 768), (.str "told" 769), (.str "number" 770)] 0), #[]⟩
noncomputable abbrev qo_634 : Params → Obj := fun P => ⟨(.type "tuple"), none, (.seq #[] 0), #[]⟩
noncomputable abbrev qo_666 : Params → Obj := fun _ => fnO 43 rfl .none "_law_plain" "_law_plain" 0 [] .none .none .none .none none .none .none 0
noncomputable abbrev qo_678 : Params → Obj := fun _ => fnO 45 rfl (.type "function") "law" "law" 3 [] .none .none .none (.str "law_xm0671_01" 729) none (.ref 453) .none 0
noncomputable abbrev qo_646 : Params → Obj := fun P => ⟨(.type "code"), none, (.fields #[(.str "_law_word" 757), (.str "_law_word" 758), (.str "/claim/cut.py" 759), (.int 264 0), (.int 1 0), (.int 0 0), (.int 0 0), (.int 3 0), (.ref 417), (.bool true), (.int 181 0), (.ref 418), .none, (.ref 419), (.ref 420), (.ref 421), (.int 761 0), (.int 264 0), (.str "/claim/cut.py" 762)]), #[]⟩
noncomputable abbrev qo_630 : Params → Obj := fun P => ⟨(.type "tuple"), none, (.seq #[] 0), #[]⟩
noncomputable abbrev qo_662 : Params → Obj := fun P => ⟨(.type "tuple"), none, (.seq #[] 0), #[]⟩
noncomputable abbrev qo_622 : Params → Obj := fun P => ⟨(.type "tuple"), none, (.seq #[(.str "script" 734), (.str "cell" 735), (.str "size" 736)] 0), #[]⟩
noncomputable abbrev qo_654 : Params → Obj := fun _ => fnO 41 rfl (.type "function") "_law_numbered" "_law_numbered" 3 [] .none .none .none (.str "law_xm0671_01" 729) none (.ref 429) .none 0
noncomputable abbrev qo_638 : Params → Obj := fun _ => fnO 39 rfl .none "_law_one" "_law_one" 0 [] .none .none .none .none none .none .none 0
noncomputable abbrev qo_670 : Params → Obj := fun P => ⟨.none, none, (.fields #[]), #[]⟩
noncomputable def qheap_46 : Params → Heap := fun P => ⟨⟨[(PySem.W.boot_o_0 P), (PySem.W.boot_o_1 P), (PySem.W.boot_o_2 P), (PySem.W.boot_o_3 P), (PySem.W.boot_o_4 P), (PySem.W.boot_o_5 P), (PySem.W.boot_o_6 P), (PySem.W.boot_o_7 P), (PySem.W.boot_o_8 P), (PySem.W.boot_o_9 P), (PySem.W.boot_o_10 P), (qo_43 P), (qo_44 P), (qo_45 P), (qo_46 P)]⟩, ⟨[], [], [], 0, [], [], false, #[], [], 0, false, false, false, 0, [2000, 10, 10], false, 0, true, [], [], 0, false⟩⟩
noncomputable def qtree_47 : Params → BT := fun P => (.node (PySem.W.boot_o_0 P) (.node (PySem.W.boot_o_1 P) (.node (PySem.W.boot_o_3 P) (.node (PySem.W.boot_o_7 P) .nil .nil) (.node (qo_43 P) .nil .nil)) (.node (PySem.W.boot_o_5 P) (.node (PySem.W.boot_o_9 P) .nil .nil) (.node (qo_45 P) .nil .nil))) (.node (PySem.W.boot_o_2 P) (.node (PySem.W.boot_o_4 P) (.node (PySem.W.boot_o_8 P) .nil .nil) (.node (qo_44 P) .nil .nil)) (.node (PySem.W.boot_o_6 P) (.node (PySem.W.boot_o_10 P) .nil .nil) (.node (qo_46 P) .nil .nil))))
noncomputable def qtree_190 : Params → BT := fun P => (.node (PySem.W.boot_o_0 P) (.node (PySem.W.boot_o_1 P) (.node (qo_124 P) (.node (PySem.W.boot_o_7 P) (.node (qo_51 P) (.node (qo_67 P) (.node (qo_99 P) (.node (qo_165 P) .nil .nil) .nil) (.node (qo_133 P) .nil .nil)) (.node (qo_83 P) (.node (qo_115 P) (.node (qo_181 P) .nil .nil) .nil) (.node (qo_149 P) .nil .nil))) (.node (qo_59 P) (.node (qo_75 P) (.node (qo_107 P) (.node (qo_173 P) .nil .nil) .nil) (.node (qo_141 P) .nil .nil)) (.node (qo_91 P) (.node (qo_123 P) (.node (qo_189 P) .nil .nil) .nil) (.node (qo_157 P) .nil .nil)))) (.node (qo_43 P) (.node (qo_55 P) (.node (qo_71 P) (.node (qo_103 P) (.node (qo_169 P) .nil .nil) .nil) (.node (qo_137 P) .nil .nil)) (.node (qo_87 P) (.node (qo_119 P) (.node (qo_185 P) .nil .nil) .nil) (.node (qo_153 P) .nil .nil))) (.node (qo_63 P) (.node (qo_79 P) (.node (qo_111 P) (.node (qo_177 P) .nil .nil) .nil) (.node (qo_145 P) .nil .nil)) (.node (qo_95 P) (.node (qo_129 P) .nil .nil) (.node (qo_161 P) .nil .nil))))) (.node (PySem.W.boot_o_5 P) (.node (PySem.W.boot_o_9 P) (.node (qo_53 P) (.node (qo_69 P) (.node (qo_101 P) (.node (qo_167 P) .nil .nil) .nil) (.node (qo_135 P) .nil .nil)) (.node (qo_85 P) (.node (qo_117 P) (.node (qo_183 P) .nil .nil) .nil) (.node (qo_151 P) .nil .nil))) (.node (qo_61 P) (.node (qo_77 P) (.node (qo_109 P) (.node (qo_175 P) .nil .nil) .nil) (.node (qo_143 P) .nil .nil)) (.node (qo_93 P) (.node (qo_127 P) .nil .nil) (.node (qo_159 P) .nil .nil)))) (.node (qo_45 P) (.node (qo_57 P) (.node (qo_73 P) (.node (qo_105 P) (.node (qo_171 P) .nil .nil) .nil) (.node (qo_139 P) .nil .nil)) (.node (qo_89 P) (.node (qo_121 P) (.node (qo_187 P) .nil .nil) .nil) (.node (qo_155 P) .nil .nil))) (.node (qo_65 P) (.node (qo_81 P) (.node (qo_113 P) (.node (qo_179 P) .nil .nil) .nil) (.node (qo_147 P) .nil .nil)) (.node (qo_97 P) (.node (qo_131 P) .nil .nil) (.node (qo_163 P) .nil .nil)))))) (.node (PySem.W.boot_o_2 P) (.node (PySem.W.boot_o_4 P) (.node (PySem.W.boot_o_8 P) (.node (qo_52 P) (.node (qo_68 P) (.node (qo_100 P) (.node (qo_166 P) .nil .nil) .nil) (.node (qo_134 P) .nil .nil)) (.node (qo_84 P) (.node (qo_116 P) (.node (qo_182 P) .nil .nil) .nil) (.node (qo_150 P) .nil .nil))) (.node (qo_60 P) (.node (qo_76 P) (.node (qo_108 P) (.node (qo_174 P) .nil .nil) .nil) (.node (qo_142 P) .nil .nil)) (.node (qo_92 P) (.node (qo_126 P) (.node (qo_190 P) .nil .nil) .nil) (.node (qo_158 P) .nil .nil)))) (.node (qo_125 P) (.node (qo_56 P) (.node (qo_72 P) (.node (qo_104 P) (.node (qo_170 P) .nil .nil) .nil) (.node (qo_138 P) .nil .nil)) (.node (qo_88 P) (.node (qo_120 P) (.node (qo_186 P) .nil .nil) .nil) (.node (qo_154 P) .nil .nil))) (.node (qo_64 P) (.node (qo_80 P) (.node (qo_112 P) (.node (qo_178 P) .nil .nil) .nil) (.node (qo_146 P) .nil .nil)) (.node (qo_96 P) (.node (qo_130 P) .nil .nil) (.node (qo_162 P) .nil .nil))))) (.node (PySem.W.boot_o_6 P) (.node (PySem.W.boot_o_10 P) (.node (qo_54 P) (.node (qo_70 P) (.node (qo_102 P) (.node (qo_168 P) .nil .nil) .nil) (.node (qo_136 P) .nil .nil)) (.node (qo_86 P) (.node (qo_118 P) (.node (qo_184 P) .nil .nil) .nil) (.node (qo_152 P) .nil .nil))) (.node (qo_62 P) (.node (qo_78 P) (.node (qo_110 P) (.node (qo_176 P) .nil .nil) .nil) (.node (qo_144 P) .nil .nil)) (.node (qo_94 P) (.node (qo_128 P) .nil .nil) (.node (qo_160 P) .nil .nil)))) (.node (qo_46 P) (.node (qo_58 P) (.node (qo_74 P) (.node (qo_106 P) (.node (qo_172 P) .nil .nil) .nil) (.node (qo_140 P) .nil .nil)) (.node (qo_90 P) (.node (qo_122 P) (.node (qo_188 P) .nil .nil) .nil) (.node (qo_156 P) .nil .nil))) (.node (qo_66 P) (.node (qo_82 P) (.node (qo_114 P) (.node (qo_180 P) .nil .nil) .nil) (.node (qo_148 P) .nil .nil)) (.node (qo_98 P) (.node (qo_132 P) .nil .nil) (.node (qo_164 P) .nil .nil)))))))
noncomputable def qtree_252 : Params → BT := fun P => (.node (PySem.W.boot_o_0 P) (.node (PySem.W.boot_o_1 P) (.node (qo_230 P) (.node (PySem.W.boot_o_7 P) (.node (qo_51 P) (.node (qo_67 P) (.node (qo_99 P) (.node (qo_165 P) .nil .nil) (.node (qo_237 P) .nil .nil)) (.node (qo_133 P) (.node (qo_200 P) .nil .nil) .nil)) (.node (qo_83 P) (.node (qo_115 P) (.node (qo_181 P) .nil .nil) .nil) (.node (qo_149 P) (.node (qo_219 P) .nil .nil) .nil))) (.node (qo_59 P) (.node (qo_75 P) (.node (qo_107 P) (.node (qo_173 P) .nil .nil) (.node (qo_245 P) .nil .nil)) (.node (qo_141 P) (.node (qo_208 P) .nil .nil) .nil)) (.node (qo_91 P) (.node (qo_123 P) (.node (qo_189 P) .nil .nil) .nil) (.node (qo_157 P) (.node (qo_227 P) .nil .nil) .nil)))) (.node (qo_43 P) (.node (qo_55 P) (.node (qo_71 P) (.node (qo_103 P) (.node (qo_169 P) .nil .nil) (.node (qo_241 P) .nil .nil)) (.node (qo_137 P) (.node (qo_204 P) .nil .nil) .nil)) (.node (qo_87 P) (.node (qo_119 P) (.node (qo_185 P) .nil .nil) .nil) (.node (qo_153 P) (.node (qo_223 P) .nil .nil) .nil))) (.node (qo_63 P) (.node (qo_79 P) (.node (qo_111 P) (.node (qo_177 P) .nil .nil) (.node (qo_249 P) .nil .nil)) (.node (qo_145 P) (.node (qo_212 P) .nil .nil) .nil)) (.node (qo_95 P) (.node (qo_129 P) (.node (qo_196 P) .nil .nil) .nil) (.node (qo_161 P) (.node (qo_233 P) .nil .nil) .nil))))) (.node (PySem.W.boot_o_5 P) (.node (PySem.W.boot_o_9 P) (.node (qo_53 P) (.node (qo_69 P) (.node (qo_101 P) (.node (qo_167 P) .nil .nil) (.node (qo_239 P) .nil .nil)) (.node (qo_135 P) (.node (qo_202 P) .nil .nil) .nil)) (.node (qo_85 P) (.node (qo_117 P) (.node (qo_183 P) .nil .nil) .nil) (.node (qo_151 P) (.node (qo_221 P) .nil .nil) .nil))) (.node (qo_61 P) (.node (qo_77 P) (.node (qo_109 P) (.node (qo_175 P) .nil .nil) (.node (qo_247 P) .nil .nil)) (.node (qo_143 P) (.node (qo_216 P) .nil .nil) .nil)) (.node (qo_93 P) (.node (qo_127 P) (.node (qo_194 P) .nil .nil) .nil) (.node (qo_159 P) (.node (qo_229 P) .nil .nil) .nil)))) (.node (qo_45 P) (.node (qo_57 P) (.node (qo_73 P) (.node (qo_105 P) (.node (qo_171 P) .nil .nil) (.node (qo_243 P) .nil .nil)) (.node (qo_139 P) (.node (qo_206 P) .nil .nil) .nil)) (.node (qo_89 P) (.node (qo_121 P) (.node (qo_187 P) .nil .nil) .nil) (.node (qo_155 P) (.node (qo_225 P) .nil .nil) .nil))) (.node (qo_65 P) (.node (qo_81 P) (.node (qo_113 P) (.node (qo_179 P) .nil .nil) (.node (qo_251 P) .nil .nil)) (.node (qo_147 P) (.node (qo_217 P) .nil .nil) .nil)) (.node (qo_97 P) (.node (qo_131 P) (.node (qo_198 P) .nil .nil) .nil) (.node (qo_163 P) (.node (qo_235 P) .nil .nil) .nil)))))) (.node (qo_191 P) (.node (PySem.W.boot_o_4 P) (.node (PySem.W.boot_o_8 P) (.node (qo_52 P) (.node (qo_68 P) (.node (qo_100 P) (.node (qo_166 P) .nil .nil) (.node (qo_238 P) .nil .nil)) (.node (qo_134 P) (.node (qo_201 P) .nil .nil) .nil)) (.node (qo_84 P) (.node (qo_116 P) (.node (qo_182 P) .nil .nil) .nil) (.node (qo_150 P) (.node (qo_220 P) .nil .nil) .nil))) (.node (qo_60 P) (.node (qo_76 P) (.node (qo_108 P) (.node (qo_174 P) .nil .nil) (.node (qo_246 P) .nil .nil)) (.node (qo_142 P) (.node (qo_209 P) .nil .nil) .nil)) (.node (qo_92 P) (.node (qo_126 P) (.node (qo_190 P) .nil .nil) .nil) (.node (qo_158 P) (.node (qo_228 P) .nil .nil) .nil)))) (.node (qo_231 P) (.node (qo_56 P) (.node (qo_72 P) (.node (qo_104 P) (.node (qo_170 P) .nil .nil) (.node (qo_242 P) .nil .nil)) (.node (qo_138 P) (.node (qo_205 P) .nil .nil) .nil)) (.node (qo_88 P) (.node (qo_120 P) (.node (qo_186 P) .nil .nil) .nil) (.node (qo_154 P) (.node (qo_224 P) .nil .nil) .nil))) (.node (qo_64 P) (.node (qo_80 P) (.node (qo_112 P) (.node (qo_178 P) .nil .nil) (.node (qo_250 P) .nil .nil)) (.node (qo_146 P) (.node (qo_213 P) .nil .nil) .nil)) (.node (qo_96 P) (.node (qo_130 P) (.node (qo_197 P) .nil .nil) .nil) (.node (qo_162 P) (.node (qo_234 P) .nil .nil) .nil))))) (.node (PySem.W.boot_o_6 P) (.node (PySem.W.boot_o_10 P) (.node (qo_54 P) (.node (qo_70 P) (.node (qo_102 P) (.node (qo_168 P) .nil .nil) (.node (qo_240 P) .nil .nil)) (.node (qo_136 P) (.node (qo_203 P) .nil .nil) .nil)) (.node (qo_86 P) (.node (qo_118 P) (.node (qo_184 P) .nil .nil) .nil) (.node (qo_152 P) (.node (qo_222 P) .nil .nil) .nil))) (.node (qo_62 P) (.node (qo_78 P) (.node (qo_110 P) (.node (qo_176 P) .nil .nil) (.node (qo_248 P) .nil .nil)) (.node (qo_144 P) (.node (qo_211 P) .nil .nil) .nil)) (.node (qo_94 P) (.node (qo_128 P) (.node (qo_195 P) .nil .nil) .nil) (.node (qo_160 P) (.node (qo_232 P) .nil .nil) .nil)))) (.node (qo_46 P) (.node (qo_58 P) (.node (qo_74 P) (.node (qo_106 P) (.node (qo_172 P) .nil .nil) (.node (qo_244 P) .nil .nil)) (.node (qo_140 P) (.node (qo_207 P) .nil .nil) .nil)) (.node (qo_90 P) (.node (qo_122 P) (.node (qo_188 P) .nil .nil) .nil) (.node (qo_156 P) (.node (qo_226 P) .nil .nil) .nil))) (.node (qo_66 P) (.node (qo_82 P) (.node (qo_114 P) (.node (qo_180 P) .nil .nil) (.node (qo_252 P) .nil .nil)) (.node (qo_148 P) (.node (qo_218 P) .nil .nil) .nil)) (.node (qo_98 P) (.node (qo_132 P) (.node (qo_199 P) .nil .nil) .nil) (.node (qo_164 P) (.node (qo_236 P) .nil .nil) .nil)))))))
noncomputable def qtree_443 : Params → BT := fun P => (.node (PySem.W.boot_o_0 P) (.node (PySem.W.boot_o_1 P) (.node (qo_253 P) (.node (PySem.W.boot_o_7 P) (.node (qo_51 P) (.node (qo_67 P) (.node (qo_99 P) (.node (qo_165 P) (.node (qo_303 P) .nil .nil) (.node (qo_431 P) .nil .nil)) (.node (qo_237 P) (.node (qo_367 P) .nil .nil) .nil)) (.node (qo_133 P) (.node (qo_200 P) (.node (qo_335 P) .nil .nil) .nil) (.node (qo_271 P) (.node (qo_399 P) .nil .nil) .nil))) (.node (qo_83 P) (.node (qo_115 P) (.node (qo_181 P) (.node (qo_319 P) .nil .nil) .nil) (.node (qo_255 P) (.node (qo_383 P) .nil .nil) .nil)) (.node (qo_149 P) (.node (qo_219 P) (.node (qo_351 P) .nil .nil) .nil) (.node (qo_287 P) (.node (qo_415 P) .nil .nil) .nil)))) (.node (qo_59 P) (.node (qo_75 P) (.node (qo_107 P) (.node (qo_173 P) (.node (qo_311 P) .nil .nil) (.node (qo_439 P) .nil .nil)) (.node (qo_245 P) (.node (qo_375 P) .nil .nil) .nil)) (.node (qo_141 P) (.node (qo_208 P) (.node (qo_343 P) .nil .nil) .nil) (.node (qo_279 P) (.node (qo_407 P) .nil .nil) .nil))) (.node (qo_91 P) (.node (qo_123 P) (.node (qo_189 P) (.node (qo_327 P) .nil .nil) .nil) (.node (qo_263 P) (.node (qo_391 P) .nil .nil) .nil)) (.node (qo_157 P) (.node (qo_227 P) (.node (qo_359 P) .nil .nil) .nil) (.node (qo_295 P) (.node (qo_423 P) .nil .nil) .nil))))) (.node (qo_43 P) (.node (qo_55 P) (.node (qo_71 P) (.node (qo_103 P) (.node (qo_169 P) (.node (qo_307 P) .nil .nil) (.node (qo_435 P) .nil .nil)) (.node (qo_241 P) (.node (qo_371 P) .nil .nil) .nil)) (.node (qo_137 P) (.node (qo_204 P) (.node (qo_339 P) .nil .nil) .nil) (.node (qo_275 P) (.node (qo_403 P) .nil .nil) .nil))) (.node (qo_87 P) (.node (qo_119 P) (.node (qo_185 P) (.node (qo_323 P) .nil .nil) .nil) (.node (qo_259 P) (.node (qo_387 P) .nil .nil) .nil)) (.node (qo_153 P) (.node (qo_223 P) (.node (qo_355 P) .nil .nil) .nil) (.node (qo_291 P) (.node (qo_419 P) .nil .nil) .nil)))) (.node (qo_63 P) (.node (qo_79 P) (.node (qo_111 P) (.node (qo_177 P) (.node (qo_315 P) .nil .nil) (.node (qo_443 P) .nil .nil)) (.node (qo_249 P) (.node (qo_379 P) .nil .nil) .nil)) (.node (qo_145 P) (.node (qo_212 P) (.node (qo_347 P) .nil .nil) .nil) (.node (qo_283 P) (.node (qo_411 P) .nil .nil) .nil))) (.node (qo_95 P) (.node (qo_129 P) (.node (qo_196 P) (.node (qo_331 P) .nil .nil) .nil) (.node (qo_267 P) (.node (qo_395 P) .nil .nil) .nil)) (.node (qo_161 P) (.node (qo_233 P) (.node (qo_363 P) .nil .nil) .nil) (.node (qo_299 P) (.node (qo_427 P) .nil .nil) .nil)))))) (.node (PySem.W.boot_o_5 P) (.node (PySem.W.boot_o_9 P) (.node (qo_53 P) (.node (qo_69 P) (.node (qo_101 P) (.node (qo_167 P) (.node (qo_305 P) .nil .nil) (.node (qo_433 P) .nil .nil)) (.node (qo_239 P) (.node (qo_369 P) .nil .nil) .nil)) (.node (qo_135 P) (.node (qo_202 P) (.node (qo_337 P) .nil .nil) .nil) (.node (qo_273 P) (.node (qo_401 P) .nil .nil) .nil))) (.node (qo_85 P) (.node (qo_117 P) (.node (qo_183 P) (.node (qo_321 P) .nil .nil) .nil) (.node (qo_257 P) (.node (qo_385 P) .nil .nil) .nil)) (.node (qo_151 P) (.node (qo_221 P) (.node (qo_353 P) .nil .nil) .nil) (.node (qo_289 P) (.node (qo_417 P) .nil .nil) .nil)))) (.node (qo_61 P) (.node (qo_77 P) (.node (qo_109 P) (.node (qo_175 P) (.node (qo_313 P) .nil .nil) (.node (qo_441 P) .nil .nil)) (.node (qo_247 P) (.node (qo_377 P) .nil .nil) .nil)) (.node (qo_143 P) (.node (qo_216 P) (.node (qo_345 P) .nil .nil) .nil) (.node (qo_281 P) (.node (qo_409 P) .nil .nil) .nil))) (.node (qo_93 P) (.node (qo_127 P) (.node (qo_194 P) (.node (qo_329 P) .nil .nil) .nil) (.node (qo_265 P) (.node (qo_393 P) .nil .nil) .nil)) (.node (qo_159 P) (.node (qo_229 P) (.node (qo_361 P) .nil .nil) .nil) (.node (qo_297 P) (.node (qo_425 P) .nil .nil) .nil))))) (.node (qo_45 P) (.node (qo_57 P) (.node (qo_73 P) (.node (qo_105 P) (.node (qo_171 P) (.node (qo_309 P) .nil .nil) (.node (qo_437 P) .nil .nil)) (.node (qo_243 P) (.node (qo_373 P) .nil .nil) .nil)) (.node (qo_139 P) (.node (qo_206 P) (.node (qo_341 P) .nil .nil) .nil) (.node (qo_277 P) (.node (qo_405 P) .nil .nil) .nil))) (.node (qo_89 P) (.node (qo_121 P) (.node (qo_187 P) (.node (qo_325 P) .nil .nil) .nil) (.node (qo_261 P) (.node (qo_389 P) .nil .nil) .nil)) (.node (qo_155 P) (.node (qo_225 P) (.node (qo_357 P) .nil .nil) .nil) (.node (qo_293 P) (.node (qo_421 P) .nil .nil) .nil)))) (.node (qo_65 P) (.node (qo_81 P) (.node (qo_113 P) (.node (qo_179 P) (.node (qo_317 P) .nil .nil) .nil) (.node (qo_251 P) (.node (qo_381 P) .nil .nil) .nil)) (.node (qo_147 P) (.node (qo_217 P) (.node (qo_349 P) .nil .nil) .nil) (.node (qo_285 P) (.node (qo_413 P) .nil .nil) .nil))) (.node (qo_97 P) (.node (qo_131 P) (.node (qo_198 P) (.node (qo_333 P) .nil .nil) .nil) (.node (qo_269 P) (.node (qo_397 P) .nil .nil) .nil)) (.node (qo_163 P) (.node (qo_235 P) (.node (qo_365 P) .nil .nil) .nil) (.node (qo_301 P) (.node (qo_429 P) .nil .nil) .nil))))))) (.node (qo_191 P) (.node (PySem.W.boot_o_4 P) (.node (PySem.W.boot_o_8 P) (.node (qo_52 P) (.node (qo_68 P) (.node (qo_100 P) (.node (qo_166 P) (.node (qo_304 P) .nil .nil) (.node (qo_432 P) .nil .nil)) (.node (qo_238 P) (.node (qo_368 P) .nil .nil) .nil)) (.node (qo_134 P) (.node (qo_201 P) (.node (qo_336 P) .nil .nil) .nil) (.node (qo_272 P) (.node (qo_400 P) .nil .nil) .nil))) (.node (qo_84 P) (.node (qo_116 P) (.node (qo_182 P) (.node (qo_320 P) .nil .nil) .nil) (.node (qo_256 P) (.node (qo_384 P) .nil .nil) .nil)) (.node (qo_150 P) (.node (qo_220 P) (.node (qo_352 P) .nil .nil) .nil) (.node (qo_288 P) (.node (qo_416 P) .nil .nil) .nil)))) (.node (qo_60 P) (.node (qo_76 P) (.node (qo_108 P) (.node (qo_174 P) (.node (qo_312 P) .nil .nil) (.node (qo_440 P) .nil .nil)) (.node (qo_246 P) (.node (qo_376 P) .nil .nil) .nil)) (.node (qo_142 P) (.node (qo_209 P) (.node (qo_344 P) .nil .nil) .nil) (.node (qo_280 P) (.node (qo_408 P) .nil .nil) .nil))) (.node (qo_92 P) (.node (qo_126 P) (.node (qo_190 P) (.node (qo_328 P) .nil .nil) .nil) (.node (qo_264 P) (.node (qo_392 P) .nil .nil) .nil)) (.node (qo_158 P) (.node (qo_228 P) (.node (qo_360 P) .nil .nil) .nil) (.node (qo_296 P) (.node (qo_424 P) .nil .nil) .nil))))) (.node (qo_254 P) (.node (qo_56 P) (.node (qo_72 P) (.node (qo_104 P) (.node (qo_170 P) (.node (qo_308 P) .nil .nil) (.node (qo_436 P) .nil .nil)) (.node (qo_242 P) (.node (qo_372 P) .nil .nil) .nil)) (.node (qo_138 P) (.node (qo_205 P) (.node (qo_340 P) .nil .nil) .nil) (.node (qo_276 P) (.node (qo_404 P) .nil .nil) .nil))) (.node (qo_88 P) (.node (qo_120 P) (.node (qo_186 P) (.node (qo_324 P) .nil .nil) .nil) (.node (qo_260 P) (.node (qo_388 P) .nil .nil) .nil)) (.node (qo_154 P) (.node (qo_224 P) (.node (qo_356 P) .nil .nil) .nil) (.node (qo_292 P) (.node (qo_420 P) .nil .nil) .nil)))) (.node (qo_64 P) (.node (qo_80 P) (.node (qo_112 P) (.node (qo_178 P) (.node (qo_316 P) .nil .nil) .nil) (.node (qo_250 P) (.node (qo_380 P) .nil .nil) .nil)) (.node (qo_146 P) (.node (qo_213 P) (.node (qo_348 P) .nil .nil) .nil) (.node (qo_284 P) (.node (qo_412 P) .nil .nil) .nil))) (.node (qo_96 P) (.node (qo_130 P) (.node (qo_197 P) (.node (qo_332 P) .nil .nil) .nil) (.node (qo_268 P) (.node (qo_396 P) .nil .nil) .nil)) (.node (qo_162 P) (.node (qo_234 P) (.node (qo_364 P) .nil .nil) .nil) (.node (qo_300 P) (.node (qo_428 P) .nil .nil) .nil)))))) (.node (PySem.W.boot_o_6 P) (.node (PySem.W.boot_o_10 P) (.node (qo_54 P) (.node (qo_70 P) (.node (qo_102 P) (.node (qo_168 P) (.node (qo_306 P) .nil .nil) (.node (qo_434 P) .nil .nil)) (.node (qo_240 P) (.node (qo_370 P) .nil .nil) .nil)) (.node (qo_136 P) (.node (qo_203 P) (.node (qo_338 P) .nil .nil) .nil) (.node (qo_274 P) (.node (qo_402 P) .nil .nil) .nil))) (.node (qo_86 P) (.node (qo_118 P) (.node (qo_184 P) (.node (qo_322 P) .nil .nil) .nil) (.node (qo_258 P) (.node (qo_386 P) .nil .nil) .nil)) (.node (qo_152 P) (.node (qo_222 P) (.node (qo_354 P) .nil .nil) .nil) (.node (qo_290 P) (.node (qo_418 P) .nil .nil) .nil)))) (.node (qo_62 P) (.node (qo_78 P) (.node (qo_110 P) (.node (qo_176 P) (.node (qo_314 P) .nil .nil) (.node (qo_442 P) .nil .nil)) (.node (qo_248 P) (.node (qo_378 P) .nil .nil) .nil)) (.node (qo_144 P) (.node (qo_211 P) (.node (qo_346 P) .nil .nil) .nil) (.node (qo_282 P) (.node (qo_410 P) .nil .nil) .nil))) (.node (qo_94 P) (.node (qo_128 P) (.node (qo_195 P) (.node (qo_330 P) .nil .nil) .nil) (.node (qo_266 P) (.node (qo_394 P) .nil .nil) .nil)) (.node (qo_160 P) (.node (qo_232 P) (.node (qo_362 P) .nil .nil) .nil) (.node (qo_298 P) (.node (qo_426 P) .nil .nil) .nil))))) (.node (qo_46 P) (.node (qo_58 P) (.node (qo_74 P) (.node (qo_106 P) (.node (qo_172 P) (.node (qo_310 P) .nil .nil) (.node (qo_438 P) .nil .nil)) (.node (qo_244 P) (.node (qo_374 P) .nil .nil) .nil)) (.node (qo_140 P) (.node (qo_207 P) (.node (qo_342 P) .nil .nil) .nil) (.node (qo_278 P) (.node (qo_406 P) .nil .nil) .nil))) (.node (qo_90 P) (.node (qo_122 P) (.node (qo_188 P) (.node (qo_326 P) .nil .nil) .nil) (.node (qo_262 P) (.node (qo_390 P) .nil .nil) .nil)) (.node (qo_156 P) (.node (qo_226 P) (.node (qo_358 P) .nil .nil) .nil) (.node (qo_294 P) (.node (qo_422 P) .nil .nil) .nil)))) (.node (qo_66 P) (.node (qo_82 P) (.node (qo_114 P) (.node (qo_180 P) (.node (qo_318 P) .nil .nil) .nil) (.node (qo_252 P) (.node (qo_382 P) .nil .nil) .nil)) (.node (qo_148 P) (.node (qo_218 P) (.node (qo_350 P) .nil .nil) .nil) (.node (qo_286 P) (.node (qo_414 P) .nil .nil) .nil))) (.node (qo_98 P) (.node (qo_132 P) (.node (qo_199 P) (.node (qo_334 P) .nil .nil) .nil) (.node (qo_270 P) (.node (qo_398 P) .nil .nil) .nil)) (.node (qo_164 P) (.node (qo_236 P) (.node (qo_366 P) .nil .nil) .nil) (.node (qo_302 P) (.node (qo_430 P) .nil .nil) .nil))))))))
noncomputable def qtree_678 : Params → BT := fun P => (.node (PySem.W.boot_o_0 P) (.node (PySem.W.boot_o_1 P) (.node (qo_618 P) (.node (PySem.W.boot_o_7 P) (.node (qo_51 P) (.node (qo_67 P) (.node (qo_99 P) (.node (qo_165 P) (.node (qo_303 P) .nil .nil) (.node (qo_431 P) .nil .nil)) (.node (qo_237 P) (.node (qo_367 P) .nil .nil) (.node (qo_671 P) .nil .nil))) (.node (qo_133 P) (.node (qo_200 P) (.node (qo_335 P) .nil .nil) (.node (qo_639 P) .nil .nil)) (.node (qo_271 P) (.node (qo_399 P) .nil .nil) .nil))) (.node (qo_83 P) (.node (qo_115 P) (.node (qo_181 P) (.node (qo_319 P) .nil .nil) (.node (qo_623 P) .nil .nil)) (.node (qo_255 P) (.node (qo_383 P) .nil .nil) .nil)) (.node (qo_149 P) (.node (qo_219 P) (.node (qo_351 P) .nil .nil) (.node (qo_655 P) .nil .nil)) (.node (qo_287 P) (.node (qo_415 P) .nil .nil) .nil)))) (.node (qo_59 P) (.node (qo_75 P) (.node (qo_107 P) (.node (qo_173 P) (.node (qo_311 P) .nil .nil) (.node (qo_439 P) .nil .nil)) (.node (qo_245 P) (.node (qo_375 P) .nil .nil) .nil)) (.node (qo_141 P) (.node (qo_208 P) (.node (qo_343 P) .nil .nil) (.node (qo_647 P) .nil .nil)) (.node (qo_279 P) (.node (qo_407 P) .nil .nil) .nil))) (.node (qo_91 P) (.node (qo_123 P) (.node (qo_189 P) (.node (qo_327 P) .nil .nil) (.node (qo_631 P) .nil .nil)) (.node (qo_263 P) (.node (qo_391 P) .nil .nil) .nil)) (.node (qo_157 P) (.node (qo_227 P) (.node (qo_359 P) .nil .nil) (.node (qo_663 P) .nil .nil)) (.node (qo_295 P) (.node (qo_423 P) .nil .nil) .nil))))) (.node (qo_43 P) (.node (qo_55 P) (.node (qo_71 P) (.node (qo_103 P) (.node (qo_169 P) (.node (qo_307 P) .nil .nil) (.node (qo_435 P) .nil .nil)) (.node (qo_241 P) (.node (qo_371 P) .nil .nil) (.node (qo_675 P) .nil .nil))) (.node (qo_137 P) (.node (qo_204 P) (.node (qo_339 P) .nil .nil) (.node (qo_643 P) .nil .nil)) (.node (qo_275 P) (.node (qo_403 P) .nil .nil) .nil))) (.node (qo_87 P) (.node (qo_119 P) (.node (qo_185 P) (.node (qo_323 P) .nil .nil) (.node (qo_627 P) .nil .nil)) (.node (qo_259 P) (.node (qo_387 P) .nil .nil) .nil)) (.node (qo_153 P) (.node (qo_223 P) (.node (qo_355 P) .nil .nil) (.node (qo_659 P) .nil .nil)) (.node (qo_291 P) (.node (qo_419 P) .nil .nil) .nil)))) (.node (qo_63 P) (.node (qo_79 P) (.node (qo_111 P) (.node (qo_177 P) (.node (qo_315 P) .nil .nil) (.node (qo_443 P) .nil .nil)) (.node (qo_249 P) (.node (qo_379 P) .nil .nil) .nil)) (.node (qo_145 P) (.node (qo_212 P) (.node (qo_347 P) .nil .nil) (.node (qo_651 P) .nil .nil)) (.node (qo_283 P) (.node (qo_411 P) .nil .nil) .nil))) (.node (qo_95 P) (.node (qo_129 P) (.node (qo_196 P) (.node (qo_331 P) .nil .nil) (.node (qo_635 P) .nil .nil)) (.node (qo_267 P) (.node (qo_395 P) .nil .nil) .nil)) (.node (qo_161 P) (.node (qo_233 P) (.node (qo_363 P) .nil .nil) (.node (qo_667 P) .nil .nil)) (.node (qo_299 P) (.node (qo_427 P) .nil .nil) .nil)))))) (.node (PySem.W.boot_o_5 P) (.node (PySem.W.boot_o_9 P) (.node (qo_53 P) (.node (qo_69 P) (.node (qo_101 P) (.node (qo_167 P) (.node (qo_305 P) .nil .nil) (.node (qo_433 P) .nil .nil)) (.node (qo_239 P) (.node (qo_369 P) .nil .nil) (.node (qo_673 P) .nil .nil))) (.node (qo_135 P) (.node (qo_202 P) (.node (qo_337 P) .nil .nil) (.node (qo_641 P) .nil .nil)) (.node (qo_273 P) (.node (qo_401 P) .nil .nil) .nil))) (.node (qo_85 P) (.node (qo_117 P) (.node (qo_183 P) (.node (qo_321 P) .nil .nil) (.node (qo_625 P) .nil .nil)) (.node (qo_257 P) (.node (qo_385 P) .nil .nil) .nil)) (.node (qo_151 P) (.node (qo_221 P) (.node (qo_353 P) .nil .nil) (.node (qo_657 P) .nil .nil)) (.node (qo_289 P) (.node (qo_417 P) .nil .nil) .nil)))) (.node (qo_61 P) (.node (qo_77 P) (.node (qo_109 P) (.node (qo_175 P) (.node (qo_313 P) .nil .nil) (.node (qo_441 P) .nil .nil)) (.node (qo_247 P) (.node (qo_377 P) .nil .nil) .nil)) (.node (qo_143 P) (.node (qo_216 P) (.node (qo_345 P) .nil .nil) (.node (qo_649 P) .nil .nil)) (.node (qo_281 P) (.node (qo_409 P) .nil .nil) .nil))) (.node (qo_93 P) (.node (qo_127 P) (.node (qo_194 P) (.node (qo_329 P) .nil .nil) (.node (qo_633 P) .nil .nil)) (.node (qo_265 P) (.node (qo_393 P) .nil .nil) .nil)) (.node (qo_159 P) (.node (qo_229 P) (.node (qo_361 P) .nil .nil) (.node (qo_665 P) .nil .nil)) (.node (qo_297 P) (.node (qo_425 P) .nil .nil) .nil))))) (.node (qo_45 P) (.node (qo_57 P) (.node (qo_73 P) (.node (qo_105 P) (.node (qo_171 P) (.node (qo_309 P) .nil .nil) (.node (qo_437 P) .nil .nil)) (.node (qo_243 P) (.node (qo_373 P) .nil .nil) (.node (qo_677 P) .nil .nil))) (.node (qo_139 P) (.node (qo_206 P) (.node (qo_341 P) .nil .nil) (.node (qo_645 P) .nil .nil)) (.node (qo_277 P) (.node (qo_405 P) .nil .nil) .nil))) (.node (qo_89 P) (.node (qo_121 P) (.node (qo_187 P) (.node (qo_325 P) .nil .nil) (.node (qo_629 P) .nil .nil)) (.node (qo_261 P) (.node (qo_389 P) .nil .nil) .nil)) (.node (qo_155 P) (.node (qo_225 P) (.node (qo_357 P) .nil .nil) (.node (qo_661 P) .nil .nil)) (.node (qo_293 P) (.node (qo_421 P) .nil .nil) .nil)))) (.node (qo_65 P) (.node (qo_81 P) (.node (qo_113 P) (.node (qo_179 P) (.node (qo_317 P) .nil .nil) (.node (qo_621 P) .nil .nil)) (.node (qo_251 P) (.node (qo_381 P) .nil .nil) .nil)) (.node (qo_147 P) (.node (qo_217 P) (.node (qo_349 P) .nil .nil) (.node (qo_653 P) .nil .nil)) (.node (qo_285 P) (.node (qo_413 P) .nil .nil) .nil))) (.node (qo_97 P) (.node (qo_131 P) (.node (qo_198 P) (.node (qo_333 P) .nil .nil) (.node (qo_637 P) .nil .nil)) (.node (qo_269 P) (.node (qo_397 P) .nil .nil) .nil)) (.node (qo_163 P) (.node (qo_235 P) (.node (qo_365 P) .nil .nil) (.node (qo_669 P) .nil .nil)) (.node (qo_301 P) (.node (qo_429 P) .nil .nil) .nil))))))) (.node (qo_191 P) (.node (PySem.W.boot_o_4 P) (.node (PySem.W.boot_o_8 P) (.node (qo_52 P) (.node (qo_68 P) (.node (qo_100 P) (.node (qo_166 P) (.node (qo_304 P) .nil .nil) (.node (qo_432 P) .nil .nil)) (.node (qo_238 P) (.node (qo_368 P) .nil .nil) (.node (qo_672 P) .nil .nil))) (.node (qo_134 P) (.node (qo_201 P) (.node (qo_336 P) .nil .nil) (.node (qo_640 P) .nil .nil)) (.node (qo_272 P) (.node (qo_400 P) .nil .nil) .nil))) (.node (qo_84 P) (.node (qo_116 P) (.node (qo_182 P) (.node (qo_320 P) .nil .nil) (.node (qo_624 P) .nil .nil)) (.node (qo_256 P) (.node (qo_384 P) .nil .nil) .nil)) (.node (qo_150 P) (.node (qo_220 P) (.node (qo_352 P) .nil .nil) (.node (qo_656 P) .nil .nil)) (.node (qo_288 P) (.node (qo_416 P) .nil .nil) .nil)))) (.node (qo_60 P) (.node (qo_76 P) (.node (qo_108 P) (.node (qo_174 P) (.node (qo_312 P) .nil .nil) (.node (qo_440 P) .nil .nil)) (.node (qo_246 P) (.node (qo_376 P) .nil .nil) .nil)) (.node (qo_142 P) (.node (qo_209 P) (.node (qo_344 P) .nil .nil) (.node (qo_648 P) .nil .nil)) (.node (qo_280 P) (.node (qo_408 P) .nil .nil) .nil))) (.node (qo_92 P) (.node (qo_126 P) (.node (qo_190 P) (.node (qo_328 P) .nil .nil) (.node (qo_632 P) .nil .nil)) (.node (qo_264 P) (.node (qo_392 P) .nil .nil) .nil)) (.node (qo_158 P) (.node (qo_228 P) (.node (qo_360 P) .nil .nil) (.node (qo_664 P) .nil .nil)) (.node (qo_296 P) (.node (qo_424 P) .nil .nil) .nil))))) (.node (qo_619 P) (.node (qo_56 P) (.node (qo_72 P) (.node (qo_104 P) (.node (qo_170 P) (.node (qo_308 P) .nil .nil) (.node (qo_436 P) .nil .nil)) (.node (qo_242 P) (.node (qo_372 P) .nil .nil) (.node (qo_676 P) .nil .nil))) (.node (qo_138 P) (.node (qo_205 P) (.node (qo_340 P) .nil .nil) (.node (qo_644 P) .nil .nil)) (.node (qo_276 P) (.node (qo_404 P) .nil .nil) .nil))) (.node (qo_88 P) (.node (qo_120 P) (.node (qo_186 P) (.node (qo_324 P) .nil .nil) (.node (qo_628 P) .nil .nil)) (.node (qo_260 P) (.node (qo_388 P) .nil .nil) .nil)) (.node (qo_154 P) (.node (qo_224 P) (.node (qo_356 P) .nil .nil) (.node (qo_660 P) .nil .nil)) (.node (qo_292 P) (.node (qo_420 P) .nil .nil) .nil)))) (.node (qo_64 P) (.node (qo_80 P) (.node (qo_112 P) (.node (qo_178 P) (.node (qo_316 P) .nil .nil) (.node (qo_620 P) .nil .nil)) (.node (qo_250 P) (.node (qo_380 P) .nil .nil) .nil)) (.node (qo_146 P) (.node (qo_213 P) (.node (qo_348 P) .nil .nil) (.node (qo_652 P) .nil .nil)) (.node (qo_284 P) (.node (qo_412 P) .nil .nil) .nil))) (.node (qo_96 P) (.node (qo_130 P) (.node (qo_197 P) (.node (qo_332 P) .nil .nil) (.node (qo_636 P) .nil .nil)) (.node (qo_268 P) (.node (qo_396 P) .nil .nil) .nil)) (.node (qo_162 P) (.node (qo_234 P) (.node (qo_364 P) .nil .nil) (.node (qo_668 P) .nil .nil)) (.node (qo_300 P) (.node (qo_428 P) .nil .nil) .nil)))))) (.node (PySem.W.boot_o_6 P) (.node (PySem.W.boot_o_10 P) (.node (qo_54 P) (.node (qo_70 P) (.node (qo_102 P) (.node (qo_168 P) (.node (qo_306 P) .nil .nil) (.node (qo_434 P) .nil .nil)) (.node (qo_240 P) (.node (qo_370 P) .nil .nil) (.node (qo_674 P) .nil .nil))) (.node (qo_136 P) (.node (qo_203 P) (.node (qo_338 P) .nil .nil) (.node (qo_642 P) .nil .nil)) (.node (qo_274 P) (.node (qo_402 P) .nil .nil) .nil))) (.node (qo_86 P) (.node (qo_118 P) (.node (qo_184 P) (.node (qo_322 P) .nil .nil) (.node (qo_626 P) .nil .nil)) (.node (qo_258 P) (.node (qo_386 P) .nil .nil) .nil)) (.node (qo_152 P) (.node (qo_222 P) (.node (qo_354 P) .nil .nil) (.node (qo_658 P) .nil .nil)) (.node (qo_290 P) (.node (qo_418 P) .nil .nil) .nil)))) (.node (qo_62 P) (.node (qo_78 P) (.node (qo_110 P) (.node (qo_176 P) (.node (qo_314 P) .nil .nil) (.node (qo_442 P) .nil .nil)) (.node (qo_248 P) (.node (qo_378 P) .nil .nil) .nil)) (.node (qo_144 P) (.node (qo_211 P) (.node (qo_346 P) .nil .nil) (.node (qo_650 P) .nil .nil)) (.node (qo_282 P) (.node (qo_410 P) .nil .nil) .nil))) (.node (qo_94 P) (.node (qo_128 P) (.node (qo_195 P) (.node (qo_330 P) .nil .nil) (.node (qo_634 P) .nil .nil)) (.node (qo_266 P) (.node (qo_394 P) .nil .nil) .nil)) (.node (qo_160 P) (.node (qo_232 P) (.node (qo_362 P) .nil .nil) (.node (qo_666 P) .nil .nil)) (.node (qo_298 P) (.node (qo_426 P) .nil .nil) .nil))))) (.node (qo_46 P) (.node (qo_58 P) (.node (qo_74 P) (.node (qo_106 P) (.node (qo_172 P) (.node (qo_310 P) .nil .nil) (.node (qo_438 P) .nil .nil)) (.node (qo_244 P) (.node (qo_374 P) .nil .nil) (.node (qo_678 P) .nil .nil))) (.node (qo_140 P) (.node (qo_207 P) (.node (qo_342 P) .nil .nil) (.node (qo_646 P) .nil .nil)) (.node (qo_278 P) (.node (qo_406 P) .nil .nil) .nil))) (.node (qo_90 P) (.node (qo_122 P) (.node (qo_188 P) (.node (qo_326 P) .nil .nil) (.node (qo_630 P) .nil .nil)) (.node (qo_262 P) (.node (qo_390 P) .nil .nil) .nil)) (.node (qo_156 P) (.node (qo_226 P) (.node (qo_358 P) .nil .nil) (.node (qo_662 P) .nil .nil)) (.node (qo_294 P) (.node (qo_422 P) .nil .nil) .nil)))) (.node (qo_66 P) (.node (qo_82 P) (.node (qo_114 P) (.node (qo_180 P) (.node (qo_318 P) .nil .nil) (.node (qo_622 P) .nil .nil)) (.node (qo_252 P) (.node (qo_382 P) .nil .nil) .nil)) (.node (qo_148 P) (.node (qo_218 P) (.node (qo_350 P) .nil .nil) (.node (qo_654 P) .nil .nil)) (.node (qo_286 P) (.node (qo_414 P) .nil .nil) .nil))) (.node (qo_98 P) (.node (qo_132 P) (.node (qo_199 P) (.node (qo_334 P) .nil .nil) (.node (qo_638 P) .nil .nil)) (.node (qo_270 P) (.node (qo_398 P) .nil .nil) .nil)) (.node (qo_164 P) (.node (qo_236 P) (.node (qo_366 P) .nil .nil) (.node (qo_670 P) .nil .nil)) (.node (qo_302 P) (.node (qo_430 P) .nil .nil) .nil))))))))
noncomputable def qheap_679 : Params → Heap := fun P => ⟨⟨[(PySem.W.boot_o_0 P), (PySem.W.boot_o_1 P), (qo_191 P), (qo_618 P), (PySem.W.boot_o_4 P), (PySem.W.boot_o_5 P), (PySem.W.boot_o_6 P), (PySem.W.boot_o_7 P), (PySem.W.boot_o_8 P), (PySem.W.boot_o_9 P), (PySem.W.boot_o_10 P), (qo_43 P), (qo_619 P), (qo_45 P), (qo_46 P), (qo_51 P), (qo_52 P), (qo_53 P), (qo_54 P), (qo_55 P), (qo_56 P), (qo_57 P), (qo_58 P), (qo_59 P), (qo_60 P), (qo_61 P), (qo_62 P), (qo_63 P), (qo_64 P), (qo_65 P), (qo_66 P), (qo_67 P), (qo_68 P), (qo_69 P), (qo_70 P), (qo_71 P), (qo_72 P), (qo_73 P), (qo_74 P), (qo_75 P), (qo_76 P), (qo_77 P), (qo_78 P), (qo_79 P), (qo_80 P), (qo_81 P), (qo_82 P), (qo_83 P), (qo_84 P), (qo_85 P), (qo_86 P), (qo_87 P), (qo_88 P), (qo_89 P), (qo_90 P), (qo_91 P), (qo_92 P), (qo_93 P), (qo_94 P), (qo_95 P), (qo_96 P), (qo_97 P), (qo_98 P), (qo_99 P), (qo_100 P), (qo_101 P), (qo_102 P), (qo_103 P), (qo_104 P), (qo_105 P), (qo_106 P), (qo_107 P), (qo_108 P), (qo_109 P), (qo_110 P), (qo_111 P), (qo_112 P), (qo_113 P), (qo_114 P), (qo_115 P), (qo_116 P), (qo_117 P), (qo_118 P), (qo_119 P), (qo_120 P), (qo_121 P), (qo_122 P), (qo_123 P), (qo_126 P), (qo_127 P), (qo_128 P), (qo_129 P), (qo_130 P), (qo_131 P), (qo_132 P), (qo_133 P), (qo_134 P), (qo_135 P), (qo_136 P), (qo_137 P), (qo_138 P), (qo_139 P), (qo_140 P), (qo_141 P), (qo_142 P), (qo_143 P), (qo_144 P), (qo_145 P), (qo_146 P), (qo_147 P), (qo_148 P), (qo_149 P), (qo_150 P), (qo_151 P), (qo_152 P), (qo_153 P), (qo_154 P), (qo_155 P), (qo_156 P), (qo_157 P), (qo_158 P), (qo_159 P), (qo_160 P), (qo_161 P), (qo_162 P), (qo_163 P), (qo_164 P), (qo_165 P), (qo_166 P), (qo_167 P), (qo_168 P), (qo_169 P), (qo_170 P), (qo_171 P), (qo_172 P), (qo_173 P), (qo_174 P), (qo_175 P), (qo_176 P), (qo_177 P), (qo_178 P), (qo_179 P), (qo_180 P), (qo_181 P), (qo_182 P), (qo_183 P), (qo_184 P), (qo_185 P), (qo_186 P), (qo_187 P), (qo_188 P), (qo_189 P), (qo_190 P), (qo_194 P), (qo_195 P), (qo_196 P), (qo_197 P), (qo_198 P), (qo_199 P), (qo_200 P), (qo_201 P), (qo_202 P), (qo_203 P), (qo_204 P), (qo_205 P), (qo_206 P), (qo_207 P), (qo_208 P), (qo_209 P), (qo_216 P), (qo_211 P), (qo_212 P), (qo_213 P), (qo_217 P), (qo_218 P), (qo_219 P), (qo_220 P), (qo_221 P), (qo_222 P), (qo_223 P), (qo_224 P), (qo_225 P), (qo_226 P), (qo_227 P), (qo_228 P), (qo_229 P), (qo_232 P), (qo_233 P), (qo_234 P), (qo_235 P), (qo_236 P), (qo_237 P), (qo_238 P), (qo_239 P), (qo_240 P), (qo_241 P), (qo_242 P), (qo_243 P), (qo_244 P), (qo_245 P), (qo_246 P), (qo_247 P), (qo_248 P), (qo_249 P), (qo_250 P), (qo_251 P), (qo_252 P), (qo_255 P), (qo_256 P), (qo_257 P), (qo_258 P), (qo_259 P), (qo_260 P), (qo_261 P), (qo_262 P), (qo_263 P), (qo_264 P), (qo_265 P), (qo_266 P), (qo_267 P), (qo_268 P), (qo_269 P), (qo_270 P), (qo_271 P), (qo_272 P), (qo_273 P), (qo_274 P), (qo_275 P), (qo_276 P), (qo_277 P), (qo_278 P), (qo_279 P), (qo_280 P), (qo_281 P), (qo_282 P), (qo_283 P), (qo_284 P), (qo_285 P), (qo_286 P), (qo_287 P), (qo_288 P), (qo_289 P), (qo_290 P), (qo_291 P), (qo_292 P), (qo_293 P), (qo_294 P), (qo_295 P), (qo_296 P), (qo_297 P), (qo_298 P), (qo_299 P), (qo_300 P), (qo_301 P), (qo_302 P), (qo_303 P), (qo_304 P), (qo_305 P), (qo_306 P), (qo_307 P), (qo_308 P), (qo_309 P), (qo_310 P), (qo_311 P), (qo_312 P), (qo_313 P), (qo_314 P), (qo_315 P), (qo_316 P), (qo_317 P), (qo_318 P), (qo_319 P), (qo_320 P), (qo_321 P), (qo_322 P), (qo_323 P), (qo_324 P), (qo_325 P), (qo_326 P), (qo_327 P), (qo_328 P), (qo_329 P), (qo_330 P), (qo_331 P), (qo_332 P), (qo_333 P), (qo_334 P), (qo_335 P), (qo_336 P), (qo_337 P), (qo_338 P), (qo_339 P), (qo_340 P), (qo_341 P), (qo_342 P), (qo_343 P), (qo_344 P), (qo_345 P), (qo_346 P), (qo_347 P), (qo_348 P), (qo_349 P), (qo_350 P), (qo_351 P), (qo_352 P), (qo_353 P), (qo_354 P), (qo_355 P), (qo_356 P), (qo_357 P), (qo_358 P), (qo_359 P), (qo_360 P), (qo_361 P), (qo_362 P), (qo_363 P), (qo_364 P), (qo_365 P), (qo_366 P), (qo_367 P), (qo_368 P), (qo_369 P), (qo_370 P), (qo_371 P), (qo_372 P), (qo_373 P), (qo_374 P), (qo_375 P), (qo_376 P), (qo_377 P), (qo_378 P), (qo_379 P), (qo_380 P), (qo_381 P), (qo_382 P), (qo_383 P), (qo_384 P), (qo_385 P), (qo_386 P), (qo_387 P), (qo_388 P), (qo_389 P), (qo_390 P), (qo_391 P), (qo_392 P), (qo_393 P), (qo_394 P), (qo_395 P), (qo_396 P), (qo_397 P), (qo_398 P), (qo_399 P), (qo_400 P), (qo_401 P), (qo_402 P), (qo_403 P), (qo_404 P), (qo_405 P), (qo_406 P), (qo_407 P), (qo_408 P), (qo_409 P), (qo_410 P), (qo_411 P), (qo_412 P), (qo_413 P), (qo_414 P), (qo_415 P), (qo_416 P), (qo_417 P), (qo_418 P), (qo_419 P), (qo_420 P), (qo_421 P), (qo_422 P), (qo_423 P), (qo_424 P), (qo_425 P), (qo_426 P), (qo_427 P), (qo_428 P), (qo_429 P), (qo_430 P), (qo_431 P), (qo_432 P), (qo_433 P), (qo_434 P), (qo_435 P), (qo_436 P), (qo_437 P), (qo_438 P), (qo_439 P), (qo_440 P), (qo_441 P), (qo_442 P), (qo_443 P), (qo_620 P), (qo_621 P), (qo_622 P), (qo_623 P), (qo_624 P), (qo_625 P), (qo_626 P), (qo_627 P), (qo_628 P), (qo_629 P), (qo_630 P), (qo_631 P), (qo_632 P), (qo_633 P), (qo_634 P), (qo_635 P), (qo_636 P), (qo_637 P), (qo_638 P), (qo_639 P), (qo_640 P), (qo_641 P), (qo_642 P), (qo_643 P), (qo_644 P), (qo_645 P), (qo_646 P), (qo_647 P), (qo_648 P), (qo_649 P), (qo_650 P), (qo_651 P), (qo_652 P), (qo_653 P), (qo_654 P), (qo_655 P), (qo_656 P), (qo_657 P), (qo_658 P), (qo_659 P), (qo_660 P), (qo_661 P), (qo_662 P), (qo_663 P), (qo_664 P), (qo_665 P), (qo_666 P), (qo_667 P), (qo_668 P), (qo_669 P), (qo_670 P), (qo_671 P), (qo_672 P), (qo_673 P), (qo_674 P), (qo_675 P), (qo_676 P), (qo_677 P), (qo_678 P)]⟩, ⟨[], [], [], 0, [], [], false, #[], [], 0, false, false, false, 0, [2000, 10, 10], false, 0, true, [], [], 0, false⟩⟩
noncomputable def qenv_41 : Env := ⟨PP.main.scope, PySem.mainNs, PySem.mainNs, [], PySem.Str.empty, none, (.ref 13), (some 14), 0⟩
noncomputable def heapK : Params → Frag := fun P => (nat_lit 2, qo_191 P) :: (nat_lit 3, qo_618 P) :: (nat_lit 15, qo_51 P) :: (nat_lit 17, qo_53 P) :: (nat_lit 18, qo_54 P) :: (nat_lit 20, qo_56 P) :: (nat_lit 21, qo_57 P) :: (nat_lit 22, qo_58 P) :: (nat_lit 23, qo_59 P) :: (nat_lit 24, qo_60 P) :: (nat_lit 26, qo_62 P) :: (nat_lit 27, qo_63 P) :: (nat_lit 29, qo_65 P) :: (nat_lit 30, qo_66 P) :: (nat_lit 31, qo_67 P) :: (nat_lit 33, qo_69 P) :: (nat_lit 34, qo_70 P) :: (nat_lit 36, qo_72 P) :: (nat_lit 37, qo_73 P) :: (nat_lit 38, qo_74 P) :: (nat_lit 39, qo_75 P) :: (nat_lit 41, qo_77 P) :: (nat_lit 42, qo_78 P) :: (nat_lit 44, qo_80 P) :: (nat_lit 45, qo_81 P) :: (nat_lit 46, qo_82 P) :: (nat_lit 48, qo_84 P) :: (nat_lit 49, qo_85 P) :: (nat_lit 51, qo_87 P) :: (nat_lit 52, qo_88 P) :: (nat_lit 53, qo_89 P) :: (nat_lit 55, qo_91 P) :: (nat_lit 56, qo_92 P) :: (nat_lit 58, qo_94 P) :: (nat_lit 59, qo_95 P) :: (nat_lit 60, qo_96 P) :: (nat_lit 62, qo_98 P) :: (nat_lit 63, qo_99 P) :: (nat_lit 65, qo_101 P) :: (nat_lit 66, qo_102 P) :: (nat_lit 67, qo_103 P) :: (nat_lit 69, qo_105 P) :: (nat_lit 70, qo_106 P) :: (nat_lit 72, qo_108 P) :: (nat_lit 73, qo_109 P) :: (nat_lit 74, qo_110 P) :: (nat_lit 76, qo_112 P) :: (nat_lit 77, qo_113 P) :: (nat_lit 79, qo_115 P) :: (nat_lit 80, qo_116 P) :: (nat_lit 81, qo_117 P) :: (nat_lit 83, qo_119 P) :: (nat_lit 84, qo_120 P) :: (nat_lit 86, qo_122 P) :: (nat_lit 87, qo_123 P) :: (nat_lit 88, qo_126 P) :: (nat_lit 90, qo_128 P) :: (nat_lit 91, qo_129 P) :: (nat_lit 93, qo_131 P) :: (nat_lit 94, qo_132 P) :: (nat_lit 95, qo_133 P) :: (nat_lit 96, qo_134 P) :: (nat_lit 98, qo_136 P) :: (nat_lit 99, qo_137 P) :: (nat_lit 101, qo_139 P) :: (nat_lit 102, qo_140 P) :: (nat_lit 103, qo_141 P) :: (nat_lit 105, qo_143 P) :: (nat_lit 106, qo_144 P) :: (nat_lit 108, qo_146 P) :: (nat_lit 109, qo_147 P) :: (nat_lit 110, qo_148 P) :: (nat_lit 113, qo_151 P) :: (nat_lit 114, qo_152 P) :: (nat_lit 115, qo_153 P) :: (nat_lit 117, qo_155 P) :: (nat_lit 118, qo_156 P) :: (nat_lit 120, qo_158 P) :: (nat_lit 121, qo_159 P) :: (nat_lit 122, qo_160 P) :: (nat_lit 124, qo_162 P) :: (nat_lit 125, qo_163 P) :: (nat_lit 127, qo_165 P) :: (nat_lit 128, qo_166 P) :: (nat_lit 129, qo_167 P) :: (nat_lit 131, qo_169 P) :: (nat_lit 132, qo_170 P) :: (nat_lit 134, qo_172 P) :: (nat_lit 135, qo_173 P) :: (nat_lit 136, qo_174 P) :: (nat_lit 139, qo_177 P) :: (nat_lit 140, qo_178 P) :: (nat_lit 141, qo_179 P) :: (nat_lit 144, qo_182 P) :: (nat_lit 145, qo_183 P) :: (nat_lit 146, qo_184 P) :: (nat_lit 148, qo_186 P) :: (nat_lit 149, qo_187 P) :: (nat_lit 151, qo_189 P) :: (nat_lit 152, qo_190 P) :: (nat_lit 153, qo_194 P) :: (nat_lit 160, qo_201 P) :: (nat_lit 162, qo_203 P) :: (nat_lit 163, qo_204 P) :: (nat_lit 165, qo_206 P) :: (nat_lit 166, qo_207 P) :: (nat_lit 167, qo_208 P) :: (nat_lit 168, qo_209 P) :: (nat_lit 169, qo_216 P) :: (nat_lit 170, qo_211 P) :: (nat_lit 173, qo_217 P) :: (nat_lit 180, qo_224 P) :: (nat_lit 181, qo_225 P) :: (nat_lit 182, qo_226 P) :: (nat_lit 185, qo_229 P) :: (nat_lit 193, qo_239 P) :: (nat_lit 195, qo_241 P) :: (nat_lit 196, qo_242 P) :: (nat_lit 198, qo_244 P) :: (nat_lit 199, qo_245 P) :: (nat_lit 200, qo_246 P) :: (nat_lit 201, qo_247 P) :: (nat_lit 202, qo_248 P) :: (nat_lit 203, qo_249 P) :: (nat_lit 204, qo_250 P) :: (nat_lit 214, qo_262 P) :: (nat_lit 216, qo_264 P) :: (nat_lit 217, qo_265 P) :: (nat_lit 219, qo_267 P) :: (nat_lit 220, qo_268 P) :: (nat_lit 221, qo_269 P) :: (nat_lit 223, qo_271 P) :: (nat_lit 224, qo_272 P) :: (nat_lit 226, qo_274 P) :: (nat_lit 227, qo_275 P) :: (nat_lit 228, qo_276 P) :: (nat_lit 230, qo_278 P) :: (nat_lit 231, qo_279 P) :: (nat_lit 233, qo_281 P) :: (nat_lit 234, qo_282 P) :: (nat_lit 235, qo_283 P) :: (nat_lit 237, qo_285 P) :: (nat_lit 238, qo_286 P) :: (nat_lit 240, qo_288 P) :: (nat_lit 241, qo_289 P) :: (nat_lit 242, qo_290 P) :: (nat_lit 244, qo_292 P) :: (nat_lit 245, qo_293 P) :: (nat_lit 247, qo_295 P) :: (nat_lit 248, qo_296 P) :: (nat_lit 249, qo_297 P) :: (nat_lit 251, qo_299 P) :: (nat_lit 252, qo_300 P) :: (nat_lit 254, qo_302 P) :: (nat_lit 255, qo_303 P) :: (nat_lit 256, qo_304 P) :: (nat_lit 258, qo_306 P) :: (nat_lit 259, qo_307 P) :: (nat_lit 261, qo_309 P) :: (nat_lit 262, qo_310 P) :: (nat_lit 263, qo_311 P) :: (nat_lit 265, qo_313 P) :: (nat_lit 266, qo_314 P) :: (nat_lit 268, qo_316 P) :: (nat_lit 269, qo_317 P) :: (nat_lit 270, qo_318 P) :: (nat_lit 272, qo_320 P) :: (nat_lit 273, qo_321 P) :: (nat_lit 275, qo_323 P) :: (nat_lit 276, qo_324 P) :: (nat_lit 277, qo_325 P) :: (nat_lit 279, qo_327 P) :: (nat_lit 280, qo_328 P) :: (nat_lit 282, qo_330 P) :: (nat_lit 283, qo_331 P) :: (nat_lit 284, qo_332 P) :: (nat_lit 286, qo_334 P) :: (nat_lit 287, qo_335 P) :: (nat_lit 289, qo_337 P) :: (nat_lit 290, qo_338 P) :: (nat_lit 291, qo_339 P) :: (nat_lit 293, qo_341 P) :: (nat_lit 294, qo_342 P) :: (nat_lit 296, qo_344 P) :: (nat_lit 297, qo_345 P) :: (nat_lit 298, qo_346 P) :: (nat_lit 300, qo_348 P) :: (nat_lit 301, qo_349 P) :: (nat_lit 303, qo_351 P) :: (nat_lit 304, qo_352 P) :: (nat_lit 305, qo_353 P) :: (nat_lit 307, qo_355 P) :: (nat_lit 308, qo_356 P) :: (nat_lit 310, qo_358 P) :: (nat_lit 311, qo_359 P) :: (nat_lit 312, qo_360 P) :: (nat_lit 314, qo_362 P) :: (nat_lit 315, qo_363 P) :: (nat_lit 317, qo_365 P) :: (nat_lit 318, qo_366 P) :: (nat_lit 319, qo_367 P) :: (nat_lit 321, qo_369 P) :: (nat_lit 322, qo_370 P) :: (nat_lit 324, qo_372 P) :: (nat_lit 325, qo_373 P) :: (nat_lit 326, qo_374 P) :: (nat_lit 328, qo_376 P) :: (nat_lit 329, qo_377 P) :: (nat_lit 331, qo_379 P) :: (nat_lit 332, qo_380 P) :: (nat_lit 333, qo_381 P) :: (nat_lit 335, qo_383 P) :: (nat_lit 336, qo_384 P) :: (nat_lit 338, qo_386 P) :: (nat_lit 339, qo_387 P) :: (nat_lit 340, qo_388 P) :: (nat_lit 342, qo_390 P) :: (nat_lit 343, qo_391 P) :: (nat_lit 345, qo_393 P) :: (nat_lit 346, qo_394 P) :: (nat_lit 347, qo_395 P) :: (nat_lit 349, qo_397 P) :: (nat_lit 350, qo_398 P) :: (nat_lit 352, qo_400 P) :: (nat_lit 353, qo_401 P) :: (nat_lit 354, qo_402 P) :: (nat_lit 356, qo_404 P) :: (nat_lit 357, qo_405 P) :: (nat_lit 359, qo_407 P) :: (nat_lit 360, qo_408 P) :: (nat_lit 361, qo_409 P) :: (nat_lit 363, qo_411 P) :: (nat_lit 364, qo_412 P) :: (nat_lit 366, qo_414 P) :: (nat_lit 367, qo_415 P) :: (nat_lit 368, qo_416 P) :: (nat_lit 370, qo_418 P) :: (nat_lit 371, qo_419 P) :: (nat_lit 373, qo_421 P) :: (nat_lit 374, qo_422 P) :: (nat_lit 375, qo_423 P) :: (nat_lit 377, qo_425 P) :: (nat_lit 378, qo_426 P) :: (nat_lit 380, qo_428 P) :: (nat_lit 381, qo_429 P) :: (nat_lit 382, qo_430 P) :: (nat_lit 384, qo_432 P) :: (nat_lit 385, qo_433 P) :: (nat_lit 387, qo_435 P) :: (nat_lit 388, qo_436 P) :: (nat_lit 389, qo_437 P) :: (nat_lit 390, qo_438 P) :: (nat_lit 391, qo_439 P) :: (nat_lit 392, qo_440 P) :: (nat_lit 393, qo_441 P) :: (nat_lit 396, qo_620 P) :: (nat_lit 398, qo_622 P) :: (nat_lit 399, qo_623 P) :: (nat_lit 401, qo_625 P) :: (nat_lit 402, qo_626 P) :: (nat_lit 403, qo_627 P) :: (nat_lit 405, qo_629 P) :: (nat_lit 406, qo_630 P) :: (nat_lit 408, qo_632 P) :: (nat_lit 409, qo_633 P) :: (nat_lit 410, qo_634 P) :: (nat_lit 412, qo_636 P) :: (nat_lit 413, qo_637 P) :: (nat_lit 415, qo_639 P) :: (nat_lit 416, qo_640 P) :: (nat_lit 417, qo_641 P) :: (nat_lit 419, qo_643 P) :: (nat_lit 420, qo_644 P) :: (nat_lit 422, qo_646 P) :: (nat_lit 423, qo_647 P) :: (nat_lit 424, qo_648 P) :: (nat_lit 426, qo_650 P) :: (nat_lit 427, qo_651 P) :: (nat_lit 429, qo_653 P) :: (nat_lit 430, qo_654 P) :: (nat_lit 431, qo_655 P) :: (nat_lit 433, qo_657 P) :: (nat_lit 434, qo_658 P) :: (nat_lit 436, qo_660 P) :: (nat_lit 437, qo_661 P) :: (nat_lit 438, qo_662 P) :: (nat_lit 440, qo_664 P) :: (nat_lit 441, qo_665 P) :: (nat_lit 443, qo_667 P) :: (nat_lit 444, qo_668 P) :: (nat_lit 445, qo_669 P) :: (nat_lit 448, qo_672 P) :: (nat_lit 449, qo_673 P) :: (nat_lit 450, qo_674 P) :: (nat_lit 453, qo_677 P) :: (nat_lit 454, qo_678 P) :: []
def asK : List Addr := [2, 3, 15, 17, 18, 20, 21, 22, 23, 24, 26, 27, 29, 30, 31, 33, 34, 36, 37, 38, 39, 41, 42, 44, 45, 46, 48, 49, 51, 52, 53, 55, 56, 58, 59, 60, 62, 63, 65, 66, 67, 69, 70, 72, 73, 74, 76, 77, 79, 80, 81, 83, 84, 86, 87, 88, 90, 91, 93, 94, 95, 96, 98, 99, 101, 102, 103, 105, 106, 108, 109, 110, 113, 114, 115, 117, 118, 120, 121, 122, 124, 125, 127, 128, 129, 131, 132, 134, 135, 136, 139, 140, 141, 144, 145, 146, 148, 149, 151, 152, 153, 160, 162, 163, 165, 166, 167, 168, 169, 170, 173, 180, 181, 182, 185, 193, 195, 196, 198, 199, 200, 201, 202, 203, 204, 214, 216, 217, 219, 220, 221, 223, 224, 226, 227, 228, 230, 231, 233, 234, 235, 237, 238, 240, 241, 242, 244, 245, 247, 248, 249, 251, 252, 254, 255, 256, 258, 259, 261, 262, 263, 265, 266, 268, 269, 270, 272, 273, 275, 276, 277, 279, 280, 282, 283, 284, 286, 287, 289, 290, 291, 293, 294, 296, 297, 298, 300, 301, 303, 304, 305, 307, 308, 310, 311, 312, 314, 315, 317, 318, 319, 321, 322, 324, 325, 326, 328, 329, 331, 332, 333, 335, 336, 338, 339, 340, 342, 343, 345, 346, 347, 349, 350, 352, 353, 354, 356, 357, 359, 360, 361, 363, 364, 366, 367, 368, 370, 371, 373, 374, 375, 377, 378, 380, 381, 382, 384, 385, 387, 388, 389, 390, 391, 392, 393, 396, 398, 399, 401, 402, 403, 405, 406, 408, 409, 410, 412, 413, 415, 416, 417, 419, 420, 422, 423, 424, 426, 427, 429, 430, 431, 433, 434, 436, 437, 438, 440, 441, 443, 444, 445, 448, 449, 450, 453, 454]
theorem asK_is : ∀ P, asK = (heapK P).map (·.1) := fun _ => by kernel_rfl
noncomputable def viewK : Program := PySem.W.view PP [0, 2, 3, 4, 5, 6, 7, 8, 9, 11, 12, 13, 14, 15, 16, 17, 20, 21, 23, 24, 25, 26, 27, 28, 30, 31, 33, 34, 35, 37, 38, 39, 40, 41, 42, 43, 44, 45]
abbrev looseK : List PySem.Str := ["MOST", "number_of", "write_number"]
abbrev valsK : List (PySem.Str × WData) := [("MOST", WData.int 10000000000000000000000000000000000000000000000000000000000000000000000000000000000000000000000000000000000000000000000000000000000000000000000000000000000000000000000000000000000000000000000000000000000000000000000000000000000000000000000000000000000000000000000000000000000000000000000000000000000000000000000000000000000000000000000000000000000000000000000000000000000000000000000000000000000000000)]
abbrev bodyK : List PySem.Stmt := behindTheImports PP
noncomputable abbrev codeK : Code := Code.body bodyK qenv_41
abbrev pos0 : Pos := ⟨0, 0, 0, 0⟩
theorem said_looks : looksOpen PP = true := by
  rw [PySem.W.Fast.te12908688711261696721]
  unfold PySem.W.Fast.tw12908688711261696721
  repeat' with_reducible refine look_both ?_ ?_
  all_goals as_aux_lemma => kernel_rfl
theorem said_part : OpenRow.partSaid (OpenLaw.row PySem.Challenge.rw_xm0671_01) = true := by
  unfold OpenRow.partSaid
  repeat' with_reducible refine look_both ?_ ?_
  exact said_looks
  all_goals as_aux_lemma => kernel_rfl
theorem said_row : OpenRow.wellSaid (OpenLaw.row PySem.Challenge.rw_xm0671_01) = true := by
  unfold OpenRow.wellSaid
  repeat' with_reducible refine look_both ?_ ?_
  exact said_part
  all_goals as_aux_lemma => kernel_rfl
theorem said_law : OpenLaw.wellSaid PySem.Challenge.rw_xm0671_01 = true := by
  have said := said_row
  rw [PySem.W.Fast.te17960256430627541270] at said
  rw [PySem.W.Fast.te9446332074065402090]
  unfold PySem.W.Fast.tw9446332074065402090
  repeat' with_reducible refine look_both ?_ ?_
  exact said
  all_goals as_aux_lemma => kernel_rfl
theorem run_pre : ∀ w : World, (fun os => topGo treeTable PP w 11 (some (Value.ref 6)) 12 ⟨boot_heap w.params, ⟨[]⟩, boot_drawn, boot_toks, os⟩ (topStub PP)) =
    fun os => some (⟨qheap_46 w.params, ⟨[]⟩, {}, 187, os⟩, ⟨denote treeTable codeK, codeK, pos0, [topFrame pos0]⟩) := by
  intro w
  rw [PySem.W.Fast.te15667345088766844465, PySem.W.Fast.te14364793385576792824, PySem.W.Fast.te11892475500146522536]
  kernel_rfl
theorem run_block : ∀ w : World, (fun os => segRun treeTable PP w 11 (some (Value.ref 6)) 1 1 ⟨qheap_46 w.params, ⟨[]⟩, {}, 187, os⟩ (blockOf bodyK qenv_41 codeK pos0 [topFrame pos0])) =
    fun os => some (Flow.next, (SharedT.mk (qtree_47 w.params) 15 {} ⟨[]⟩ {} 187 os).abs, codeK, pos0) := by
  intro w
  rw [PySem.W.Fast.te14374325043358763698, PySem.W.Fast.te14364793385576792824]
  kernel_rfl
abbrev stsA : List PySem.Stmt := bodyK.take 30
abbrev stsD : List PySem.Stmt := (bodyK.drop 30).take 5
abbrev stsB : List PySem.Stmt := ((bodyK.drop 30).drop 5).take 1
abbrev stsC : List PySem.Stmt := ((bodyK.drop 30).drop 5).drop 1
abbrev posD : Pos := ⟨132, 0, 132, 8⟩
abbrev posA : Pos := ⟨142, 0, 153, 28⟩
abbrev posB : Pos := ⟨154, 0, 249, 16⟩
abbrev posC : Pos := ⟨301, 0, 325, 92⟩
theorem run_A : ∀ w : World, (fun os => segRunT treeTable PP w 11 (some (Value.ref 6)) 1 750 (SharedT.mk (qtree_47 w.params) 15 {} ⟨[]⟩ {} 187 os) (piecesOf stsA qenv_41 codeK pos0 [topFrame pos0])) =
    fun os => some (Flow.next, SharedT.mk (qtree_190 w.params) 153 {} ⟨[]⟩ {} 386 os, codeK, posD) := by
  intro w
  rw [PySem.W.Fast.te10110043849684766642, PySem.W.Fast.te14364793385576792824]
  kernel_rfl
theorem run_D : ∀ w : World, (fun os => segRunT treeTable PP w 11 (some (Value.ref 6)) 1 750 (SharedT.mk (qtree_190 w.params) 153 {} ⟨[]⟩ {} 386 os) (piecesOf stsD qenv_41 codeK posD [topFrame pos0])) =
    fun os => some (Flow.next, SharedT.mk (qtree_252 w.params) 207 {} ⟨[]⟩ {} 478 os, codeK, posA) := by
  intro w
  rw [PySem.W.Fast.te10110043849684766642, PySem.W.Fast.te14364793385576792824]
  kernel_rfl
theorem run_B : ∀ w : World, (fun os => segRunT treeTable PP w 11 (some (Value.ref 6)) 1 1100 (SharedT.mk (qtree_252 w.params) 207 {} ⟨[]⟩ {} 478 os) (piecesOf stsB qenv_41 codeK posA [topFrame pos0])) =
    fun os => some (Flow.next, SharedT.mk (qtree_443 w.params) 396 {} ⟨[]⟩ {} 729 os, codeK, posB) := by
  intro w
  rw [PySem.W.Fast.te10110043849684766642, PySem.W.Fast.te14364793385576792824]
  kernel_rfl
theorem run_C : ∀ w : World, (fun os => segRunT treeTable PP w 11 (some (Value.ref 6)) 1 300 (SharedT.mk (qtree_443 w.params) 396 {} ⟨[]⟩ {} 729 os) (piecesOf stsC qenv_41 codeK posB [topFrame pos0])) =
    fun os => some (Flow.next, SharedT.mk (qtree_678 w.params) 455 {} ⟨[]⟩ {} 813 os, codeK, posC) := by
  intro w
  rw [PySem.W.Fast.te10110043849684766642, PySem.W.Fast.te14364793385576792824]
  kernel_rfl
theorem run_fin : ∀ w : World, (fun os => topRun treeTable PP w 11 (some (Value.ref 6)) 2 (SharedT.mk (qtree_678 w.params) 455 {} ⟨[]⟩ {} 813 os).abs ⟨doneF Flow.next, codeK, posC, [topFrame pos0]⟩) =
    fun os => some ⟨qheap_679 w.params, ⟨[]⟩, {}, 813, os⟩ := by
  intro w
  rw [PySem.W.Fast.te14082659384304107361, PySem.W.Fast.te14364793385576792824]
  kernel_rfl
theorem cut_is : stsA ++ (stsD ++ (stsB ++ stsC)) = bodyK :=
  (congrArg (fun x => stsA ++ (stsD ++ x)) (List.take_append_drop 1 ((bodyK.drop 30).drop 5))).trans
    ((congrArg (stsA ++ ·) (List.take_append_drop 5 (bodyK.drop 30))).trans (List.take_append_drop 30 bodyK))
theorem run_all (w : World) (os : OsState) : topRun treeTable PP w 11 (some (Value.ref 6)) (12 + (1 + (750 + (750 + (1100 + (300 + 2)))))) ⟨boot_heap w.params, ⟨[]⟩, boot_drawn, boot_toks, os⟩ (topStub PP) = some ⟨qheap_679 w.params, ⟨[]⟩, {}, 813, os⟩ := by
  refine go_top (congrFun (run_pre w) os) (piece_block (congrFun (run_block w) os) ?_)
  have h3 := piece_app (rest := []) (segRun_of (congrFun (run_C w) os)) (congrFun (run_fin w) os)
  rw [List.append_nil] at h3
  have h2 := piece_app (rest := stsC) (segRun_of (congrFun (run_B w) os)) h3
  have hd := piece_app (rest := stsB ++ stsC) (segRun_of (congrFun (run_D w) os)) h2
  have h1 := piece_app (rest := stsD ++ (stsB ++ stsC)) (segRun_of (congrFun (run_A w) os)) hd
  rw [cut_is] at h1
  exact h1
theorem open_plain : opening PP = plainProg PP.main.scope.names := by kernel_rfl
theorem fence_some : ∀ s, fenceModules? PP s = some s := fun _ => by kernel_rfl
theorem size_top : ∀ w : World, ((boot_heap w.params).isNs mainGlobals && (⟨[]⟩ : Array GenState).size == 0, (boot_heap w.params).objs.size, (boot_heap w.params).nsMap mainGlobals "__annotations__") = (true, 11, some (Value.ref 6)) := by
  intro w
  rw [PySem.W.Fast.te8920871248978507458]
  kernel_rfl
theorem pair_is {α β : Type} {a a' : α} {b b' : β} (h : a = a') (k : b = b') : (a, b) = (a', b') := by subst h; subst k; rfl
noncomputable abbrev sK (w : World) (os : OsState) : Shared := ⟨qheap_679 w.params, ⟨[]⟩, {}, 813, os⟩
noncomputable abbrev xK : Shared → Bool := fun s => xlAt viewK valsK s && recOk (RowW.records PySem.Challenge.rw_xm0671_01.row.toRowW) s
theorem lk_st (w : World) (os : OsState) : staticsOk (importedModules PP.main.body) (boot_heap w.params) (sK w os).heap = true := by
  rw [PySem.W.Fast.te5923862056798008813]
  kernel_rfl
theorem lk_nb (w : World) (os : OsState) : namesBound PP (sK w os).heap = true := by
  kernel_rfl
theorem lk_gd (w : World) (os : OsState) : gensDone (sK w os) = true := by
  kernel_rfl
theorem lk_lk (w : World) (os : OsState) : laidKept (boot_heap w.params) (sK w os).heap = true := by
  kernel_rfl
theorem lk_seen (w : World) (os : OsState) : seen ((recsOf viewK).map (·.name)) (ownsOf viewK) [] { sK w os with gens := #[] } = expectedOf viewK := by
  rw [PySem.W.Fast.te5160383126252970620, PySem.W.Fast.te3399658132070893891, PySem.W.Fast.te5991557255702980513]
  kernel_rfl
theorem lk_blt (w : World) (os : OsState) : (sK w os).heap.bltView = bltViewBooted := by
  kernel_rfl
theorem lk_keys (w : World) (os : OsState) : (sK w os).heap.keysOk (looseW viewK looseK) ((recsOf viewK).map (·.name)) ((litsOf viewK).map (·.1)) ((clssOf viewK (looseW viewK looseK)).map (·.name)) = true := by
  rw [PySem.W.Fast.te10880121769531294198, PySem.W.Fast.te821141287760084731, PySem.W.Fast.te3399658132070893891, PySem.W.Fast.te7409074990110511671, PySem.W.Fast.te13664370479719496447]
  kernel_rfl
theorem lk_acc (w : World) (os : OsState) : (sK w os).heap.accountedOkI (importedModules PP.main.body) = true := by
  rw [PySem.W.Fast.te14722251495701143533, PySem.W.Fast.te5923862056798008813]
  kernel_rfl
theorem lk_ns (w : World) (os : OsState) : ((sK w os).heap.isNs mainGlobals && (sK w os).heap.isNs builtinsNs) = true := by
  kernel_rfl
theorem lk_tables (w : World) (os : OsState) : tablesOk viewK (sK w os).heap = true := by
  rw [PySem.W.Fast.te10994771534591457954]
  kernel_rfl
theorem lk_x (w : World) (os : OsState) : xK (sK w os) = true := by
  kernel_rfl
theorem lk_tabs (w : World) (os : OsState) : tabsOk viewK (sK w os) = true := by
  rw [PySem.W.Fast.te479339242167458305]
  kernel_rfl
theorem lk_pin (w : World) (os : OsState) : pinSeenD viewK (drecsOf viewK) (sK w os) = pinGoodD (drecsOf viewK) := by
  rw [PySem.W.Fast.te16090120013241838585, PySem.W.Fast.te3247288618530077131]
  kernel_rfl
theorem lk_plE (w : World) (os : OsState) : plainSeenE viewK (looseW viewK looseK) (sK w os) = plainGoodE viewK (looseW viewK looseK) := by
  rw [PySem.W.Fast.te2386780881361962483, PySem.W.Fast.te821141287760084731]
  kernel_rfl
theorem lk_plD (w : World) (os : OsState) : plainSeenD viewK looseK (sK w os) = plainGoodD viewK looseK := by
  rw [PySem.W.Fast.te11698064438423848299]
  kernel_rfl
theorem lk_wide (w : World) (os : OsState) : wideSeen viewK (sK w os) = wideGood viewK := by
  rw [PySem.W.Fast.te7317090234206586261]
  kernel_rfl
theorem lk_cls (w : World) (os : OsState) : clsSeenW viewK looseK (sK w os) = clsGoodW viewK looseK := by
  rw [PySem.W.Fast.te7369524293546568484]
  kernel_rfl
theorem lk_obs (w : World) (os : OsState) : (kHook heapK asK asK_is).obs (sK w os) = (kHook heapK asK asK_is).val w := by
  kernel_rfl
theorem looks_top : ∀ w : World, (fun os => ((staticsOk (importedModules PP.main.body) (boot_heap w.params) (qheap_679 w.params) && namesBound PP (qheap_679 w.params) && gensDone (sK w os) && laidKept (boot_heap w.params) (qheap_679 w.params)),
    openSeen viewK looseK (importedModules PP.main.body) xK true (sK w os), (kHook heapK asK asK_is).obs (sK w os))) =
    fun (_ : OsState) => (true, openGood viewK looseK, (kHook heapK asK asK_is).val w) := by
  intro w
  funext os
  unfold openSeen openGood
  exact pair_is (look_both (look_both (look_both (lk_st w os) (lk_nb w os)) (lk_gd w os)) (lk_lk w os)) (pair_is
    (pair_is (lk_seen w os) (pair_is (lk_blt w os) (pair_is
      (look_both (look_both (look_both (look_both (look_both (look_both (lk_keys w os) (lk_acc w os)) (Bool.and_eq_true_iff.mp (lk_ns w os)).1) (Bool.and_eq_true_iff.mp (lk_ns w os)).2) (lk_tables w os)) (lk_x w os)) rfl)
      (pair_is (lk_tabs w os) (pair_is (lk_pin w os) (pair_is (lk_plE w os) (pair_is (lk_plD w os) (pair_is (lk_wide w os) (lk_cls w os))))))))) (lk_obs w os))
theorem left_top : LeftO PP viewK looseK (fun s => xlAt viewK valsK s && recOk (RowW.records PySem.Challenge.rw_xm0671_01.row.toRowW) s) (kHook heapK asK asK_is).obs (kHook heapK asK asK_is).val 5560 :=
  LeftO.of_pieces (boot_open open_plain rfl fence_some) size_top run_all rfl looks_top
theorem fill_J : (PySem.Challenge.rw_xm0671_01 = PySem.Challenge.rw_xm0671_01) ∧ heapK = heapK := by
  k_fill
  exact ⟨rfl, rfl⟩
noncomputable abbrev lo := looseW viewK looseK

theorem fmod_bd (a : Int) {b : Int} (h : 0 < b) : 0 ≤ a.fmod b ∧ a.fmod b < b := by
  rw [Int.fmod_eq_emod_of_nonneg a (Int.le_of_lt h)]
  exact ⟨Int.emod_nonneg a (by omega), Int.emod_lt_of_pos a h⟩
theorem fdiv_nn {a b : Int} (ha : 0 ≤ a) (h : 0 < b) : 0 ≤ a.fdiv b := Int.fdiv_nonneg ha (Int.le_of_lt h)
theorem mul_ok {a b : Int} (h : 0 ≤ a ∧ a < 4294967296) : IntMulOk a b := IntMulOk.of_left (intBits_le_64 (by omega) (by omega))

/-- what a call leaves untouched: all but the addresses of fp -/
def Keeps (fp : List Addr) (h h' : Heap) : Prop := ∀ c o, h.get? c = some o → c ∉ fp → h'.get? c = some o

/-- the item at a place, by recursion on the list: `rfl` finds it -/
def nthV : List Value → Nat → Option Value
  | [], _ => none
  | x :: _, 0 => some x
  | _ :: r, k + 1 => nthV r k
theorem nthV_eq : ∀ (l : List Value) (k : Nat), nthV l k = l[k]?
  | [], _ => rfl
  | _ :: _, 0 => rfl
  | _ :: r, k + 1 => by rw [nthV, nthV_eq r k]; rfl

section
variable {prog : Program} {w : World} {A : Around} {E : Value → Shared → Prop} {s : Shared} {h₀ : Heap} {L : Addr} {m : Str → Option Value} {news : List (Addr × Obj)}
theorem item_L {value slice : PySem.Expr} {l : Addr} {vs : Array Value} {n : Nat} {k : Int} {u : Tok} {v : Value} {Q : Value → Shared → Prop}
    (N : News h₀ L s.heap news) (hm : (l, W.listOf vs n) ∈ news) (h0 : 0 ≤ k) (hhi : k < 2 ^ 63) (hx : nthV vs.toList k.toNat = some v) (h : Q v s)
    (hs : subscripted slice false (.ref l) (.int k u) = operate [.ref l, .int k u] (getItem (.ref l) (.int k u)) := by with_unfolding_all rfl) :
    wpAny (model prog w) A (subscriptTail value slice (.ref l) (.int k u)) Q E s :=
  have hl : s.heap.IsList l vs := N.isList hm
  tail_any hl.typeIs slot_list_getitem.lookup (wpAny_getItem_list hl h0 hhi (by rw [nthV_eq, Array.getElem?_toList] at hx; exact hx) h) hs
theorem len_L {l : Addr} {vs : List Value} {n : Nat} {Q : Value → Shared → Prop} (N : News h₀ L s.heap news) (hm : (l, W.listOf vs.toArray n) ∈ news) (hfit : vs.length < 1000000)
    (h : Q (.int vs.length (s.toks + 1)) { s with toks := s.toks + 1 + 1 }) : wpAny (model prog w) A (call (.builtin "len") [.ref l]) Q E s :=
  call_len_list (N.isList hm) (by rw [List.size_toArray]; omega) (by rw [List.size_toArray]; exact h)
theorem item_S {value slice : PySem.Expr} {l : Addr} {vs : List Value} {n : Nat} {k : Int} {u : Tok} {Q : Value → Shared → Prop}
    (N : News h₀ L s.heap news) (hm : (l, W.listOf vs.toArray n) ∈ news) (h0 : 0 ≤ k) (hhi : k < vs.length) (hfit : vs.length < 1000000) (h : ∀ v, v ∈ vs → vs[k.toNat]? = some v → Q v s)
    (hs : subscripted slice false (.ref l) (.int k u) = operate [.ref l, .int k u] (getItem (.ref l) (.int k u)) := by with_unfolding_all rfl) :
    wpAny (model prog w) A (subscriptTail value slice (.ref l) (.int k u)) Q E s := by
  have hl : s.heap.IsList l vs.toArray := N.isList hm
  have hlt : k.toNat < vs.length := by omega
  have e : vs[k.toNat]? = some vs[k.toNat] := List.getElem?_eq_getElem hlt
  exact tail_any hl.typeIs slot_list_getitem.lookup (wpAny_getItem_list hl h0 (by omega) (by simpa using e) (h _ (List.getElem_mem hlt) e)) hs
end
/-- what a body leaves of the heap that its caller had: GSub and Fr.keep -/
theorem keeps_of {g h h' : Heap} {L' : Addr} {m' : Str → Option Value} {fp : List Addr} (G : GSub h g fp) (F' : Fr g L' h' m') : Keeps fp h h' :=
  fun c o e n => F'.keep c o (G c o e n)
/-- a call that has turned the one object b -/
theorem after_one {h₀ h h' : Heap} {L b : Addr} {m : Str → Option Value} {o o' : Obj} {news news' : List (Addr × Obj)} (F : Fr h₀ L h m) (N : News h₀ L h news) (U : Upd b o o' news news') (kp : Keeps [b] h h') (hb : h'.get? b = some o') :
    Fr h₀ L h' m ∧ News h₀ L h' news' := by
  obtain ⟨pre, post, rfl, rfl, h1, h2⟩ := U.split
  have D := N (b, o) (by simp)
  refine ⟨⟨F.ns.at' fun o e => kp _ _ e (by simpa using Ne.symm D.2.1), fun c x e => kp _ _ (F.keep c x e) (fun q => ?_), F.above⟩, fun p hp => ?_⟩
  · rw [List.mem_singleton.mp q, D.2.2] at e; cases e
  · rcases List.mem_append.mp hp with q | q
    · have P := N p (List.mem_append_left _ q); exact ⟨kp _ _ P.1 (by simpa using h1 p q), P.2⟩
    · rcases List.mem_cons.mp q with rfl | q
      · exact ⟨hb, D.2⟩
      · have P := N p (List.mem_append_right _ (.tail _ q)); exact ⟨kp _ _ P.1 (by simpa using h2 p q), P.2⟩
/-- a call that has turned nothing -/
theorem after_none {h₀ h h' : Heap} {L : Addr} {m : Str → Option Value} {news : List (Addr × Obj)} (F : Fr h₀ L h m) (N : News h₀ L h news) (kp : Keeps [] h h') : Fr h₀ L h' m ∧ News h₀ L h' news :=
  ⟨⟨F.ns.at' fun _ e => kp _ _ e (by simp), fun c x e => kp _ _ (F.keep c x e) (by simp), F.above⟩, fun p hp => ⟨kp _ _ (N p hp).1 (by simp), (N p hp).2⟩⟩
theorem after_oneN {h₀ h h' : Heap} {L b : Addr} {m : Str → Option Value} {o o' : Obj} {news news' : List (Addr × Obj)} (F : Fr h₀ L h m) (N : News h₀ L h news) (U : Upd b o o' news news') (kp : Keeps [b] h h') (hb : h'.get? b = some o') : News h₀ L h' news' := (after_one F N U kp hb).2
theorem after_oneF {h₀ h h' : Heap} {L b : Addr} {m : Str → Option Value} {o : Obj} {news : List (Addr × Obj)} (F : Fr h₀ L h m) (N : News h₀ L h news) (hm : (b, o) ∈ news) (kp : Keeps [b] h h') : Fr h₀ L h' m := by
  have D := N (b, o) hm
  refine ⟨F.ns.at' fun o e => kp _ _ e (by simpa using Ne.symm D.2.1), fun c x e => kp _ _ (F.keep c x e) (fun q => ?_), F.above⟩
  rw [List.mem_singleton.mp q, D.2.2] at e; cases e
theorem after_noneF {h₀ h h' : Heap} {L : Addr} {m : Str → Option Value} (F : Fr h₀ L h m) (kp : Keeps [] h h') : Fr h₀ L h' m := ⟨F.ns.at' fun _ e => kp _ _ e (by simp), fun c x e => kp _ _ (F.keep c x e) (by simp), F.above⟩
theorem after_noneN {h₀ h h' : Heap} {L : Addr} {news : List (Addr × Obj)} (N : News h₀ L h news) (kp : Keeps [] h h') : News h₀ L h' news := fun p hp => ⟨kp _ _ (N p hp).1 (by simp), (N p hp).2⟩
/-- what the call has made joins the ledger -/
theorem new_entry {h₀ h h' : Heap} {L a : Addr} {m : Str → Option Value} {o : Obj} {news : List (Addr × Obj)} (F : Fr h₀ L h m) (N : News h₀ L h' news) (ha : h.get? a = none) (ho : h'.get? a = some o) : News h₀ L h' ((a, o) :: news) := by
  intro p hp
  rcases List.mem_cons.mp hp with rfl | hp
  · refine ⟨ho, fun q => ?_, ?_⟩
    · obtain ⟨oL, _, _, hL, _⟩ := F.ns
      have q' : a = L := q
      rw [← q', ha] at hL; cases hL
    · cases q : h₀.get? a with
      | none => rfl
      | some x => have := F.keep _ _ q; rw [ha] at this; cases this
  · exact N p hp
/-- two addresses are two: hidden from omega, which would split by each -/
structure NeA (a b : Nat) : Prop where
  ne : a ≠ b
def AllNe (d : Addr) : List (Addr × Obj) → Prop
  | [] => True
  | p :: r => NeA p.1 d ∧ AllNe d r
theorem allNe_of {h₀ h : Heap} {L d : Addr} (hd : h.get? d = none) : ∀ {l : List (Addr × Obj)}, News h₀ L h l → AllNe d l
  | [], _ => trivial
  | p :: r, N => ⟨⟨fun q => (by have := (N p (.head _)).1; have q' : p.1 = d := q; rw [q', hd] at this; cases this)⟩, allNe_of hd fun x hx => N x (.tail _ hx)⟩
/-- an address that the callee's ledger bears and that is none of the footprint's is new to the caller -/
theorem fresh_of {h g h' : Heap} {L' a : Addr} {o : Obj} {fp : List Addr} {news : List (Addr × Obj)} (G : GSub h g fp) (N : News g L' h' news) (hm : (a, o) ∈ news) (hn : a ∉ fp) : h.get? a = none := by
  cases q : h.get? a with
  | none => rfl
  | some x => have := G a x q hn; rw [(N _ hm).2.2] at this; cases this
theorem deeper_frames {A : Around} {l : List Env} {e : Env} (h : A.frames = some l) : (A.deeper e).frames = some (e :: l) := by simp [Around.deeper, h]
/-- what a body leaves, where some of its ledger it has only read -/
theorem keeps_but {h₀ h g h' : Heap} {L L' : Addr} {m' : Str → Option Value} {fp : List Addr} {news₀ news' : List (Addr × Obj)} (G : GSub h g (news₀.map (·.1))) (N₀ : News h₀ L h news₀) (F' : Fr g L' h' m') (N' : News g L' h' news')
    (ro : ∀ p ∈ news₀, p.1 ∈ fp ∨ p ∈ news') : Keeps fp h h' := fun c o e n => by
  by_cases hc : c ∈ news₀.map (·.1)
  · obtain ⟨p, hp, rfl⟩ := List.mem_map.mp hc
    rcases ro p hp with q | q
    · exact absurd q n
    · have e' := (N₀ p hp).1
      rw [e] at e'
      cases e'
      exact (N' p q).1
  · exact F'.keep c o (G c o e hc)
abbrev tupO (vs : List Value) : Obj := { cls := .type "tuple", data := .seq vs.toArray }
abbrev bagO (x y : Int) (t1 t2 : Tok) (n : Nat) : Obj := W.listOf #[.int x t1, .int y t2] n
theorem cl0 {a b : Prop} (h : a ∧ b) : a := h.1
theorem cl1 {x0 a b : Prop} (h : x0 ∧ a ∧ b) : a := h.2.1
theorem cl2 {x0 x1 a b : Prop} (h : x0 ∧ x1 ∧ a ∧ b) : a := h.2.2.1
theorem cl3 {x0 x1 x2 a b : Prop} (h : x0 ∧ x1 ∧ x2 ∧ a ∧ b) : a := h.2.2.2.1
theorem cl4 {x0 x1 x2 x3 a b : Prop} (h : x0 ∧ x1 ∧ x2 ∧ x3 ∧ a ∧ b) : a := h.2.2.2.2.1
theorem cl5 {x0 x1 x2 x3 x4 a b : Prop} (h : x0 ∧ x1 ∧ x2 ∧ x3 ∧ x4 ∧ a ∧ b) : a := h.2.2.2.2.2.1
theorem cl6 {x0 x1 x2 x3 x4 x5 a b : Prop} (h : x0 ∧ x1 ∧ x2 ∧ x3 ∧ x4 ∧ x5 ∧ a ∧ b) : a := h.2.2.2.2.2.2.1
theorem cl7 {x0 x1 x2 x3 x4 x5 x6 a b : Prop} (h : x0 ∧ x1 ∧ x2 ∧ x3 ∧ x4 ∧ x5 ∧ x6 ∧ a ∧ b) : a := h.2.2.2.2.2.2.2.1
theorem cl8 {x0 x1 x2 x3 x4 x5 x6 x7 a b : Prop} (h : x0 ∧ x1 ∧ x2 ∧ x3 ∧ x4 ∧ x5 ∧ x6 ∧ x7 ∧ a ∧ b) : a := h.2.2.2.2.2.2.2.2.1
theorem cl9 {x0 x1 x2 x3 x4 x5 x6 x7 x8 a b : Prop} (h : x0 ∧ x1 ∧ x2 ∧ x3 ∧ x4 ∧ x5 ∧ x6 ∧ x7 ∧ x8 ∧ a ∧ b) : a := h.2.2.2.2.2.2.2.2.2.1
theorem cl10 {x0 x1 x2 x3 x4 x5 x6 x7 x8 x9 a b : Prop} (h : x0 ∧ x1 ∧ x2 ∧ x3 ∧ x4 ∧ x5 ∧ x6 ∧ x7 ∧ x8 ∧ x9 ∧ a ∧ b) : a := h.2.2.2.2.2.2.2.2.2.2.1
theorem cl11 {x0 x1 x2 x3 x4 x5 x6 x7 x8 x9 x10 a b : Prop} (h : x0 ∧ x1 ∧ x2 ∧ x3 ∧ x4 ∧ x5 ∧ x6 ∧ x7 ∧ x8 ∧ x9 ∧ x10 ∧ a ∧ b) : a := h.2.2.2.2.2.2.2.2.2.2.2.1
theorem cr1 {x0 a : Prop} (h : x0 ∧ a) : a := h.2
theorem cr2 {x0 x1 a : Prop} (h : x0 ∧ x1 ∧ a) : a := h.2.2
theorem cr3 {x0 x1 x2 a : Prop} (h : x0 ∧ x1 ∧ x2 ∧ a) : a := h.2.2.2
theorem cr4 {x0 x1 x2 x3 a : Prop} (h : x0 ∧ x1 ∧ x2 ∧ x3 ∧ a) : a := h.2.2.2.2
theorem cr5 {x0 x1 x2 x3 x4 a : Prop} (h : x0 ∧ x1 ∧ x2 ∧ x3 ∧ x4 ∧ a) : a := h.2.2.2.2.2
theorem cr6 {x0 x1 x2 x3 x4 x5 a : Prop} (h : x0 ∧ x1 ∧ x2 ∧ x3 ∧ x4 ∧ x5 ∧ a) : a := h.2.2.2.2.2.2
theorem cr7 {x0 x1 x2 x3 x4 x5 x6 a : Prop} (h : x0 ∧ x1 ∧ x2 ∧ x3 ∧ x4 ∧ x5 ∧ x6 ∧ a) : a := h.2.2.2.2.2.2.2
theorem cr8 {x0 x1 x2 x3 x4 x5 x6 x7 a : Prop} (h : x0 ∧ x1 ∧ x2 ∧ x3 ∧ x4 ∧ x5 ∧ x6 ∧ x7 ∧ a) : a := h.2.2.2.2.2.2.2.2
theorem cr9 {x0 x1 x2 x3 x4 x5 x6 x7 x8 a : Prop} (h : x0 ∧ x1 ∧ x2 ∧ x3 ∧ x4 ∧ x5 ∧ x6 ∧ x7 ∧ x8 ∧ a) : a := h.2.2.2.2.2.2.2.2.2
theorem cr10 {x0 x1 x2 x3 x4 x5 x6 x7 x8 x9 a : Prop} (h : x0 ∧ x1 ∧ x2 ∧ x3 ∧ x4 ∧ x5 ∧ x6 ∧ x7 ∧ x8 ∧ x9 ∧ a) : a := h.2.2.2.2.2.2.2.2.2.2
theorem cr11 {x0 x1 x2 x3 x4 x5 x6 x7 x8 x9 x10 a : Prop} (h : x0 ∧ x1 ∧ x2 ∧ x3 ∧ x4 ∧ x5 ∧ x6 ∧ x7 ∧ x8 ∧ x9 ∧ x10 ∧ a) : a := h.2.2.2.2.2.2.2.2.2.2.2
theorem peel {α β : Type} {q : α → β → Prop} {a : α} {b : β} (h : q a b) : q a b := h
theorem room3 {x a b n c : Nat} (h : x + n < c) (e : Nat.ble (a + b) n = true) : x + a + b < c := by have := Nat.le_of_ble_eq_true e; omega
theorem room4 {x a b d n c : Nat} (h : x + n < c) (e : Nat.ble (a + b + d) n = true) : x + a + b + d < c := by have := Nat.le_of_ble_eq_true e; omega
theorem roome {x a b d n : Nat} (h : x + n < 9900) (e : Nat.ble (a + b + d) n = true) : x + a + b + d < PySem.cLine := by rw [cLine_is]; exact room4 h e
theorem room2 {x a n c : Nat} (h : x + n < c) (e : Nat.ble a n = true) : x + a < c := by have := Nat.le_of_ble_eq_true e; omega
theorem room1 {x n c : Nat} (h : x + n < c) : x < c := by omega
theorem roomn {a b : Nat} (e : Nat.ble (a + b + 1) 9900 = true) : a + b < PySem.cLine := by rw [cLine_is]; exact Nat.le_of_ble_eq_true e
theorem roomc {x a b n : Nat} (h : x + n < 9900) (e : Nat.ble (a + b) n = true) : x + a + b < PySem.cLine := by rw [cLine_is]; exact room3 h e
theorem roomd {x a n : Nat} (h : x + n < 9900) (e : Nat.ble a n = true) : x + a < PySem.cLine := by rw [cLine_is]; exact room2 h e
theorem n_lt0 {a b : Nat} (e : Nat.ble (a + 1) b = true) : a < b := Nat.le_of_ble_eq_true e
theorem n_le0 {a b : Nat} (e : Nat.ble a b = true) : a ≤ b := Nat.le_of_ble_eq_true e
theorem n_ltlt {x a b : Nat} (h : x < a) (e : Nat.ble a b = true) : x < b := Nat.lt_of_lt_of_le h (Nat.le_of_ble_eq_true e)
theorem n_ltle {x a b : Nat} (h : x < a) (e : Nat.ble a (b + 1) = true) : x ≤ b := Nat.le_of_lt_succ (Nat.lt_of_lt_of_le h (Nat.le_of_ble_eq_true e))
theorem n_lele {x a b : Nat} (h : x ≤ a) (e : Nat.ble a b = true) : x ≤ b := Nat.le_trans h (Nat.le_of_ble_eq_true e)
theorem n_lelt {x a b : Nat} (h : x ≤ a) (e : Nat.ble (a + 1) b = true) : x < b := Nat.lt_of_le_of_lt h (Nat.le_of_ble_eq_true e)
theorem n_eqlt {x a b : Nat} (h : x = a) (e : Nat.ble (a + 1) b = true) : x < b := h ▸ Nat.le_of_ble_eq_true e
theorem n_lelt2 {x y a b : Nat} (h : x ≤ y) (h2 : y ≤ a) (e : Nat.ble (a + 1) b = true) : x < b := n_lelt (Nat.le_trans h h2) e
theorem n_lelt3 {x y a b : Nat} (h : x ≤ y) (h2 : y < a) (e : Nat.ble a b = true) : x < b := n_ltlt (Nat.lt_of_le_of_lt h h2) e
theorem i_ge {x : Int} {a b : Nat} (h : (OfNat.ofNat a : Int) ≤ x) (e : Nat.ble b a = true) : (OfNat.ofNat b : Int) ≤ x := Int.le_trans (Int.ofNat_le.mpr (Nat.le_of_ble_eq_true e)) h
theorem i_gt {x : Int} {a b : Nat} (h : (OfNat.ofNat a : Int) ≤ x) (e : Nat.ble (b + 1) a = true) : (OfNat.ofNat b : Int) < x := Int.lt_of_lt_of_le (Int.ofNat_lt.mpr (Nat.le_of_ble_eq_true e)) h
theorem i_lt {x : Int} {a b : Nat} (h : x < (OfNat.ofNat a : Int)) (e : Nat.ble a b = true) : x < (OfNat.ofNat b : Int) := Int.lt_of_lt_of_le h (Int.ofNat_le.mpr (Nat.le_of_ble_eq_true e))
theorem i_le {x : Int} {a b : Nat} (h : x ≤ (OfNat.ofNat a : Int)) (e : Nat.ble a b = true) : x ≤ (OfNat.ofNat b : Int) := Int.le_trans h (Int.ofNat_le.mpr (Nat.le_of_ble_eq_true e))
theorem i_lelt {x : Int} {a b : Nat} (h : x ≤ (OfNat.ofNat a : Int)) (e : Nat.ble (a + 1) b = true) : x < (OfNat.ofNat b : Int) := Int.lt_of_le_of_lt h (Int.ofNat_lt.mpr (Nat.le_of_ble_eq_true e))
theorem i_lt64 {x : Int} {a : Nat} (h : x < (OfNat.ofNat a : Int)) (e : Nat.ble a 18446744073709551616 = true) : x < 2 ^ 64 := i_lt h e
theorem i_gtn {x : Int} {a b : Nat} (h : (OfNat.ofNat a : Int) ≤ x) (e : Nat.ble 1 b = true) : -(OfNat.ofNat b : Int) < x := by
  have h1 : (0 : Int) ≤ OfNat.ofNat a := Int.ofNat_le.mpr (Nat.zero_le a)
  have h2 : (0 : Int) < OfNat.ofNat b := Int.ofNat_lt.mpr (Nat.le_of_ble_eq_true e)
  omega
theorem i_gt64 {x : Int} {a : Nat} (h : (OfNat.ofNat a : Int) ≤ x) : -2 ^ 64 < x := i_gtn (b := 18446744073709551616) h rfl
theorem i_ne {x : Int} {a b : Nat} (h : (OfNat.ofNat a : Int) ≤ x) (e : Nat.ble (b + 1) a = true) : x ≠ (OfNat.ofNat b : Int) := Int.ne_of_gt (i_gt h e)
theorem i_nlt {x : Int} {a b : Nat} (h : (OfNat.ofNat a : Int) ≤ x) (e : Nat.ble b a = true) : ¬ x < (OfNat.ofNat b : Int) := Int.not_lt.mpr (i_ge h e)
theorem i_ltn {x : Int} {n a b : Nat} (h : x < (n : Int)) (h2 : n ≤ a) (e : Nat.ble a b = true) : x < (OfNat.ofNat b : Int) := Int.lt_of_lt_of_le h (Int.ofNat_le.mpr (Nat.le_trans h2 (Nat.le_of_ble_eq_true e)))
theorem i_ltn2 {x : Int} {n a b : Nat} (h : x < (n : Int)) (h2 : n < a) (e : Nat.ble a b = true) : x < (OfNat.ofNat b : Int) := i_ltn h (Nat.le_of_lt h2) e
theorem i_neg {x : Int} {n : Nat} (h : 0 ≤ x) : -(n : Int) ≤ x := by omega
theorem i_ngt {b n : Nat} (e : Nat.ble 1 b = true) : -(OfNat.ofNat b : Int) < (n : Int) := i_gtn (a := 0) (Int.natCast_nonneg n) e
theorem i_eqn {x : Int} {n : Nat} (h : x = (n : Int)) : 0 ≤ x := h ▸ Int.natCast_nonneg n
theorem i_succ {x a : Int} (h : a ≤ x) : a ≤ x + 1 := Int.le_add_one h
theorem i_sub_less {len : Nat} {i : Int} (h0 : 0 ≤ i) (h : i < (len : Int)) : len - (i + 1).toNat < len - i.toNat := by omega
theorem i_sub_less2 {len : Nat} {i a : Int} (h0 : 0 ≤ a) (h1 : a ≤ i) (h : i < (len : Int)) : len - (i + 1).toNat < len - i.toNat := i_sub_less (Int.le_trans h0 h1) h
theorem n_sum {x y p q a b c : Nat} (h : x ≤ p) (k : y ≤ q) (hp : p ≤ a) (hq : q ≤ b) (e : Nat.ble (a + b) c = true) : x + y ≤ c := Nat.le_trans (Nat.add_le_add (Nat.le_trans h hp) (Nat.le_trans k hq)) (Nat.le_of_ble_eq_true e)
theorem sp8 {a1 a2 a3 a4 a5 a6 a7 a8 r Q : Prop} (h : a1 ∧ a2 ∧ a3 ∧ a4 ∧ a5 ∧ a6 ∧ a7 ∧ a8 ∧ r) (k : a1 → a2 → a3 → a4 → a5 → a6 → a7 → a8 → r → Q) : Q := k h.1 h.2.1 h.2.2.1 h.2.2.2.1 h.2.2.2.2.1 h.2.2.2.2.2.1 h.2.2.2.2.2.2.1 h.2.2.2.2.2.2.2.1 h.2.2.2.2.2.2.2.2
theorem sp4 {a1 a2 a3 a4 r Q : Prop} (h : a1 ∧ a2 ∧ a3 ∧ a4 ∧ r) (k : a1 → a2 → a3 → a4 → r → Q) : Q := k h.1 h.2.1 h.2.2.1 h.2.2.2.1 h.2.2.2.2

local macro_rules | `(tactic| walk_at $s:str) => `(tactic| k_extra $s)
local macro_rules | `(tactic| k_mem) => `(tactic| k_extra "k_mem")
local macro_rules | `(tactic| k_all) => `(tactic| k_extra "k_all")
local macro_rules | `(tactic| k_ne) => `(tactic| k_extra "k_ne")
local macro_rules | `(tactic| k_room) => `(tactic| k_extra "k_room")
local macro_rules | `(tactic| units_room) => `(tactic| k_extra "k_units")
local macro_rules | `(tactic| k_units) => `(tactic| k_extra "k_units")
local macro_rules | `(tactic| omega) => `(tactic| k_extra "om")
theorem wd0_J : True := by
  k_with_none
  k_with "u lt" => (with_reducible (first | assumption | exact cl0 ‹_› | exact cl1 ‹_› | exact cl2 ‹_› | exact cl3 ‹_› | exact cl4 ‹_› | exact cl5 ‹_› | exact cl6 ‹_› | exact cl7 ‹_› | exact cl8 ‹_› | exact cl9 ‹_› | exact cl10 ‹_› | exact cl11 ‹_› | exact cr1 ‹_› | exact cr2 ‹_› | exact cr3 ‹_› | exact cr4 ‹_› | exact cr5 ‹_› | exact cr6 ‹_› | exact cr7 ‹_› | exact cr8 ‹_› | exact cr9 ‹_› | exact cr10 ‹_› | exact cr11 ‹_›))
  k_with "u room" => (first | exact room3 (by with_reducible assumption) rfl | exact room2 (by with_reducible assumption) rfl | exact room4 (by with_reducible assumption) rfl | exact room1 (by with_reducible assumption) | exact roomc (by with_reducible assumption) rfl | exact roome (by with_reducible assumption) rfl | exact roomd (by with_reducible assumption) rfl | exact roomn rfl | exact Nat.le_of_ble_eq_true rfl)
  k_with "call ref" => ((k_here; k_extra "ct"))
  k_with "u dp" => (((try simp only [depth_deeper, depth_in1, depth_caller]); (try dsimp only); first | walk_at "u room" | omega))
  k_with "u un" => (((try simp only [units_deeper, units_in1, units_caller]); (try dsimp only); first | walk_at "u room" | omega))
  k_with "u end" => (((try k_sweep); (try dsimp only); (try ((fail_if_success (with_reducible show wpAny _ _ _ _ _ _)); refine peel ?_)); (try k_fold)))
  k_with "u om" => (first | walk_at "u lt" | walk_at "u room" | exact Nat.le_of_ble_eq_true rfl | omega)
  k_with "k_ne" => (first | exact NeA.ne (by with_reducible assumption) | exact Ne.symm (NeA.ne (by with_reducible assumption)) | exact Nat.ne_of_gt (by walk_at "u lt") | exact Nat.ne_of_lt (by walk_at "u lt"))
  k_with "k_room" => (((try simp only [depth_under_make, depth_under_kw, depth_in1, depth_deeper, depth_caller, recursionLimit]); (try dsimp only); first | walk_at "u room" | omega))
  k_with "k_units" => (first | ((try simp only [units_in1, units_deeper, Around.mark_units, units_caller]); (try dsimp only); walk_at "u room") | (have hcL9 := cLine_is; (try simp only [units_in1, units_deeper, Around.mark_units, units_caller]); (try dsimp only); omega))
  k_with "om" => (with_reducible ((fail_if_success exact True.intro); (fail_if_success exact not_false); first | decide | exact n_lt0 rfl | exact n_le0 rfl | exact n_ltlt ‹_› rfl | exact n_lelt ‹_› rfl | exact n_lele ‹_› rfl | exact n_ltle ‹_› rfl | exact n_eqlt ‹_› rfl | exact n_lelt2 ‹_› ‹_› rfl | exact n_lelt3 ‹_› ‹_› rfl | exact Int.natCast_nonneg _ | exact i_ngt rfl | exact i_ge ‹_› rfl | exact i_gt ‹_› rfl | exact i_gtn ‹_› rfl | exact i_gt64 ‹_› | exact i_lt ‹_› rfl | exact i_lt64 ‹_› rfl | exact i_lelt ‹_› rfl | exact i_le ‹_› rfl | exact i_ne ‹_› rfl | exact i_nlt ‹_› rfl | exact i_ltn ‹_› ‹_› rfl | exact i_ltn2 ‹_› ‹_› rfl | exact i_neg ‹_› | exact i_eqn ‹_› | exact i_succ ‹_› | exact Int.add_one_le_of_lt ‹_› | exact i_sub_less ‹_› ‹_› | exact i_sub_less2 ‹_› ‹_› ‹_› | exact n_sum ‹_› ‹_› ‹_› ‹_› rfl))
  exact True.intro

section
/-- the pairs of a list in a ledger -/
inductive Pairs (T : List (Addr × Obj)) : List (Str × Int × Int) → List Value → Prop
  | nil : Pairs T [] []
  | cons {a b : Addr} {t u v : Tok} {k : Str} {p q : Int} {ks : List (Str × Int × Int)} {vs : List Value} (h1 : (a, tupO [.str k t, .ref b]) ∈ T) (h2 : (b, tupO [.int p u, .int q v]) ∈ T) (r : Pairs T ks vs) : Pairs T ((k, p, q) :: ks) (.ref a :: vs)
theorem Pairs.more {T T' : List (Addr × Obj)} (h : ∀ x ∈ T, x ∈ T') : ∀ {ks : List (Str × Int × Int)} {vs : List Value}, Pairs T ks vs → Pairs T' ks vs
  | _, _, .nil => .nil
  | _, _, .cons h1 h2 r => .cons (h _ h1) (h _ h2) (Pairs.more h r)
/-- what one of the list's pairs is -/
inductive PairIn (T : List (Addr × Obj)) (ks : List (Str × Int × Int)) : Value → Prop
  | mk (a b : Addr) (t u v : Tok) (k : Str) (p q : Int) (h1 : (a, tupO [.str k t, .ref b]) ∈ T) (h2 : (b, tupO [.int p u, .int q v]) ∈ T) (hk : (k, p, q) ∈ ks) : PairIn T ks (.ref a)
theorem Pairs.get {T : List (Addr × Obj)} {ks : List (Str × Int × Int)} {vs : List Value} (P : Pairs T ks vs) {x : Value} (h : x ∈ vs) : PairIn T ks x := by
  induction P with
  | nil => exact nomatch h
  | cons h1 h2 r ih =>
    rcases List.mem_cons.mp h with e | e
    · subst e; exact .mk _ _ _ _ _ _ _ _ h1 h2 (.head _)
    · obtain ⟨a, b, t, u, v, k, p, q, g1, g2, hk⟩ := ih e
      exact .mk a b t u v k p q g1 g2 (.tail _ hk)
theorem Pairs.len {T : List (Addr × Obj)} : ∀ {ks : List (Str × Int × Int)} {vs : List Value}, Pairs T ks vs → vs.length = ks.length
  | _, _, .nil => rfl
  | _, _, .cons _ _ r => congrArg (· + 1) r.len
theorem pairs_cons {T : List (Addr × Obj)} {D1 D2 : Addr} {t u v : Tok} {k : Str} {p q : Int} {ks : List (Str × Int × Int)} {vs : List Value} (P : Pairs T ks vs) :
    Pairs ((D2, tupO [.str k t, .ref D1]) :: (D1, tupO [.int p u, .int q v]) :: T) ((k, p, q) :: ks) (.ref D2 :: vs) :=
  .cons (.head _) (.tail _ (.head _)) (P.more fun _ hx => .tail _ (.tail _ hx))
theorem pairs_turn {h₀ h : Heap} {L : Addr} {a b : Addr × Obj} {news T : List (Addr × Obj)} (N : News h₀ L h ((a :: b :: news) ++ T)) : News h₀ L h (news ++ (a :: b :: T)) := fun x hx => N x (by
  rcases List.mem_append.mp hx with h | h
  · exact List.mem_append_left _ (.tail _ (.tail _ h))
  · rcases List.mem_cons.mp h with h | h
    · exact List.mem_append_left _ (h ▸ .head _)
    · rcases List.mem_cons.mp h with h | h
      · exact List.mem_append_left _ (h ▸ .tail _ (.head _))
      · exact List.mem_append_right _ h)
/-- a written int -/
inductive IsInt : PySem.Expr → Int → Prop
  | pos {i : Int} {k : Nat} {ps : Pos} : IsInt (.Constant (.int i) k ps) i
  | neg {i : Int} {k : Nat} {ps ps' : Pos} : IsInt (.UnaryOp .USub (.Constant (.int i) k ps) ps') (-i)
/-- a display of pairs ('..', (p, q)) -/
inductive ArePairs : List PySem.Expr → List (Str × Int × Int) → Prop
  | nil : ArePairs [] []
  | cons {st : Str} {k k2 k3 : Nat} {ps ps2 ps3 : Pos} {a b : PySem.Expr} {p q : Int} {es : List PySem.Expr} {ks : List (Str × Int × Int)} (ha : IsInt a p) (hb : IsInt b q) (r : ArePairs es ks) :
      ArePairs (.Tuple [.Constant (.str st) k ps, .Tuple [a, b] k2 ps2] k3 ps3 :: es) ((st, p, q) :: ks)
section
variable {prog : Program} {w : World} {A : Around} {E : Value → Shared → Prop} {env : Env} {h₀ : Heap} {L : Addr} {m : Str → Option Value}
theorem int_w {e : PySem.Expr} {i : Int} {s : Shared} (h : IsInt e i) {Q : Value → Shared → Prop} (k : ∀ t tk, Q (.int i t) { s with toks := tk }) : wpAny (model prog w) A (eval e env) Q E s := by
  cases h with
  | pos => exact wpAny_Constant_int (k _ _)
  | neg => exact UnaryOp_ (wpAny_Constant_int (neg_int (k _ _)))
theorem star_int {e : PySem.Expr} {i : Int} (h : IsInt e i) (r : List PySem.Expr) : starEach (e :: r) env = (false, eval e env) :: starEach r env := by cases h <;> rfl
/-- a display of pairs makes them, all new -/
theorem pairs_w {es : List PySem.Expr} {ks : List (Str × Int × Int)} {pos : Pos} (hp : ArePairs es ks) : ∀ {s : Shared} {news : List (Addr × Obj)} {Q : List Value → Shared → Prop}, Fr h₀ L s.heap m → News h₀ L s.heap news →
    (∀ (T : List (Addr × Obj)) (vs : List Value) (h' : Heap) (tk' : Nat), Pairs T ks vs → Fr h₀ L h' m → News h₀ L h' (news ++ T) → (∀ x ∈ T, ∀ p ∈ news, p.1 < x.1) → Q vs { s with heap := h', toks := tk' }) →
    wpAny (model prog w) A (spliced (backTo pos (starEach es env))) Q E s := by
  induction hp with
  | nil =>
    intro s news Q F N k
    exact args_nil (k [] [] s.heap s.toks .nil F (by rw [List.append_nil]; exact N) (fun x hx => nomatch hx))
  | cons ha hb r ih =>
    intro s news Q F N k
    refine args_cons (Tuple_ (args_cons (Constant_str (args_cons (Tuple_ (args_cons (int_w ha fun t1 tk1 => args_cons (int_w hb fun t2 tk2 => args_nil ?_) (star_int hb _)) (star_int ha _))))))) 
    refine kup_newTuple F N (fun D1 h1 F1 N1 l1 => args_nil (kup_newTuple F1 N1 (fun D2 h2 F2 N2 l2 => ?_) (Nat.le_of_ble_eq_true rfl))) (Nat.le_of_ble_eq_true rfl)
    refine ih F2 N2 (fun T vs h' tk' P F' N' off => ?_)
    refine k _ _ h' tk' (pairs_cons P) F' (pairs_turn N') ?_
    · intro x hx p hp
      rcases List.mem_cons.mp hx with h | h
      · subst h; exact l2 p (.tail _ hp)
      · rcases List.mem_cons.mp h with h | h
        · subst h; exact l1 p hp
        · exact off x h p (.tail _ (.tail _ hp))
end

end
section
theorem wd1_P2 : True := by
  k_with_none
  k_with "u lt" => (with_reducible (first | assumption | exact cl0 ‹_› | exact cl1 ‹_› | exact cl2 ‹_› | exact cl3 ‹_› | exact cl4 ‹_› | exact cl5 ‹_› | exact cl6 ‹_› | exact cl7 ‹_› | exact cl8 ‹_› | exact cl9 ‹_› | exact cl10 ‹_› | exact cl11 ‹_› | exact cr1 ‹_› | exact cr2 ‹_› | exact cr3 ‹_› | exact cr4 ‹_› | exact cr5 ‹_› | exact cr6 ‹_› | exact cr7 ‹_› | exact cr8 ‹_› | exact cr9 ‹_› | exact cr10 ‹_› | exact cr11 ‹_›))
  k_with "u room" => (first | exact room3 (by with_reducible assumption) rfl | exact room2 (by with_reducible assumption) rfl | exact room4 (by with_reducible assumption) rfl | exact room1 (by with_reducible assumption) | exact roomc (by with_reducible assumption) rfl | exact roome (by with_reducible assumption) rfl | exact roomd (by with_reducible assumption) rfl | exact roomn rfl | exact Nat.le_of_ble_eq_true rfl)
  k_with "call ref" => ((k_here; k_extra "ct"))
  k_with "u dp" => (((try simp only [depth_deeper, depth_in1, depth_caller]); (try dsimp only); first | walk_at "u room" | omega))
  k_with "u un" => (((try simp only [units_deeper, units_in1, units_caller]); (try dsimp only); first | walk_at "u room" | omega))
  k_with "u end" => (((try k_sweep); (try dsimp only); (try ((fail_if_success (with_reducible show wpAny _ _ _ _ _ _)); refine peel ?_)); (try k_fold)))
  k_with "u om" => (first | walk_at "u lt" | walk_at "u room" | exact Nat.le_of_ble_eq_true rfl | omega)
  k_with "k_ne" => (first | exact NeA.ne (by with_reducible assumption) | exact Ne.symm (NeA.ne (by with_reducible assumption)) | exact Nat.ne_of_gt (by walk_at "u lt") | exact Nat.ne_of_lt (by walk_at "u lt"))
  k_with "k_room" => (((try simp only [depth_under_make, depth_under_kw, depth_in1, depth_deeper, depth_caller, recursionLimit]); (try dsimp only); first | walk_at "u room" | omega))
  k_with "k_units" => (first | ((try simp only [units_in1, units_deeper, Around.mark_units, units_caller]); (try dsimp only); walk_at "u room") | (have hcL9 := cLine_is; (try simp only [units_in1, units_deeper, Around.mark_units, units_caller]); (try dsimp only); omega))
  k_with "om" => (with_reducible ((fail_if_success exact True.intro); (fail_if_success exact not_false); first | decide | exact n_lt0 rfl | exact n_le0 rfl | exact n_ltlt ‹_› rfl | exact n_lelt ‹_› rfl | exact n_lele ‹_› rfl | exact n_ltle ‹_› rfl | exact n_eqlt ‹_› rfl | exact n_lelt2 ‹_› ‹_› rfl | exact n_lelt3 ‹_› ‹_› rfl | exact Int.natCast_nonneg _ | exact i_ngt rfl | exact i_ge ‹_› rfl | exact i_gt ‹_› rfl | exact i_gtn ‹_› rfl | exact i_gt64 ‹_› | exact i_lt ‹_› rfl | exact i_lt64 ‹_› rfl | exact i_lelt ‹_› rfl | exact i_le ‹_› rfl | exact i_ne ‹_› rfl | exact i_nlt ‹_› rfl | exact i_ltn ‹_› ‹_› rfl | exact i_ltn2 ‹_› ‹_› rfl | exact i_neg ‹_› | exact i_eqn ‹_› | exact i_succ ‹_› | exact Int.add_one_le_of_lt ‹_› | exact i_sub_less ‹_› ‹_› | exact i_sub_less2 ‹_› ‹_› ‹_› | exact n_sum ‹_› ‹_› ‹_› ‹_› rfl))
  k_with "subscriptTail Name Constant ref int" => ((k_here; k_dflt (refine' item_L ?N_w0 ?m_w0 ?a_w0 ?b_w0 ?x_w0 ?_; (case N_w0 => k_asm); (case m_w0 => k_mem); (case a_w0 => decide); (case b_w0 => decide); (case x_w0 => exact rfl); k_whole)))
  k_with "binaryOp FloorDiv int int" => (refine floordiv_int (by omega) ?_ (Or.inl (PyProof.noPylong_small (by omega))))
  k_with "binaryOp Mult int int" => ((refine mul_int ?_ (hm := mul_ok (by first | omega | (refine ⟨(fmod_bd _ (by decide)).1, Int.lt_of_lt_of_le (fmod_bd _ (by decide)).2 (by decide)⟩)))))
  exact True.intro
theorem pick_code {w : World} {mean : ExcName → Option Value} {mg mb : Str → Option Value} {A₀ : Around} {dp un : Nat} {gd : Option (List Code)} {s : Shared} {base h₀ : Heap} {outer : List Env} {L : Addr} {m : Str → Option Value} {env : Env} {R : Result → Shared → Prop}
  (B : Below A₀ base outer h₀) (F : Fr h₀ L s.heap m) (X : (heapK w.params).In h₀) (T : Top viewK lo mean mg mb h₀) (hf : env.frame = some L) (hke : env.scope.kind = .function) {b : Addr} {x y top : Int} {t1 t2 t3 : Tok} {n : Nat}
  (hdep : dp + 3 < 1000) (hun : un + 24 < 9900)
  (N : News h₀ L s.heap [(b, W.listOf #[.int x t1, .int y t2] n)])
  (hx : 0 ≤ x) (hy0 : 0 ≤ y) (hy: y < 2147483647) (htop : 1 ≤ top) (htop2 : top < 1000)
  (ret : ∀ (k x' y' : Int) (tk t1' t2' : Tok) (h' : Heap) (tk' : Nat), 0 ≤ k → k < top → 0 ≤ x' → 0 ≤ y' → y' < 2147483647 → Keeps [b] s.heap h' → h'.get? b = some (W.listOf #[.int x' t1', .int y' t2'] n) →
     R (.ok (.ret (.int k tk))) { s with heap := h', toks := tk' }) :
  codeAny (model PySem.Challenge.rw_xm0671_01.row.prog w) (Around.mk none dp (some (env :: outer)) gd un) (.call (.ref 409) ⟨[.ref b, .int top t3], []⟩) R s := by
  k_dflt (refine' code_defG ?k1 ?k2 ?k3 ?k4 ?k5 ?kA ?kF ?kK ?k6 ?k7 ?k8 ?k9 ?kB ?_ ?c2 ?c3 ?c4 ?c5; (case kA => exact rfl); (case kF => exact hf); (case kK => exact hke); (case k1 => k_asm); (case k2 => k_asm); (case k3 => k_asm); (case k4 => k_asm); (case k5 => k_asm); (case k6 => k_is); (case k7 => k_is); (case k8 => (simp only [recursionLimit]; first | walk_at "u room" | omega)); (case k9 => first | exact BindsTo.of_eq rfl | exact binds_K (by k_in) rfl (by k_is) rfl rfl rfl | fail "k_enter: no rule for these arguments"); (case c5 => decide); (case kB => exact locs rfl); (case c2 => exact rfl); (case c3 => exact rfl); (case c4 => exact rfl); k_whole)
  intro g' L' h' FG' F' N' B' X' T' kG'
  try dsimp only
  try k_fold
  k_steps
  all_goals (rename Fr g' L' _ _ => zF; rename News g' L' _ _ => zN)
  · exact ret _ (x.fdiv top) y _ _ _ _ _ (fmod_bd _ (by omega)).1 (fmod_bd _ (by omega)).2 (fdiv_nn hx (by omega)) hy0 hy (keeps_of kG' zF) (zN.get (by k_mem))
  · exact ret _ x _ _ _ _ _ _ (fmod_bd _ (by omega)).1 (fmod_bd _ (by omega)).2 hx (fmod_bd _ (by decide)).1 (fmod_bd _ (by decide)).2 (keeps_of kG' zF) (zN.get (by k_mem))

end
section
theorem wd1_P3 : True := by
  k_with_none
  k_with "u lt" => (with_reducible (first | assumption | exact cl0 ‹_› | exact cl1 ‹_› | exact cl2 ‹_› | exact cl3 ‹_› | exact cl4 ‹_› | exact cl5 ‹_› | exact cl6 ‹_› | exact cl7 ‹_› | exact cl8 ‹_› | exact cl9 ‹_› | exact cl10 ‹_› | exact cl11 ‹_› | exact cr1 ‹_› | exact cr2 ‹_› | exact cr3 ‹_› | exact cr4 ‹_› | exact cr5 ‹_› | exact cr6 ‹_› | exact cr7 ‹_› | exact cr8 ‹_› | exact cr9 ‹_› | exact cr10 ‹_› | exact cr11 ‹_›))
  k_with "u room" => (first | exact room3 (by with_reducible assumption) rfl | exact room2 (by with_reducible assumption) rfl | exact room4 (by with_reducible assumption) rfl | exact room1 (by with_reducible assumption) | exact roomc (by with_reducible assumption) rfl | exact roome (by with_reducible assumption) rfl | exact roomd (by with_reducible assumption) rfl | exact roomn rfl | exact Nat.le_of_ble_eq_true rfl)
  k_with "call ref" => ((k_here; k_extra "ct"))
  k_with "u dp" => (((try simp only [depth_deeper, depth_in1, depth_caller]); (try dsimp only); first | walk_at "u room" | omega))
  k_with "u un" => (((try simp only [units_deeper, units_in1, units_caller]); (try dsimp only); first | walk_at "u room" | omega))
  k_with "u end" => (((try k_sweep); (try dsimp only); (try ((fail_if_success (with_reducible show wpAny _ _ _ _ _ _)); refine peel ?_)); (try k_fold)))
  k_with "u om" => (first | walk_at "u lt" | walk_at "u room" | exact Nat.le_of_ble_eq_true rfl | omega)
  k_with "k_ne" => (first | exact NeA.ne (by with_reducible assumption) | exact Ne.symm (NeA.ne (by with_reducible assumption)) | exact Nat.ne_of_gt (by walk_at "u lt") | exact Nat.ne_of_lt (by walk_at "u lt"))
  k_with "k_room" => (((try simp only [depth_under_make, depth_under_kw, depth_in1, depth_deeper, depth_caller, recursionLimit]); (try dsimp only); first | walk_at "u room" | omega))
  k_with "k_units" => (first | ((try simp only [units_in1, units_deeper, Around.mark_units, units_caller]); (try dsimp only); walk_at "u room") | (have hcL9 := cLine_is; (try simp only [units_in1, units_deeper, Around.mark_units, units_caller]); (try dsimp only); omega))
  k_with "om" => (with_reducible ((fail_if_success exact True.intro); (fail_if_success exact not_false); first | decide | exact n_lt0 rfl | exact n_le0 rfl | exact n_ltlt ‹_› rfl | exact n_lelt ‹_› rfl | exact n_lele ‹_› rfl | exact n_ltle ‹_› rfl | exact n_eqlt ‹_› rfl | exact n_lelt2 ‹_› ‹_› rfl | exact n_lelt3 ‹_› ‹_› rfl | exact Int.natCast_nonneg _ | exact i_ngt rfl | exact i_ge ‹_› rfl | exact i_gt ‹_› rfl | exact i_gtn ‹_› rfl | exact i_gt64 ‹_› | exact i_lt ‹_› rfl | exact i_lt64 ‹_› rfl | exact i_lelt ‹_› rfl | exact i_le ‹_› rfl | exact i_ne ‹_› rfl | exact i_nlt ‹_› rfl | exact i_ltn ‹_› ‹_› rfl | exact i_ltn2 ‹_› ‹_› rfl | exact i_neg ‹_› | exact i_eqn ‹_› | exact i_succ ‹_› | exact Int.add_one_le_of_lt ‹_› | exact i_sub_less ‹_› ‹_› | exact i_sub_less2 ‹_› ‹_› ‹_› | exact n_sum ‹_› ‹_› ‹_› ‹_› rfl))
  k_with "call builtin:len" => ((k_here; (with_reducible show wpAny _ _ (call (Value.builtin "len") [Value.ref _]) _ _ _); k_dflt (refine' len_L ?n_w0 ?m_w0 ?f_w0 ?_; (case n_w0 => k_asm); (case m_w0 => k_mem); (case f_w0 => omega); k_whole)))
  k_with "subscriptTail" => ((k_here; (with_reducible show wpAny _ _ (subscriptTail _ _ (Value.ref _) (Value.int _ _)) _ _ _); k_dflt (refine' item_S ?n_w1 ?m_w1 ?a_w1 ?b_w1 ?c_w1 ?_; (case n_w1 => k_asm); (case m_w1 => k_mem); (case a_w1 => omega); (case b_w1 => omega); (case c_w1 => omega); k_whole; intro vp_q hvp_q hvq_q)))
  k_with "ct" => ((with_reducible show wpAny _ _ (call (Value.ref 409) [Value.ref _, Value.int _ _]) _ _ _); k_dflt (first | (refine wpAny_call ?_; refine' pick_code (by k_asm) (by k_asm) (by k_asm) (by k_asm) rfl rfl (by walk_at "u dp") (by walk_at "u un") (by exact List.forall_mem_cons.mpr ⟨(by k_asm : News _ _ _ _) _ (by k_mem), List.forall_mem_nil _⟩) (by walk_at "u om") (by walk_at "u om") (by walk_at "u om") (by walk_at "u om") (by walk_at "u om") ?_; k_whole; intro kp_q xp_q yp_q tkp_q t1p_q t2p_q hp_q tkq_q hkp0_q hkp1_q hxp_q hyp0_q hyp1_q kpp_q hbp_q; (have F_q := after_oneF (by k_asm) (by k_asm) (by k_mem) kpp_q); (have N_q := after_oneN (by k_asm) (by k_asm) (U := by k_upd) kpp_q hbp_q); walk_at "u end")))
  exact True.intro
theorem one_code {w : World} {mean : ExcName → Option Value} {mg mb : Str → Option Value} {A₀ : Around} {dp un : Nat} {gd : Option (List Code)} {s : Shared} {base h₀ : Heap} {outer : List Env} {L : Addr} {m : Str → Option Value} {env : Env} {R : Result → Shared → Prop}
  (B : Below A₀ base outer h₀) (F : Fr h₀ L s.heap m) (X : (heapK w.params).In h₀) (T : Top viewK lo mean mg mb h₀) (hf : env.frame = some L) (hke : env.scope.kind = .function) {b l : Addr} {x y : Int} {t1 t2 : Tok} {n nl : Nat} {vs : List Value}
  (hdep : dp + 6 < 1000) (hun : un + 48 < 9900)
  (N : News h₀ L s.heap [(b, W.listOf #[.int x t1, .int y t2] n), (l, W.listOf vs.toArray nl)])
  (hbl : @Ne Nat b l)
  (hx : 0 ≤ x) (hy0 : 0 ≤ y) (hy: y < 2147483647) (hv : 1 ≤ vs.length) (hv2 : vs.length < 1000)
  (ret : ∀ (v : Value) (x' y' : Int) (t1' t2' : Tok) (h' : Heap) (tk' : Nat), v ∈ vs → 0 ≤ x' → 0 ≤ y' → y' < 2147483647 → Keeps [b] s.heap h' → h'.get? b = some (W.listOf #[.int x' t1', .int y' t2'] n) →
     R (.ok (.ret v)) { s with heap := h', toks := tk' }) :
  codeAny (model PySem.Challenge.rw_xm0671_01.row.prog w) (Around.mk none dp (some (env :: outer)) gd un) (.call (.ref 416) ⟨[.ref b, .ref l], []⟩) R s := by
  k_dflt (refine' code_defG ?k1 ?k2 ?k3 ?k4 ?k5 ?kA ?kF ?kK ?k6 ?k7 ?k8 ?k9 ?kB ?_ ?c2 ?c3 ?c4 ?c5; (case kA => exact rfl); (case kF => exact hf); (case kK => exact hke); (case k1 => k_asm); (case k2 => k_asm); (case k3 => k_asm); (case k4 => k_asm); (case k5 => k_asm); (case k6 => k_is); (case k7 => k_is); (case k8 => (simp only [recursionLimit]; first | walk_at "u room" | omega)); (case k9 => first | exact BindsTo.of_eq rfl | exact binds_K (by k_in) rfl (by k_is) rfl rfl rfl | fail "k_enter: no rule for these arguments"); (case c5 => decide); (case kB => exact locs rfl); (case c2 => exact rfl); (case c3 => exact rfl); (case c4 => exact rfl); k_whole)
  intro g' L' h' FG' F' N' B' X' T' kG'
  try dsimp only
  try k_fold
  k_steps
  all_goals (rename Fr g' L' _ _ => zF; rename News g' L' _ _ => zN)
  refine' ret _ _ _ _ _ _ _ (by assumption) ?a ?b ?c (keeps_but kG' N zF zN (by (repeat' (first | exact List.forall_mem_nil _ | refine List.forall_mem_cons.mpr ⟨?_, ?_⟩ | exact Or.inr (by k_mem) | exact Or.inl (by k_mem))))) ?e
  case e => exact (zN.get (by k_mem))
  all_goals assumption

end
section
theorem bag_nn (c : Int) (q : Bool) : 0 ≤ (if -1 - c > c then -1 - c else c) * (if q = true then 1 else 0) := by
  have h : 0 ≤ (if -1 - c > c then -1 - c else c) := by split <;> omega
  cases q
  · simp
  · simpa using h
theorem bag_code {w : World} {mean : ExcName → Option Value} {mg mb : Str → Option Value} {A₀ : Around} {dp un : Nat} {gd : Option (List Code)} {s : Shared} {base h₀ : Heap} {outer : List Env} {L : Addr} {m : Str → Option Value} {env : Env} {R : Result → Shared → Prop}
  (B : Below A₀ base outer h₀) (F : Fr h₀ L s.heap m) (X : (heapK w.params).In h₀) (T : Top viewK lo mean mg mb h₀) (hf : env.frame = some L) (hke : env.scope.kind = .function) {a : Addr} {vs : List Value} {ns : List Int} (hl : base.IsList a vs.toArray) (hi : IntsAre vs ns)
  (hdep : dp + 3 < 1000) (hun : un + 200 < 9900)
  (ret : ∀ (b : Addr) (x' y' : Int) (t1' t2' : Tok) (h' : Heap) (tk' : Nat), h'.get? b = some (W.listOf #[.int x' t1', .int y' t2'] 0) → Keeps [] s.heap h' → s.heap.get? b = none → 0 ≤ x' → 0 ≤ y' → y' < 2147483647 →
     R (.ok (.ret (.ref b))) { s with heap := h', toks := tk' }) :
  codeAny (model PySem.Challenge.rw_xm0671_01.row.prog w) (Around.mk none dp (some (env :: outer)) gd un) (.call (.ref 402) ⟨[.ref a], []⟩) R s := by
  have N : News h₀ L s.heap [] := News.nil
  k_dflt (refine' code_defG ?k1 ?k2 ?k3 ?k4 ?k5 ?kA ?kF ?kK ?k6 ?k7 ?k8 ?k9 ?kB ?_ ?c2 ?c3 ?c4 ?c5; (case kA => exact rfl); (case kF => exact hf); (case kK => exact hke); (case k1 => k_asm); (case k2 => k_asm); (case k3 => k_asm); (case k4 => k_asm); (case k5 => k_asm); (case k6 => k_is); (case k7 => k_is); (case k8 => (simp only [recursionLimit]; first | walk_at "u room" | omega)); (case k9 => first | exact BindsTo.of_eq rfl | exact binds_K (by k_in) rfl (by k_is) rfl rfl rfl | fail "k_enter: no rule for these arguments"); (case c5 => decide); (case kB => exact locs rfl); (case c2 => exact rfl); (case c3 => exact rfl); (case c4 => exact rfl); k_whole)
  intro g' L' h' FG' F' N' B' X' T' kG'
  try dsimp only
  try k_fold
  k_lift B'
  cases hi
  all_goals k_steps
  all_goals (rename Fr g' L' _ _ => zF; rename News g' L' _ _ => zN)
  all_goals exact ret _ _ _ _ _ _ _ (zN.get (by k_mem)) (keeps_of kG' zF) (fresh_of kG' zN (by k_mem) (by simp)) (bag_nn _ _) (fmod_bd _ (by decide)).1 (fmod_bd _ (by decide)).2

end
section
def wordsT : List (Str × Int × Int) := [(Str.ofString "1", 1, 1), (Str.ofString "0.5", 1, 2), (Str.ofString "-3", -3, 1), (Str.ofString "", 0, 0), (Str.ofString "a", 0, 0), (Str.ofString "7.", 7, 1), (Str.ofString ".25", 1, 4)]

theorem wd1_P5 : True := by
  k_with_none
  k_with "u lt" => (with_reducible (first | assumption | exact cl0 ‹_› | exact cl1 ‹_› | exact cl2 ‹_› | exact cl3 ‹_› | exact cl4 ‹_› | exact cl5 ‹_› | exact cl6 ‹_› | exact cl7 ‹_› | exact cl8 ‹_› | exact cl9 ‹_› | exact cl10 ‹_› | exact cl11 ‹_› | exact cr1 ‹_› | exact cr2 ‹_› | exact cr3 ‹_› | exact cr4 ‹_› | exact cr5 ‹_› | exact cr6 ‹_› | exact cr7 ‹_› | exact cr8 ‹_› | exact cr9 ‹_› | exact cr10 ‹_› | exact cr11 ‹_›))
  k_with "u room" => (first | exact room3 (by with_reducible assumption) rfl | exact room2 (by with_reducible assumption) rfl | exact room4 (by with_reducible assumption) rfl | exact room1 (by with_reducible assumption) | exact roomc (by with_reducible assumption) rfl | exact roome (by with_reducible assumption) rfl | exact roomd (by with_reducible assumption) rfl | exact roomn rfl | exact Nat.le_of_ble_eq_true rfl)
  k_with "call ref" => ((k_here; k_extra "ct"))
  k_with "u dp" => (((try simp only [depth_deeper, depth_in1, depth_caller]); (try dsimp only); first | walk_at "u room" | omega))
  k_with "u un" => (((try simp only [units_deeper, units_in1, units_caller]); (try dsimp only); first | walk_at "u room" | omega))
  k_with "u end" => (((try k_sweep); (try dsimp only); (try ((fail_if_success (with_reducible show wpAny _ _ _ _ _ _)); refine peel ?_)); (try k_fold)))
  k_with "u om" => (first | walk_at "u lt" | walk_at "u room" | exact Nat.le_of_ble_eq_true rfl | omega)
  k_with "k_ne" => (first | exact NeA.ne (by with_reducible assumption) | exact Ne.symm (NeA.ne (by with_reducible assumption)) | exact Nat.ne_of_gt (by walk_at "u lt") | exact Nat.ne_of_lt (by walk_at "u lt"))
  k_with "k_room" => (((try simp only [depth_under_make, depth_under_kw, depth_in1, depth_deeper, depth_caller, recursionLimit]); (try dsimp only); first | walk_at "u room" | omega))
  k_with "k_units" => (first | ((try simp only [units_in1, units_deeper, Around.mark_units, units_caller]); (try dsimp only); walk_at "u room") | (have hcL9 := cLine_is; (try simp only [units_in1, units_deeper, Around.mark_units, units_caller]); (try dsimp only); omega))
  k_with "om" => (with_reducible ((fail_if_success exact True.intro); (fail_if_success exact not_false); first | decide | exact n_lt0 rfl | exact n_le0 rfl | exact n_ltlt ‹_› rfl | exact n_lelt ‹_› rfl | exact n_lele ‹_› rfl | exact n_ltle ‹_› rfl | exact n_eqlt ‹_› rfl | exact n_lelt2 ‹_› ‹_› rfl | exact n_lelt3 ‹_› ‹_› rfl | exact Int.natCast_nonneg _ | exact i_ngt rfl | exact i_ge ‹_› rfl | exact i_gt ‹_› rfl | exact i_gtn ‹_› rfl | exact i_gt64 ‹_› | exact i_lt ‹_› rfl | exact i_lt64 ‹_› rfl | exact i_lelt ‹_› rfl | exact i_le ‹_› rfl | exact i_ne ‹_› rfl | exact i_nlt ‹_› rfl | exact i_ltn ‹_› ‹_› rfl | exact i_ltn2 ‹_› ‹_› rfl | exact i_neg ‹_› | exact i_eqn ‹_› | exact i_succ ‹_› | exact Int.add_one_le_of_lt ‹_› | exact i_sub_less ‹_› ‹_› | exact i_sub_less2 ‹_› ‹_› ‹_› | exact n_sum ‹_› ‹_› ‹_› ‹_› rfl))
  k_with "k_all" => (with_reducible assumption)
  k_with "k_mem" => (first | exact List.mem_cons_self | with_reducible assumption | (refine List.mem_cons_of_mem _ ?_; k_mem))
  k_with "ct" => ((with_reducible show wpAny _ _ (call (Value.ref 416) [Value.ref _, Value.ref _]) _ _ _); k_dflt (first | (refine wpAny_call ?_; refine' one_code (by k_asm) (by k_asm) (by k_asm) (by k_asm) rfl rfl (by walk_at "u dp") (by walk_at "u un") (by exact List.forall_mem_cons.mpr ⟨(by k_asm : News _ _ _ _) _ (by k_mem), List.forall_mem_cons.mpr ⟨(by k_asm : News _ _ _ _) _ (by k_mem), List.forall_mem_nil _⟩⟩) (by (first | k_ne | omega)) (by walk_at "u om") (by walk_at "u om") (by walk_at "u om") (by (first | omega | decide | (simp only [List.length_cons, List.length_nil]; omega))) (by (first | omega | decide | (simp only [List.length_cons, List.length_nil]; omega))) ?_; k_whole; intro vp_q xp_q yp_q t1p_q t2p_q hp_q tkq_q hvp_q hxp_q hyp0_q hyp1_q kpp_q hbp_q; (have F_q := after_oneF (by k_asm) (by k_asm) (by k_mem) kpp_q); (have N_q := after_oneN (by k_asm) (by k_asm) (U := by k_upd) kpp_q hbp_q); walk_at "u end")))
  exact True.intro
theorem word_code {w : World} {mean : ExcName → Option Value} {mg mb : Str → Option Value} {A₀ : Around} {dp un : Nat} {gd : Option (List Code)} {s : Shared} {base h₀ : Heap} {outer : List Env} {L : Addr} {m : Str → Option Value} {env : Env} {R : Result → Shared → Prop}
  (B : Below A₀ base outer h₀) (F : Fr h₀ L s.heap m) (X : (heapK w.params).In h₀) (T : Top viewK lo mean mg mb h₀) (hf : env.frame = some L) (hke : env.scope.kind = .function) {b : Addr} {x y : Int} {t1 t2 : Tok} {n : Nat}
  (hdep : dp + 9 < 1000) (hun : un + 72 < 9900)
  (N : News h₀ L s.heap [(b, W.listOf #[.int x t1, .int y t2] n)])
  (hx : 0 ≤ x) (hy0 : 0 ≤ y) (hy: y < 2147483647)
  (ret : ∀ (a a2 : Addr) (st : Str) (p q : Int) (t t3 t4 : Tok) (x' y' : Int) (t1' t2' : Tok) (h' : Heap) (tk' : Nat), h'.get? a = some (tupO [.str st t, .ref a2]) → h'.get? a2 = some (tupO [.int p t3, .int q t4]) →
     h'.get? b = some (W.listOf #[.int x' t1', .int y' t2'] n) → Keeps [b] s.heap h' → s.heap.get? a = none → s.heap.get? a2 = none → (st, p, q) ∈ wordsT → 0 ≤ x' → 0 ≤ y' → y' < 2147483647 →
     R (.ok (.ret (.ref a))) { s with heap := h', toks := tk' }) :
  codeAny (model PySem.Challenge.rw_xm0671_01.row.prog w) (Around.mk none dp (some (env :: outer)) gd un) (.call (.ref 423) ⟨[.ref b], []⟩) R s := by
  k_dflt (refine' code_defG ?k1 ?k2 ?k3 ?k4 ?k5 ?kA ?kF ?kK ?k6 ?k7 ?k8 ?k9 ?kB ?_ ?c2 ?c3 ?c4 ?c5; (case kA => exact rfl); (case kF => exact hf); (case kK => exact hke); (case k1 => k_asm); (case k2 => k_asm); (case k3 => k_asm); (case k4 => k_asm); (case k5 => k_asm); (case k6 => k_is); (case k7 => k_is); (case k8 => (simp only [recursionLimit]; first | walk_at "u room" | omega)); (case k9 => first | exact BindsTo.of_eq rfl | exact binds_K (by k_in) rfl (by k_is) rfl rfl rfl | fail "k_enter: no rule for these arguments"); (case c5 => decide); (case kB => exact locs rfl); (case c2 => exact rfl); (case c3 => exact rfl); (case c4 => exact rfl); k_whole)
  intro g' L' h' FG' F' N' B' X' T' kG'
  try dsimp only
  try k_fold
  k_with "newList" => (k_here; k_dflt (refine' newList_K ?zk1 ?zk2 ?_ ?zk3; (case zk1 => k_asm); (case zk2 => k_asm); (case zk3 => exact Nat.le_trans (Nat.le_of_eq (Pairs.len (by with_reducible assumption))) (Nat.le_of_ble_eq_true rfl)); k_whole; intro l_q h_q F_q N_q l1_q; k_lt l1_q; k_sweep))
  k_with "eval List" => (k_here; k_dflt (refine List_ ?_; refine' pairs_w (ks := wordsT) ?zap ?zF ?zN ?_; (case zF => k_asm); (case zN => k_asm); (case zap => (repeat' (first | exact ArePairs.nil | exact IsInt.pos | exact IsInt.neg | refine ArePairs.cons ?_ ?_ ?_))); intro T9 vs9 h9 tk9 pr9 F9 N9 off9; simp only [List.cons_append, List.nil_append] at N9; have hl9 : vs9.length = 7 := pr9.len; have ne9 : ∀ p ∈ T9, p.1 ≠ b := fun p hp => Nat.ne_of_gt (off9 p hp _ (.head _))))
  k_steps
  all_goals (rename Fr g' L' _ _ => zF; rename News g' L' _ _ => zN)
  (rename (_ ∈ _) => zv)
  rename Pairs _ _ _ => zP
  rename (∀ p ∈ _, _ ≠ _) => zo
  obtain ⟨a, a2, t, u, v, st, p, q, g1, g2, hk⟩ := zP.get zv
  exact ret _ _ _ _ _ _ _ _ _ _ _ _ _ _ (zN.get (by k_mem)) (zN.get (by k_mem)) (zN.get (by k_mem)) (keeps_of kG' zF) (fresh_of kG' zN (by k_mem) (fun e => zo _ g1 (List.mem_singleton.mp e))) (fresh_of kG' zN (by k_mem) (fun e => zo _ g2 (List.mem_singleton.mp e))) hk (by assumption) (by assumption) (by assumption)

end
section
inductive PlainV (v : Value) (a2 : Addr) (p q : Int) : Prop
  | bool (c : Bool) : v = .bool c → p = (if c then 1 else 0) → q = 1 → PlainV v a2 p q
  | word (st : Str) (t : Tok) : v = .str st t → (st, p, q) ∈ wordsT → PlainV v a2 p q
  | num : v = .ref a2 → PlainV v a2 p q

theorem wd1_P6 : True := by
  k_with_none
  k_with "u lt" => (with_reducible (first | assumption | exact cl0 ‹_› | exact cl1 ‹_› | exact cl2 ‹_› | exact cl3 ‹_› | exact cl4 ‹_› | exact cl5 ‹_› | exact cl6 ‹_› | exact cl7 ‹_› | exact cl8 ‹_› | exact cl9 ‹_› | exact cl10 ‹_› | exact cl11 ‹_› | exact cr1 ‹_› | exact cr2 ‹_› | exact cr3 ‹_› | exact cr4 ‹_› | exact cr5 ‹_› | exact cr6 ‹_› | exact cr7 ‹_› | exact cr8 ‹_› | exact cr9 ‹_› | exact cr10 ‹_› | exact cr11 ‹_›))
  k_with "u room" => (first | exact room3 (by with_reducible assumption) rfl | exact room2 (by with_reducible assumption) rfl | exact room4 (by with_reducible assumption) rfl | exact room1 (by with_reducible assumption) | exact roomc (by with_reducible assumption) rfl | exact roome (by with_reducible assumption) rfl | exact roomd (by with_reducible assumption) rfl | exact roomn rfl | exact Nat.le_of_ble_eq_true rfl)
  k_with "call ref" => ((k_here; k_extra "ct"))
  k_with "u dp" => (((try simp only [depth_deeper, depth_in1, depth_caller]); (try dsimp only); first | walk_at "u room" | omega))
  k_with "u un" => (((try simp only [units_deeper, units_in1, units_caller]); (try dsimp only); first | walk_at "u room" | omega))
  k_with "u end" => (((try k_sweep); (try dsimp only); (try ((fail_if_success (with_reducible show wpAny _ _ _ _ _ _)); refine peel ?_)); (try k_fold)))
  k_with "u om" => (first | walk_at "u lt" | walk_at "u room" | exact Nat.le_of_ble_eq_true rfl | omega)
  k_with "k_ne" => (first | exact NeA.ne (by with_reducible assumption) | exact Ne.symm (NeA.ne (by with_reducible assumption)) | exact Nat.ne_of_gt (by walk_at "u lt") | exact Nat.ne_of_lt (by walk_at "u lt"))
  k_with "k_room" => (((try simp only [depth_under_make, depth_under_kw, depth_in1, depth_deeper, depth_caller, recursionLimit]); (try dsimp only); first | walk_at "u room" | omega))
  k_with "k_units" => (first | ((try simp only [units_in1, units_deeper, Around.mark_units, units_caller]); (try dsimp only); walk_at "u room") | (have hcL9 := cLine_is; (try simp only [units_in1, units_deeper, Around.mark_units, units_caller]); (try dsimp only); omega))
  k_with "om" => (with_reducible ((fail_if_success exact True.intro); (fail_if_success exact not_false); first | decide | exact n_lt0 rfl | exact n_le0 rfl | exact n_ltlt ‹_› rfl | exact n_lelt ‹_› rfl | exact n_lele ‹_› rfl | exact n_ltle ‹_› rfl | exact n_eqlt ‹_› rfl | exact n_lelt2 ‹_› ‹_› rfl | exact n_lelt3 ‹_› ‹_› rfl | exact Int.natCast_nonneg _ | exact i_ngt rfl | exact i_ge ‹_› rfl | exact i_gt ‹_› rfl | exact i_gtn ‹_› rfl | exact i_gt64 ‹_› | exact i_lt ‹_› rfl | exact i_lt64 ‹_› rfl | exact i_lelt ‹_› rfl | exact i_le ‹_› rfl | exact i_ne ‹_› rfl | exact i_nlt ‹_› rfl | exact i_ltn ‹_› ‹_› rfl | exact i_ltn2 ‹_› ‹_› rfl | exact i_neg ‹_› | exact i_eqn ‹_› | exact i_succ ‹_› | exact Int.add_one_le_of_lt ‹_› | exact i_sub_less ‹_› ‹_› | exact i_sub_less2 ‹_› ‹_› ‹_› | exact n_sum ‹_› ‹_› ‹_› ‹_› rfl))
  k_with "ct" => ((with_reducible show wpAny _ _ (call (Value.ref 416) [Value.ref _, Value.ref _]) _ _ _); k_dflt (first | (refine wpAny_call ?_; refine' one_code (by k_asm) (by k_asm) (by k_asm) (by k_asm) rfl rfl (by walk_at "u dp") (by walk_at "u un") (by exact List.forall_mem_cons.mpr ⟨(by k_asm : News _ _ _ _) _ (by k_mem), List.forall_mem_cons.mpr ⟨(by k_asm : News _ _ _ _) _ (by k_mem), List.forall_mem_nil _⟩⟩) (by (first | k_ne | omega)) (by walk_at "u om") (by walk_at "u om") (by walk_at "u om") (by (first | omega | decide | (simp only [List.length_cons, List.length_nil]; omega))) (by (first | omega | decide | (simp only [List.length_cons, List.length_nil]; omega))) ?_; k_whole; intro vp_q xp_q yp_q t1p_q t2p_q hp_q tkq_q hvp_q hxp_q hyp0_q hyp1_q kpp_q hbp_q; (have F_q := after_oneF (by k_asm) (by k_asm) (by k_mem) kpp_q); (have N_q := after_oneN (by k_asm) (by k_asm) (U := by k_upd) kpp_q hbp_q); walk_at "u end")))
  k_with "ct" => ((with_reducible show wpAny _ _ (call (Value.ref 409) [Value.ref _, Value.int _ _]) _ _ _); k_dflt (first | (refine wpAny_call ?_; refine' pick_code (by k_asm) (by k_asm) (by k_asm) (by k_asm) rfl rfl (by walk_at "u dp") (by walk_at "u un") (by exact List.forall_mem_cons.mpr ⟨(by k_asm : News _ _ _ _) _ (by k_mem), List.forall_mem_nil _⟩) (by walk_at "u om") (by walk_at "u om") (by walk_at "u om") (by walk_at "u om") (by walk_at "u om") ?_; k_whole; intro kp_q xp_q yp_q tkp_q t1p_q t2p_q hp_q tkq_q hkp0_q hkp1_q hxp_q hyp0_q hyp1_q kpp_q hbp_q; (have F_q := after_oneF (by k_asm) (by k_asm) (by k_mem) kpp_q); (have N_q := after_oneN (by k_asm) (by k_asm) (U := by k_upd) kpp_q hbp_q); walk_at "u end")))
  k_with "ct" => ((with_reducible show wpAny _ _ (call (Value.ref 423) [Value.ref _]) _ _ _); k_dflt (first | (refine wpAny_call ?_; refine' word_code (by k_asm) (by k_asm) (by k_asm) (by k_asm) rfl rfl (by walk_at "u dp") (by walk_at "u un") (by exact List.forall_mem_cons.mpr ⟨(by k_asm : News _ _ _ _) _ (by k_mem), List.forall_mem_nil _⟩) (by walk_at "u om") (by walk_at "u om") (by walk_at "u om") ?_; k_whole; intro ap_q aq_q sp_q pp_q qp_q t0p_q t3p_q t4p_q xp_q yp_q t1p_q t2p_q hp_q tkq_q he1_q he2_q hbp_q kpp_q hn1_q hn2_q hwp_q hxp_q hyp0_q hyp1_q; (have F_q := after_oneF (by k_asm) (by k_asm) (by k_mem) kpp_q); (have N_q := after_oneN (by k_asm) (by k_asm) (U := by k_upd) kpp_q hbp_q); (have ne1_q := allNe_of hn1_q (by k_asm : News _ _ _ _)); (have ne2_q := allNe_of hn2_q (by k_asm : News _ _ _ _)); (replace N_q := new_entry (by k_asm) (new_entry (by k_asm) N_q hn2_q he2_q) hn1_q he1_q); (simp only [AllNe, and_true] at ne1_q ne2_q); (repeat (have _ := And.left ne1_q; replace ne1_q := And.right ne1_q)); (repeat (have _ := And.left ne2_q; replace ne2_q := And.right ne2_q)); walk_at "u end")))
  exact True.intro
theorem plain_code {w : World} {mean : ExcName → Option Value} {mg mb : Str → Option Value} {A₀ : Around} {dp un : Nat} {gd : Option (List Code)} {s : Shared} {base h₀ : Heap} {outer : List Env} {L : Addr} {m : Str → Option Value} {env : Env} {R : Result → Shared → Prop}
  (B : Below A₀ base outer h₀) (F : Fr h₀ L s.heap m) (X : (heapK w.params).In h₀) (T : Top viewK lo mean mg mb h₀) (hf : env.frame = some L) (hke : env.scope.kind = .function) {b : Addr} {x y : Int} {t1 t2 : Tok} {n : Nat}
  (hdep : dp + 12 < 1000) (hun : un + 96 < 9900)
  (N : News h₀ L s.heap [(b, W.listOf #[.int x t1, .int y t2] n)])
  (hx : 0 ≤ x) (hy0 : 0 ≤ y) (hy: y < 2147483647)
  (ret : ∀ (a a2 : Addr) (v : Value) (p q : Int) (t3 t4 : Tok) (x' y' : Int) (t1' t2' : Tok) (h' : Heap) (tk' : Nat), h'.get? a = some (tupO [v, .ref a2]) → h'.get? a2 = some (tupO [.int p t3, .int q t4]) →
     h'.get? b = some (W.listOf #[.int x' t1', .int y' t2'] n) → Keeps [b] s.heap h' → s.heap.get? a = none → s.heap.get? a2 = none → PlainV v a2 p q → 0 ≤ x' → 0 ≤ y' → y' < 2147483647 →
     R (.ok (.ret (.ref a))) { s with heap := h', toks := tk' }) :
  codeAny (model PySem.Challenge.rw_xm0671_01.row.prog w) (Around.mk none dp (some (env :: outer)) gd un) (.call (.ref 444) ⟨[.ref b], []⟩) R s := by
  k_dflt (refine' code_defG ?k1 ?k2 ?k3 ?k4 ?k5 ?kA ?kF ?kK ?k6 ?k7 ?k8 ?k9 ?kB ?_ ?c2 ?c3 ?c4 ?c5; (case kA => exact rfl); (case kF => exact hf); (case kK => exact hke); (case k1 => k_asm); (case k2 => k_asm); (case k3 => k_asm); (case k4 => k_asm); (case k5 => k_asm); (case k6 => k_is); (case k7 => k_is); (case k8 => (simp only [recursionLimit]; first | walk_at "u room" | omega)); (case k9 => first | exact BindsTo.of_eq rfl | exact binds_K (by k_in) rfl (by k_is) rfl rfl rfl | fail "k_enter: no rule for these arguments"); (case c5 => decide); (case kB => exact locs rfl); (case c2 => exact rfl); (case c3 => exact rfl); (case c4 => exact rfl); k_whole)
  intro g' L' h' FG' F' N' B' X' T' kG'
  try dsimp only
  try k_fold
  k_steps
  all_goals (rename Fr g' L' _ _ => zF; rename News g' L' _ _ => zN)
  · exact ret _ _ _ _ _ _ _ _ _ _ _ _ _ (zN.get (by k_mem)) (zN.get (by k_mem)) (zN.get (by k_mem)) (keeps_of kG' zF) (fresh_of kG' zN (by k_mem) (by simp only [List.map_cons, List.map_nil, List.mem_cons, List.mem_singleton, List.not_mem_nil, or_false, not_false_eq_true, not_or]; (try exact True.intro); (repeat' refine And.intro ?_ ?_); (all_goals try (first | k_ne | (refine neN ?_; omega))))) (fresh_of kG' zN (by k_mem) (by simp only [List.map_cons, List.map_nil, List.mem_cons, List.mem_singleton, List.not_mem_nil, or_false, not_false_eq_true, not_or]; (try exact True.intro); (repeat' refine And.intro ?_ ?_); (all_goals try (first | k_ne | (refine neN ?_; omega))))) (PlainV.bool _ rfl (by simp only [beq_iff_eq]; split <;> omega) rfl) (by assumption) (by assumption) (by assumption)
  · exact ret _ _ _ _ _ _ _ _ _ _ _ _ _ (zN.get (by k_mem)) (zN.get (by k_mem)) (zN.get (by k_mem)) (keeps_of kG' zF) (fresh_of kG' zN (by k_mem) (by simp only [List.map_cons, List.map_nil, List.mem_cons, List.mem_singleton, List.not_mem_nil, or_false, not_false_eq_true, not_or]; (try exact True.intro); (repeat' refine And.intro ?_ ?_); (all_goals try (first | k_ne | (refine neN ?_; omega))))) (fresh_of kG' zN (by k_mem) (by simp only [List.map_cons, List.map_nil, List.mem_cons, List.mem_singleton, List.not_mem_nil, or_false, not_false_eq_true, not_or]; (try exact True.intro); (repeat' refine And.intro ?_ ?_); (all_goals try (first | k_ne | (refine neN ?_; omega))))) (PlainV.word _ _ rfl (by assumption)) (by assumption) (by assumption) (by assumption)
  · (rename (_ ∈ _) => zv)
    simp only [List.mem_cons, List.not_mem_nil, or_false] at zv
    rcases zv with zv | zv | zv | zv | zv
    all_goals (subst zv; exact ret _ _ _ _ _ _ _ _ _ _ _ _ _ (zN.get (by k_mem)) (zN.get (by k_mem)) (zN.get (by k_mem)) (keeps_of kG' zF) (fresh_of kG' zN (by k_mem) (by simp only [List.map_cons, List.map_nil, List.mem_cons, List.mem_singleton, List.not_mem_nil, or_false, not_false_eq_true, not_or]; (try exact True.intro); (repeat' refine And.intro ?_ ?_); (all_goals try (first | k_ne | (refine neN ?_; omega))))) (fresh_of kG' zN (by k_mem) (by simp only [List.map_cons, List.map_nil, List.mem_cons, List.mem_singleton, List.not_mem_nil, or_false, not_false_eq_true, not_or]; (try exact True.intro); (repeat' refine And.intro ?_ ?_); (all_goals try (first | k_ne | (refine neN ?_; omega))))) (PlainV.num rfl) (by assumption) (by assumption) (by assumption))

end
section
theorem slice_full (x : Str) : Txt.slice x (some 0) (some x.length) = x := by
  have h := slice_closesL (x := x) (i := 0) (j := x.length) (by omega) (by omega) (by omega)
  rw [eq_of_beq h]
  obtain ⟨⟨l⟩⟩ := x
  simp [Str.length]
theorem in_no {prog : Program} {w : World} {A : Around} {E : Value → Shared → Prop} {s : Shared} {x y : Str} {t u : Tok} {Q : Value → Shared → Prop} (hc : Txt.contains x y = false) (h : Q (.bool false) s) :
    wpAny (model prog w) A (compareOp .In (.str y u) (.str x t)) Q E s := SB.contains (by rw [hc]; exact h)
theorem len_S {prog : Program} {w : World} {A : Around} {E : Value → Shared → Prop} {s : Shared} {x : Str} {t : Tok} {Q : Value → Shared → Prop} (hl : x.length < 100000) (h : Q (.int x.length (s.toks + 1)) { s with toks := s.toks + 1 + 1 }) :
    wpAny (model prog w) A (call (.builtin "len") [.str x t]) Q E s := P.len_str (by omega) h
theorem wd1_R1 : True := by
  k_with_none
  k_with "u lt" => (with_reducible (first | assumption | exact cl0 ‹_› | exact cl1 ‹_› | exact cl2 ‹_› | exact cl3 ‹_› | exact cl4 ‹_› | exact cl5 ‹_› | exact cl6 ‹_› | exact cl7 ‹_› | exact cl8 ‹_› | exact cl9 ‹_› | exact cl10 ‹_› | exact cl11 ‹_› | exact cr1 ‹_› | exact cr2 ‹_› | exact cr3 ‹_› | exact cr4 ‹_› | exact cr5 ‹_› | exact cr6 ‹_› | exact cr7 ‹_› | exact cr8 ‹_› | exact cr9 ‹_› | exact cr10 ‹_› | exact cr11 ‹_›))
  k_with "u room" => (first | exact room3 (by with_reducible assumption) rfl | exact room2 (by with_reducible assumption) rfl | exact room4 (by with_reducible assumption) rfl | exact room1 (by with_reducible assumption) | exact roomc (by with_reducible assumption) rfl | exact roome (by with_reducible assumption) rfl | exact roomd (by with_reducible assumption) rfl | exact roomn rfl | exact Nat.le_of_ble_eq_true rfl)
  k_with "call ref" => ((k_here; k_extra "ct"))
  k_with "u dp" => (((try simp only [depth_deeper, depth_in1, depth_caller]); (try dsimp only); first | walk_at "u room" | omega))
  k_with "u un" => (((try simp only [units_deeper, units_in1, units_caller]); (try dsimp only); first | walk_at "u room" | omega))
  k_with "u end" => (((try k_sweep); (try dsimp only); (try ((fail_if_success (with_reducible show wpAny _ _ _ _ _ _)); refine peel ?_)); (try k_fold)))
  k_with "u om" => (first | walk_at "u lt" | walk_at "u room" | exact Nat.le_of_ble_eq_true rfl | omega)
  k_with "k_ne" => (first | exact NeA.ne (by with_reducible assumption) | exact Ne.symm (NeA.ne (by with_reducible assumption)) | exact Nat.ne_of_gt (by walk_at "u lt") | exact Nat.ne_of_lt (by walk_at "u lt"))
  k_with "k_room" => (((try simp only [depth_under_make, depth_under_kw, depth_in1, depth_deeper, depth_caller, recursionLimit]); (try dsimp only); first | walk_at "u room" | omega))
  k_with "k_units" => (first | ((try simp only [units_in1, units_deeper, Around.mark_units, units_caller]); (try dsimp only); walk_at "u room") | (have hcL9 := cLine_is; (try simp only [units_in1, units_deeper, Around.mark_units, units_caller]); (try dsimp only); omega))
  k_with "om" => (with_reducible ((fail_if_success exact True.intro); (fail_if_success exact not_false); first | decide | exact n_lt0 rfl | exact n_le0 rfl | exact n_ltlt ‹_› rfl | exact n_lelt ‹_› rfl | exact n_lele ‹_› rfl | exact n_ltle ‹_› rfl | exact n_eqlt ‹_› rfl | exact n_lelt2 ‹_› ‹_› rfl | exact n_lelt3 ‹_› ‹_› rfl | exact Int.natCast_nonneg _ | exact i_ngt rfl | exact i_ge ‹_› rfl | exact i_gt ‹_› rfl | exact i_gtn ‹_› rfl | exact i_gt64 ‹_› | exact i_lt ‹_› rfl | exact i_lt64 ‹_› rfl | exact i_lelt ‹_› rfl | exact i_le ‹_› rfl | exact i_ne ‹_› rfl | exact i_nlt ‹_› rfl | exact i_ltn ‹_› ‹_› rfl | exact i_ltn2 ‹_› ‹_› rfl | exact i_neg ‹_› | exact i_eqn ‹_› | exact i_succ ‹_› | exact Int.add_one_le_of_lt ‹_› | exact i_sub_less ‹_› ‹_› | exact i_sub_less2 ‹_› ‹_› ‹_› | exact n_sum ‹_› ‹_› ‹_› ‹_› rfl))
  k_with "call builtin:len" => ((k_here; (with_reducible show wpAny _ _ (call (Value.builtin "len") [Value.str _ _]) _ _ _); k_dflt (refine len_S (by first | omega | k_extra "my len") ?_)))
  k_with "compareOp In str str" => (k_extra "my in")
  k_with "exec While BoolOp" => (k_extra "my while")
  exact True.intro
theorem trimmed_code {w : World} {mean : ExcName → Option Value} {mg mb : Str → Option Value} {A₀ : Around} {dp un : Nat} {gd : Option (List Code)} {s : Shared} {base h₀ : Heap} {outer : List Env} {L : Addr} {m : Str → Option Value} {env : Env} {R : Result → Shared → Prop}
  (B : Below A₀ base outer h₀) (F : Fr h₀ L s.heap m) (X : (heapK w.params).In h₀) (T : Top viewK lo mean mg mb h₀) (hf : env.frame = some L) (hke : env.scope.kind = .function) {st : Str} {t : Tok}
  (hdep : dp + 3 < 1000) (hun : un + 24 < 9900)
  (hlen : st.length < 1000) (hcl : ∀ i : Int, 0 ≤ i → i < st.length → Txt.contains (Str.ofString " \t\n\r") (Txt.item st i) = false)
  (ret : ∀ (t' : Tok) (h' : Heap) (tk' : Nat), Keeps [] s.heap h' → R (.ok (.ret (.str st t'))) { s with heap := h', toks := tk' }) :
  codeAny (model PySem.Challenge.rw_xm0671_01.row.prog w) (Around.mk none dp (some (env :: outer)) gd un) (.call (.ref 73) ⟨[.str st t], []⟩) R s := by
  have N : News h₀ L s.heap [] := News.nil
  k_dflt (refine' code_defG ?k1 ?k2 ?k3 ?k4 ?k5 ?kA ?kF ?kK ?k6 ?k7 ?k8 ?k9 ?kB ?_ ?c2 ?c3 ?c4 ?c5; (case kA => exact rfl); (case kF => exact hf); (case kK => exact hke); (case k1 => k_asm); (case k2 => k_asm); (case k3 => k_asm); (case k4 => k_asm); (case k5 => k_asm); (case k6 => k_is); (case k7 => k_is); (case k8 => (simp only [recursionLimit]; first | walk_at "u room" | omega)); (case k9 => first | exact BindsTo.of_eq rfl | exact binds_K (by k_in) rfl (by k_is) rfl rfl rfl | fail "k_enter: no rule for these arguments"); (case c5 => decide); (case kB => exact locs rfl); (case c2 => exact rfl); (case c3 => exact rfl); (case c4 => exact rfl); k_whole)
  intro g' L' h' FG' F' N' B' X' T' kG'
  try dsimp only
  try k_fold
  k_with "my in" => refine in_no (hcl _ (by omega) (by omega)) ?_
  k_with "my while" => k_here; k_dflt (refine whl_start 3 ?_)
  k_steps
  all_goals (rename Fr g' L' _ _ => zF; rename News g' L' _ _ => zN)
  all_goals (rw [slice_full]; exact ret _ _ _ (keeps_of kG' zF))
theorem sub_step {len : Nat} {i : Int} (h0 : 0 ≤ i) (h : i < (len : Int)) : len - i.toNat = (len - i.toNat - 1) + 1 := by
  obtain ⟨k, rfl⟩ := Int.eq_ofNat_of_zero_le h0
  have h' : k < len := Int.ofNat_lt.mp h
  show len - k = (len - k - 1) + 1
  exact (Nat.sub_add_cancel (Nat.sub_pos_of_lt h')).symm
theorem sub_next {len n : Nat} {i : Int} (h0 : 0 ≤ i) (hn : len - i.toNat = n + 1) : len - (i + 1).toNat = n := by
  obtain ⟨k, rfl⟩ := Int.eq_ofNat_of_zero_le h0
  have h' : len - k = n + 1 := hn
  show len - (k + 1) = n
  rw [Nat.sub_succ, h']; rfl
theorem wd2_R1 : True := by
  k_with_none
  k_with "u lt" => (with_reducible (first | assumption | exact cl0 ‹_› | exact cl1 ‹_› | exact cl2 ‹_› | exact cl3 ‹_› | exact cl4 ‹_› | exact cl5 ‹_› | exact cl6 ‹_› | exact cl7 ‹_› | exact cl8 ‹_› | exact cl9 ‹_› | exact cl10 ‹_› | exact cl11 ‹_› | exact cr1 ‹_› | exact cr2 ‹_› | exact cr3 ‹_› | exact cr4 ‹_› | exact cr5 ‹_› | exact cr6 ‹_› | exact cr7 ‹_› | exact cr8 ‹_› | exact cr9 ‹_› | exact cr10 ‹_› | exact cr11 ‹_›))
  k_with "u room" => (first | exact room3 (by with_reducible assumption) rfl | exact room2 (by with_reducible assumption) rfl | exact room4 (by with_reducible assumption) rfl | exact room1 (by with_reducible assumption) | exact roomc (by with_reducible assumption) rfl | exact roome (by with_reducible assumption) rfl | exact roomd (by with_reducible assumption) rfl | exact roomn rfl | exact Nat.le_of_ble_eq_true rfl)
  k_with "call ref" => ((k_here; k_extra "ct"))
  k_with "u dp" => (((try simp only [depth_deeper, depth_in1, depth_caller]); (try dsimp only); first | walk_at "u room" | omega))
  k_with "u un" => (((try simp only [units_deeper, units_in1, units_caller]); (try dsimp only); first | walk_at "u room" | omega))
  k_with "u end" => (((try k_sweep); (try dsimp only); (try ((fail_if_success (with_reducible show wpAny _ _ _ _ _ _)); refine peel ?_)); (try k_fold)))
  k_with "u om" => (first | walk_at "u lt" | walk_at "u room" | exact Nat.le_of_ble_eq_true rfl | omega)
  k_with "k_ne" => (first | exact NeA.ne (by with_reducible assumption) | exact Ne.symm (NeA.ne (by with_reducible assumption)) | exact Nat.ne_of_gt (by walk_at "u lt") | exact Nat.ne_of_lt (by walk_at "u lt"))
  k_with "k_room" => (((try simp only [depth_under_make, depth_under_kw, depth_in1, depth_deeper, depth_caller, recursionLimit]); (try dsimp only); first | walk_at "u room" | omega))
  k_with "k_units" => (first | ((try simp only [units_in1, units_deeper, Around.mark_units, units_caller]); (try dsimp only); walk_at "u room") | (have hcL9 := cLine_is; (try simp only [units_in1, units_deeper, Around.mark_units, units_caller]); (try dsimp only); omega))
  k_with "om" => (with_reducible ((fail_if_success exact True.intro); (fail_if_success exact not_false); first | decide | exact n_lt0 rfl | exact n_le0 rfl | exact n_ltlt ‹_› rfl | exact n_lelt ‹_› rfl | exact n_lele ‹_› rfl | exact n_ltle ‹_› rfl | exact n_eqlt ‹_› rfl | exact n_lelt2 ‹_› ‹_› rfl | exact n_lelt3 ‹_› ‹_› rfl | exact Int.natCast_nonneg _ | exact i_ngt rfl | exact i_ge ‹_› rfl | exact i_gt ‹_› rfl | exact i_gtn ‹_› rfl | exact i_gt64 ‹_› | exact i_lt ‹_› rfl | exact i_lt64 ‹_› rfl | exact i_lelt ‹_› rfl | exact i_le ‹_› rfl | exact i_ne ‹_› rfl | exact i_nlt ‹_› rfl | exact i_ltn ‹_› ‹_› rfl | exact i_ltn2 ‹_› ‹_› rfl | exact i_neg ‹_› | exact i_eqn ‹_› | exact i_succ ‹_› | exact Int.add_one_le_of_lt ‹_› | exact i_sub_less ‹_› ‹_› | exact i_sub_less2 ‹_› ‹_› ‹_› | exact n_sum ‹_› ‹_› ‹_› ‹_› rfl))
  k_with "call builtin:len" => ((k_here; (with_reducible show wpAny _ _ (call (Value.builtin "len") [Value.str _ _]) _ _ _); k_dflt (refine len_S (by first | omega | k_extra "my len") ?_)))
  k_with "compareOp In str str" => (k_extra "my in")
  k_with "exec While BoolOp" => (k_extra "my while")
  exact True.intro
theorem sub_end {len : Nat} {i : Int} (h : ¬ i < (len : Int)) : len - i.toNat = 0 := by omega

end
section
abbrev noDig (x : Str) (i : Int) : Bool := (Builtin.Str.occurrences (Str.ofString "0123456789") (Txt.item x i) 0 (Str.ofString "0123456789").length 1).isEmpty
def digEndF (x : Str) : Nat → Int → Int
  | 0, i => i
  | n + 1, i => if noDig x i = true then i else digEndF x n (i + 1)
def digEnd (x : Str) (i : Int) : Int := digEndF x (x.length - i.toNat) i
theorem digTurn {x : Str} {a i : Int} (h1 : a ≤ i) (h2 : digEnd x i = digEnd x a) (ha : 0 ≤ a) (h : i < x.length) (hc : noDig x i = false) : a ≤ i + 1 ∧ i + 1 ≤ x.length ∧ digEnd x (i + 1) = digEnd x a := by
  refine ⟨by omega, by omega, ?_⟩
  rw [← h2]
  unfold digEnd
  obtain ⟨n, hn⟩ : ∃ n, x.length - i.toNat = n + 1 := ⟨x.length - i.toNat - 1, sub_step (Int.le_trans ha h1) h⟩
  rw [hn, digEndF, hc, show x.length - (i + 1).toNat = n from sub_next (Int.le_trans ha h1) hn]
  rfl
theorem digFin1 {x : Str} {a i : Int} (h2 : digEnd x i = digEnd x a) (h : ¬ i < x.length) : i = digEnd x a := by
  rw [← h2]
  unfold digEnd
  rw [show x.length - i.toNat = 0 from sub_end h]; rfl
theorem digFin2 {x : Str} {a i : Int} (h2 : digEnd x i = digEnd x a) (hc : noDig x i = true) : i = digEnd x a := by
  rw [← h2]
  unfold digEnd
  cases x.length - i.toNat with
  | zero => rfl
  | succ n => rw [digEndF, hc]; rfl
theorem wd1_R2 : True := by
  k_with_none
  k_with "u lt" => (with_reducible (first | assumption | exact cl0 ‹_› | exact cl1 ‹_› | exact cl2 ‹_› | exact cl3 ‹_› | exact cl4 ‹_› | exact cl5 ‹_› | exact cl6 ‹_› | exact cl7 ‹_› | exact cl8 ‹_› | exact cl9 ‹_› | exact cl10 ‹_› | exact cl11 ‹_› | exact cr1 ‹_› | exact cr2 ‹_› | exact cr3 ‹_› | exact cr4 ‹_› | exact cr5 ‹_› | exact cr6 ‹_› | exact cr7 ‹_› | exact cr8 ‹_› | exact cr9 ‹_› | exact cr10 ‹_› | exact cr11 ‹_›))
  k_with "u room" => (first | exact room3 (by with_reducible assumption) rfl | exact room2 (by with_reducible assumption) rfl | exact room4 (by with_reducible assumption) rfl | exact room1 (by with_reducible assumption) | exact roomc (by with_reducible assumption) rfl | exact roome (by with_reducible assumption) rfl | exact roomd (by with_reducible assumption) rfl | exact roomn rfl | exact Nat.le_of_ble_eq_true rfl)
  k_with "call ref" => ((k_here; k_extra "ct"))
  k_with "u dp" => (((try simp only [depth_deeper, depth_in1, depth_caller]); (try dsimp only); first | walk_at "u room" | omega))
  k_with "u un" => (((try simp only [units_deeper, units_in1, units_caller]); (try dsimp only); first | walk_at "u room" | omega))
  k_with "u end" => (((try k_sweep); (try dsimp only); (try ((fail_if_success (with_reducible show wpAny _ _ _ _ _ _)); refine peel ?_)); (try k_fold)))
  k_with "u om" => (first | walk_at "u lt" | walk_at "u room" | exact Nat.le_of_ble_eq_true rfl | omega)
  k_with "k_ne" => (first | exact NeA.ne (by with_reducible assumption) | exact Ne.symm (NeA.ne (by with_reducible assumption)) | exact Nat.ne_of_gt (by walk_at "u lt") | exact Nat.ne_of_lt (by walk_at "u lt"))
  k_with "k_room" => (((try simp only [depth_under_make, depth_under_kw, depth_in1, depth_deeper, depth_caller, recursionLimit]); (try dsimp only); first | walk_at "u room" | omega))
  k_with "k_units" => (first | ((try simp only [units_in1, units_deeper, Around.mark_units, units_caller]); (try dsimp only); walk_at "u room") | (have hcL9 := cLine_is; (try simp only [units_in1, units_deeper, Around.mark_units, units_caller]); (try dsimp only); omega))
  k_with "om" => (with_reducible ((fail_if_success exact True.intro); (fail_if_success exact not_false); first | decide | exact n_lt0 rfl | exact n_le0 rfl | exact n_ltlt ‹_› rfl | exact n_lelt ‹_› rfl | exact n_lele ‹_› rfl | exact n_ltle ‹_› rfl | exact n_eqlt ‹_› rfl | exact n_lelt2 ‹_› ‹_› rfl | exact n_lelt3 ‹_› ‹_› rfl | exact Int.natCast_nonneg _ | exact i_ngt rfl | exact i_ge ‹_› rfl | exact i_gt ‹_› rfl | exact i_gtn ‹_› rfl | exact i_gt64 ‹_› | exact i_lt ‹_› rfl | exact i_lt64 ‹_› rfl | exact i_lelt ‹_› rfl | exact i_le ‹_› rfl | exact i_ne ‹_› rfl | exact i_nlt ‹_› rfl | exact i_ltn ‹_› ‹_› rfl | exact i_ltn2 ‹_› ‹_› rfl | exact i_neg ‹_› | exact i_eqn ‹_› | exact i_succ ‹_› | exact Int.add_one_le_of_lt ‹_› | exact i_sub_less ‹_› ‹_› | exact i_sub_less2 ‹_› ‹_› ‹_› | exact n_sum ‹_› ‹_› ‹_› ‹_› rfl))
  k_with "call builtin:len" => ((k_here; (with_reducible show wpAny _ _ (call (Value.builtin "len") [Value.str _ _]) _ _ _); k_dflt (refine len_S (by first | omega | k_extra "my len") ?_)))
  k_with "exec While BoolOp" => (k_extra "my while")
  exact True.intro
theorem digits_end_code {w : World} {mean : ExcName → Option Value} {mg mb : Str → Option Value} {A₀ : Around} {dp un : Nat} {gd : Option (List Code)} {s : Shared} {base h₀ : Heap} {outer : List Env} {L : Addr} {m : Str → Option Value} {env : Env} {R : Result → Shared → Prop}
  (B : Below A₀ base outer h₀) (F : Fr h₀ L s.heap m) (X : (heapK w.params).In h₀) (T : Top viewK lo mean mg mb h₀) (hf : env.frame = some L) (hke : env.scope.kind = .function) {x : Str} {t t2 : Tok} {a : Int}
  (hdep : dp + 3 < 1000) (hun : un + 24 < 9900)
  (hlen : x.length < 1000) (ha : 0 ≤ a) (hal : a ≤ x.length)
  (ret : ∀ (r : Int) (t' : Tok) (h' : Heap) (tk' : Nat), Keeps [] s.heap h' → r = digEnd x a → a ≤ r → r ≤ x.length → R (.ok (.ret (.int r t'))) { s with heap := h', toks := tk' }) :
  codeAny (model PySem.Challenge.rw_xm0671_01.row.prog w) (Around.mk none dp (some (env :: outer)) gd un) (.call (.ref 66) ⟨[.str x t, .int a t2], []⟩) R s := by
  have N : News h₀ L s.heap [] := News.nil
  k_dflt (refine' code_defG ?k1 ?k2 ?k3 ?k4 ?k5 ?kA ?kF ?kK ?k6 ?k7 ?k8 ?k9 ?kB ?_ ?c2 ?c3 ?c4 ?c5; (case kA => exact rfl); (case kF => exact hf); (case kK => exact hke); (case k1 => k_asm); (case k2 => k_asm); (case k3 => k_asm); (case k4 => k_asm); (case k5 => k_asm); (case k6 => k_is); (case k7 => k_is); (case k8 => (simp only [recursionLimit]; first | walk_at "u room" | omega)); (case k9 => first | exact BindsTo.of_eq rfl | exact binds_K (by k_in) rfl (by k_is) rfl rfl rfl | fail "k_enter: no rule for these arguments"); (case c5 => decide); (case kB => exact locs rfl); (case c2 => exact rfl); (case c3 => exact rfl); (case c4 => exact rfl); k_whole)
  intro g' L' h' FG' F' N' B' X' T' kG'
  try dsimp only
  try k_fold
  k_with "my while" => k_while (fun _ i => a ≤ i ∧ i ≤ x.length ∧ digEnd x i = digEnd x a) (fun _ i => x.length - i.toNat) "at"
  k_with "state" => first | exact ⟨Int.le_refl _, hal, rfl⟩ | exact digTurn (by assumption) (by assumption) ha (by assumption) (by assumption)
  k_steps
  all_goals (rename Fr g' L' _ _ => zF; rename News g' L' _ _ => zN)
  · exact ret _ _ _ _ (keeps_of kG' zF) (digFin2 (by assumption) (by assumption)) (by assumption) (by assumption)
  · exact ret _ _ _ _ (keeps_of kG' zF) (digFin1 (by assumption) (by assumption)) (by assumption) (by assumption)

end
section
theorem gcdTurn {f g a b : Int} (hf : 0 ≤ f) (hg : 0 ≤ g) (h : Int.gcd f g = Int.gcd a b) (hp : g > 0) : 0 ≤ g ∧ 0 ≤ f.fmod g ∧ Int.gcd g (f.fmod g) = Int.gcd a b := by
  refine ⟨hg, (fmod_bd f hp).1, ?_⟩
  rw [← h, Int.fmod_eq_emod_of_nonneg f hg, Int.gcd_comm g (f % g), Int.gcd_comm f g]
  obtain ⟨m, rfl⟩ := Int.eq_ofNat_of_zero_le hf
  obtain ⟨n, rfl⟩ := Int.eq_ofNat_of_zero_le hg
  exact (Nat.gcd_rec n m).symm
theorem fmodLess {f g : Int} (h : g > 0) : (f.fmod g).toNat < g.toNat := by
  have := fmod_bd f h
  omega
theorem gcdFin {f g a b : Int} (hf : 0 ≤ f) (hg : 0 ≤ g) (h : Int.gcd f g = Int.gcd a b) (hp : ¬ g > 0) : f = Int.gcd a b := by
  have : g = 0 := by omega
  subst this
  rw [← h]
  simp
  omega
theorem wd1_R3 : True := by
  k_with_none
  k_with "u lt" => (with_reducible (first | assumption | exact cl0 ‹_› | exact cl1 ‹_› | exact cl2 ‹_› | exact cl3 ‹_› | exact cl4 ‹_› | exact cl5 ‹_› | exact cl6 ‹_› | exact cl7 ‹_› | exact cl8 ‹_› | exact cl9 ‹_› | exact cl10 ‹_› | exact cl11 ‹_› | exact cr1 ‹_› | exact cr2 ‹_› | exact cr3 ‹_› | exact cr4 ‹_› | exact cr5 ‹_› | exact cr6 ‹_› | exact cr7 ‹_› | exact cr8 ‹_› | exact cr9 ‹_› | exact cr10 ‹_› | exact cr11 ‹_›))
  k_with "u room" => (first | exact room3 (by with_reducible assumption) rfl | exact room2 (by with_reducible assumption) rfl | exact room4 (by with_reducible assumption) rfl | exact room1 (by with_reducible assumption) | exact roomc (by with_reducible assumption) rfl | exact roome (by with_reducible assumption) rfl | exact roomd (by with_reducible assumption) rfl | exact roomn rfl | exact Nat.le_of_ble_eq_true rfl)
  k_with "call ref" => ((k_here; k_extra "ct"))
  k_with "u dp" => (((try simp only [depth_deeper, depth_in1, depth_caller]); (try dsimp only); first | walk_at "u room" | omega))
  k_with "u un" => (((try simp only [units_deeper, units_in1, units_caller]); (try dsimp only); first | walk_at "u room" | omega))
  k_with "u end" => (((try k_sweep); (try dsimp only); (try ((fail_if_success (with_reducible show wpAny _ _ _ _ _ _)); refine peel ?_)); (try k_fold)))
  k_with "u om" => (first | walk_at "u lt" | walk_at "u room" | exact Nat.le_of_ble_eq_true rfl | omega)
  k_with "k_ne" => (first | exact NeA.ne (by with_reducible assumption) | exact Ne.symm (NeA.ne (by with_reducible assumption)) | exact Nat.ne_of_gt (by walk_at "u lt") | exact Nat.ne_of_lt (by walk_at "u lt"))
  k_with "k_room" => (((try simp only [depth_under_make, depth_under_kw, depth_in1, depth_deeper, depth_caller, recursionLimit]); (try dsimp only); first | walk_at "u room" | omega))
  k_with "k_units" => (first | ((try simp only [units_in1, units_deeper, Around.mark_units, units_caller]); (try dsimp only); walk_at "u room") | (have hcL9 := cLine_is; (try simp only [units_in1, units_deeper, Around.mark_units, units_caller]); (try dsimp only); omega))
  k_with "om" => (with_reducible ((fail_if_success exact True.intro); (fail_if_success exact not_false); first | decide | exact n_lt0 rfl | exact n_le0 rfl | exact n_ltlt ‹_› rfl | exact n_lelt ‹_› rfl | exact n_lele ‹_› rfl | exact n_ltle ‹_› rfl | exact n_eqlt ‹_› rfl | exact n_lelt2 ‹_› ‹_› rfl | exact n_lelt3 ‹_› ‹_› rfl | exact Int.natCast_nonneg _ | exact i_ngt rfl | exact i_ge ‹_› rfl | exact i_gt ‹_› rfl | exact i_gtn ‹_› rfl | exact i_gt64 ‹_› | exact i_lt ‹_› rfl | exact i_lt64 ‹_› rfl | exact i_lelt ‹_› rfl | exact i_le ‹_› rfl | exact i_ne ‹_› rfl | exact i_nlt ‹_› rfl | exact i_ltn ‹_› ‹_› rfl | exact i_ltn2 ‹_› ‹_› rfl | exact i_neg ‹_› | exact i_eqn ‹_› | exact i_succ ‹_› | exact Int.add_one_le_of_lt ‹_› | exact i_sub_less ‹_› ‹_› | exact i_sub_less2 ‹_› ‹_› ‹_› | exact n_sum ‹_› ‹_› ‹_› ‹_› rfl))
  k_with "exec While Compare" => (k_extra "my while")
  exact True.intro
theorem gcd_code {w : World} {mean : ExcName → Option Value} {mg mb : Str → Option Value} {A₀ : Around} {dp un : Nat} {gd : Option (List Code)} {s : Shared} {base h₀ : Heap} {outer : List Env} {L : Addr} {m : Str → Option Value} {env : Env} {R : Result → Shared → Prop}
  (B : Below A₀ base outer h₀) (F : Fr h₀ L s.heap m) (X : (heapK w.params).In h₀) (T : Top viewK lo mean mg mb h₀) (hf : env.frame = some L) (hke : env.scope.kind = .function) {t t2 : Tok} {a b : Int}
  (hdep : dp + 3 < 1000) (hun : un + 24 < 9900)
  (ha : 0 ≤ a) (hb : 0 ≤ b)
  (ret : ∀ (r : Int) (t' : Tok) (h' : Heap) (tk' : Nat), Keeps [] s.heap h' → r = Int.gcd a b → R (.ok (.ret (.int r t'))) { s with heap := h', toks := tk' }) :
  codeAny (model PySem.Challenge.rw_xm0671_01.row.prog w) (Around.mk none dp (some (env :: outer)) gd un) (.call (.ref 30) ⟨[.int a t, .int b t2], []⟩) R s := by
  have N : News h₀ L s.heap [] := News.nil
  k_dflt (refine' code_defG ?k1 ?k2 ?k3 ?k4 ?k5 ?kA ?kF ?kK ?k6 ?k7 ?k8 ?k9 ?kB ?_ ?c2 ?c3 ?c4 ?c5; (case kA => exact rfl); (case kF => exact hf); (case kK => exact hke); (case k1 => k_asm); (case k2 => k_asm); (case k3 => k_asm); (case k4 => k_asm); (case k5 => k_asm); (case k6 => k_is); (case k7 => k_is); (case k8 => (simp only [recursionLimit]; first | walk_at "u room" | omega)); (case k9 => first | exact BindsTo.of_eq rfl | exact binds_K (by k_in) rfl (by k_is) rfl rfl rfl | fail "k_enter: no rule for these arguments"); (case c5 => decide); (case kB => exact locs rfl); (case c2 => exact rfl); (case c3 => exact rfl); (case c4 => exact rfl); k_whole)
  intro g' L' h' FG' F' N' B' X' T' kG'
  try dsimp only
  try k_fold
  k_with "my while" => k_while (fun _ f g => 0 ≤ f ∧ 0 ≤ g ∧ Int.gcd f g = Int.gcd a b) (fun _ f g => g.toNat) "first" "second"
  k_with "state" => first | exact gcdTurn (by assumption) (by assumption) (by assumption) (by assumption) | (refine ⟨by omega, by omega, ?_⟩; simp)
  k_with "measure" => exact fmodLess (by assumption)
  k_steps
  all_goals (rename Fr g' L' _ _ => zF; rename News g' L' _ _ => zN)
  exact ret _ _ _ _ (keeps_of kG' zF) (gcdFin (by assumption) (by assumption) (by assumption) (by assumption))

end
section
theorem floordiv_q {prog : Program} {w : World} {A : Around} {E : Value → Shared → Prop} {s : Shared} {a b : Int} {t u : Tok} {Q : Value → Shared → Prop} (h0 : 0 ≤ a) (h1 : 1 ≤ b) (h2 : b < 1073741824)
    (h : ∀ q : Int, q = a / b → 0 ≤ q → q ≤ a → Q (.int q s.toks) { s with toks := s.toks + 1 }) : wpAny (model prog w) A (binaryOp .FloorDiv (.int a t) (.int b u)) Q E s :=
  floordiv_int (by omega) (by
    have e : a.fdiv b = a / b := by rw [Int.fdiv_eq_ediv_of_nonneg _ (by omega)]
    rw [e]
    exact h _ rfl (Int.ediv_nonneg h0 (by omega)) (Int.ediv_le_self _ h0)) (Or.inl (PyProof.noPylong_small (by omega)))
theorem gcdPos {r a b : Int} (e : r = Int.gcd a b) (hb : 1 ≤ b) : 1 ≤ r := by
  subst e
  have : Int.gcd a b ≠ 0 := fun h => by rw [Int.gcd_eq_zero_iff] at h; omega
  omega
theorem gcdLe {r a b : Int} (e : r = Int.gcd a b) (hb : 1 ≤ b) : r ≤ b := by
  subst e
  exact Int.le_of_dvd (by omega) (Int.gcd_dvd_right ..)

theorem wd1_R4 : True := by
  k_with_none
  k_with "u lt" => (with_reducible (first | assumption | exact cl0 ‹_› | exact cl1 ‹_› | exact cl2 ‹_› | exact cl3 ‹_› | exact cl4 ‹_› | exact cl5 ‹_› | exact cl6 ‹_› | exact cl7 ‹_› | exact cl8 ‹_› | exact cl9 ‹_› | exact cl10 ‹_› | exact cl11 ‹_› | exact cr1 ‹_› | exact cr2 ‹_› | exact cr3 ‹_› | exact cr4 ‹_› | exact cr5 ‹_› | exact cr6 ‹_› | exact cr7 ‹_› | exact cr8 ‹_› | exact cr9 ‹_› | exact cr10 ‹_› | exact cr11 ‹_›))
  k_with "u room" => (first | exact room3 (by with_reducible assumption) rfl | exact room2 (by with_reducible assumption) rfl | exact room4 (by with_reducible assumption) rfl | exact room1 (by with_reducible assumption) | exact roomc (by with_reducible assumption) rfl | exact roome (by with_reducible assumption) rfl | exact roomd (by with_reducible assumption) rfl | exact roomn rfl | exact Nat.le_of_ble_eq_true rfl)
  k_with "call ref" => ((k_here; k_extra "ct"))
  k_with "u dp" => (((try simp only [depth_deeper, depth_in1, depth_caller]); (try dsimp only); first | walk_at "u room" | omega))
  k_with "u un" => (((try simp only [units_deeper, units_in1, units_caller]); (try dsimp only); first | walk_at "u room" | omega))
  k_with "u end" => (((try k_sweep); (try dsimp only); (try ((fail_if_success (with_reducible show wpAny _ _ _ _ _ _)); refine peel ?_)); (try k_fold)))
  k_with "u om" => (first | walk_at "u lt" | walk_at "u room" | exact Nat.le_of_ble_eq_true rfl | omega)
  k_with "k_ne" => (first | exact NeA.ne (by with_reducible assumption) | exact Ne.symm (NeA.ne (by with_reducible assumption)) | exact Nat.ne_of_gt (by walk_at "u lt") | exact Nat.ne_of_lt (by walk_at "u lt"))
  k_with "k_room" => (((try simp only [depth_under_make, depth_under_kw, depth_in1, depth_deeper, depth_caller, recursionLimit]); (try dsimp only); first | walk_at "u room" | omega))
  k_with "k_units" => (first | ((try simp only [units_in1, units_deeper, Around.mark_units, units_caller]); (try dsimp only); walk_at "u room") | (have hcL9 := cLine_is; (try simp only [units_in1, units_deeper, Around.mark_units, units_caller]); (try dsimp only); omega))
  k_with "om" => (with_reducible ((fail_if_success exact True.intro); (fail_if_success exact not_false); first | decide | exact n_lt0 rfl | exact n_le0 rfl | exact n_ltlt ‹_› rfl | exact n_lelt ‹_› rfl | exact n_lele ‹_› rfl | exact n_ltle ‹_› rfl | exact n_eqlt ‹_› rfl | exact n_lelt2 ‹_› ‹_› rfl | exact n_lelt3 ‹_› ‹_› rfl | exact Int.natCast_nonneg _ | exact i_ngt rfl | exact i_ge ‹_› rfl | exact i_gt ‹_› rfl | exact i_gtn ‹_› rfl | exact i_gt64 ‹_› | exact i_lt ‹_› rfl | exact i_lt64 ‹_› rfl | exact i_lelt ‹_› rfl | exact i_le ‹_› rfl | exact i_ne ‹_› rfl | exact i_nlt ‹_› rfl | exact i_ltn ‹_› ‹_› rfl | exact i_ltn2 ‹_› ‹_› rfl | exact i_neg ‹_› | exact i_eqn ‹_› | exact i_succ ‹_› | exact Int.add_one_le_of_lt ‹_› | exact i_sub_less ‹_› ‹_› | exact i_sub_less2 ‹_› ‹_› ‹_› | exact n_sum ‹_› ‹_› ‹_› ‹_› rfl))
  k_with "binaryOp FloorDiv int int" => ((refine floordiv_q (by omega) (by omega) (by omega) ?_; intro qf_q ef_q e0_q e1_q))
  k_with "ct" => ((with_reducible show wpAny _ _ (call (Value.ref 30) [Value.int _ _, Value.int _ _]) _ _ _); k_dflt (first | (refine wpAny_call ?_; refine' gcd_code (by k_asm) (by k_asm) (by k_asm) (by k_asm) rfl rfl (by walk_at "u dp") (by walk_at "u un") (by walk_at "u om") (by walk_at "u om") ?_; k_whole; intro rp_q tp_q hp_q tkq_q kpp_q ep_q; (have F_q := after_noneF (by k_asm) kpp_q); (have N_q := after_noneN (by k_asm) kpp_q); (have gq_q := gcdPos ep_q (by omega)); (have gl_q := gcdLe ep_q (by omega)); walk_at "u end")))
  exact True.intro
theorem number_of_code {w : World} {mean : ExcName → Option Value} {mg mb : Str → Option Value} {A₀ : Around} {dp un : Nat} {gd : Option (List Code)} {s : Shared} {base h₀ : Heap} {outer : List Env} {L : Addr} {m : Str → Option Value} {env : Env} {R : Result → Shared → Prop}
  (B : Below A₀ base outer h₀) (F : Fr h₀ L s.heap m) (X : (heapK w.params).In h₀) (T : Top viewK lo mean mg mb h₀) (hf : env.frame = some L) (hke : env.scope.kind = .function) {t t2 : Tok} {a b : Int}
  (hdep : dp + 6 < 1000) (hun : un + 48 < 9900)
  (ha : 0 ≤ a) (ha2 : a < 100000000) (hb : 1 ≤ b) (hb2 : b < 100000000)
  (ret : ∀ (ar : Addr) (p q : Int) (t' t2' : Tok) (h' : Heap) (tk' : Nat), h'.get? ar = some (tupO [.int p t', .int q t2']) → Keeps [] s.heap h' → s.heap.get? ar = none → p = a / (Int.gcd a b : Int) → q = b / (Int.gcd a b : Int) → R (.ok (.ret (.ref ar))) { s with heap := h', toks := tk' }) :
  codeAny (model PySem.Challenge.rw_xm0671_01.row.prog w) (Around.mk none dp (some (env :: outer)) gd un) (.call (.ref 45) ⟨[.int a t, .int b t2], []⟩) R s := by
  have N : News h₀ L s.heap [] := News.nil
  k_dflt (refine' code_defG ?k1 ?k2 ?k3 ?k4 ?k5 ?kA ?kF ?kK ?k6 ?k7 ?k8 ?k9 ?kB ?_ ?c2 ?c3 ?c4 ?c5; (case kA => exact rfl); (case kF => exact hf); (case kK => exact hke); (case k1 => k_asm); (case k2 => k_asm); (case k3 => k_asm); (case k4 => k_asm); (case k5 => k_asm); (case k6 => k_is); (case k7 => k_is); (case k8 => (simp only [recursionLimit]; first | walk_at "u room" | omega)); (case k9 => first | exact BindsTo.of_eq rfl | exact binds_K (by k_in) rfl (by k_is) rfl rfl rfl | fail "k_enter: no rule for these arguments"); (case c5 => decide); (case kB => exact locs rfl); (case c2 => exact rfl); (case c3 => exact rfl); (case c4 => exact rfl); k_whole)
  intro g' L' h' FG' F' N' B' X' T' kG'
  try dsimp only
  try k_fold
  k_steps
  all_goals (rename Fr g' L' _ _ => zF; rename News g' L' _ _ => zN)
  · exfalso; omega
  · (rename (_ = a / _) => e1); (rename (_ = b / _) => e2); (rename (_ = (Int.gcd a b : Int)) => e3)
    rw [e3] at e1 e2
    exact ret _ _ _ _ _ _ _ (zN.get (by k_mem)) (keeps_of kG' zF) (fresh_of kG' zN (by k_mem) (by simp only [List.map_cons, List.map_nil, List.mem_cons, List.mem_singleton, List.not_mem_nil, or_false, not_false_eq_true, not_or]; (try exact True.intro); (repeat' refine And.intro ?_ ?_); (all_goals try (first | k_ne | (refine neN ?_; omega))))) e1 e2

end
section
theorem dig_find : ∀ k : Fin 10, Txt.find (Str.ofString "0123456789") ⟨#[48 + k.val]⟩ = (k.val : Int) ∧ ∃ i rest, Builtin.Str.occurrences (Str.ofString "0123456789") ⟨#[48 + k.val]⟩ 0 (Str.ofString "0123456789").length 1 = i :: rest ∧ i = k.val := by
  intro k
  have h : ∀ k : Fin 10, Txt.find (Str.ofString "0123456789") ⟨#[48 + k.val]⟩ = (k.val : Int) ∧ (Builtin.Str.occurrences (Str.ofString "0123456789") ⟨#[48 + k.val]⟩ 0 (Str.ofString "0123456789").length 1).head? = some k.val := by decide +kernel
  refine ⟨(h k).1, ?_⟩
  have := (h k).2
  cases e : Builtin.Str.occurrences (Str.ofString "0123456789") ⟨#[48 + k.val]⟩ 0 (Str.ofString "0123456789").length 1 with
  | nil => rw [e] at this; cases this
  | cons i r => rw [e] at this; exact ⟨i, r, rfl, Option.some.inj this⟩
theorem index_dig {prog : Program} {w : World} {A : Around} {E : Value → Shared → Prop} {s : Shared} {n : Nat} {t u : Tok} {Q : Value → Shared → Prop} (h : 48 ≤ n ∧ n ≤ 57)
    (q : ∀ d : Int, d = (n : Int) - 48 → 0 ≤ d → d ≤ 9 → Q (.int d s.toks) { s with toks := s.toks + 1 }) : wpAny (model prog w) A (call (.builtin "str.index") [.str (Str.ofString "0123456789") t, .str ⟨#[n]⟩ u]) Q E s := by
  obtain ⟨k, rfl⟩ : ∃ k : Fin 10, n = 48 + k.val := ⟨⟨n - 48, by omega⟩, by simp; omega⟩
  obtain ⟨i, r, e, e2⟩ := (dig_find k).2
  refine SC.index e ?_
  subst e2
  exact q _ (by omega) (by omega) (by omega)
def wholeL (l : List Int) : Int := l.foldl (fun n c => n * 10 + (c - 48)) 0
theorem wholeL_snoc (l : List Int) (c : Int) : wholeL (l ++ [c]) = wholeL l * 10 + (c - 48) := by simp [wholeL]
theorem digRange {x : Str} (hd : ∀ c ∈ KStt.codes x, (48 : Int) ≤ c ∧ c ≤ 57) {pre post : List Int} {n : Nat} (h : KStt.codes x = pre ++ (n : Int) :: post) : 48 ≤ n ∧ n ≤ 57 := by
  have := hd n (by rw [h]; simp)
  omega
theorem wd1_R5 : True := by
  k_with_none
  k_with "u lt" => (with_reducible (first | assumption | exact cl0 ‹_› | exact cl1 ‹_› | exact cl2 ‹_› | exact cl3 ‹_› | exact cl4 ‹_› | exact cl5 ‹_› | exact cl6 ‹_› | exact cl7 ‹_› | exact cl8 ‹_› | exact cl9 ‹_› | exact cl10 ‹_› | exact cl11 ‹_› | exact cr1 ‹_› | exact cr2 ‹_› | exact cr3 ‹_› | exact cr4 ‹_› | exact cr5 ‹_› | exact cr6 ‹_› | exact cr7 ‹_› | exact cr8 ‹_› | exact cr9 ‹_› | exact cr10 ‹_› | exact cr11 ‹_›))
  k_with "u room" => (first | exact room3 (by with_reducible assumption) rfl | exact room2 (by with_reducible assumption) rfl | exact room4 (by with_reducible assumption) rfl | exact room1 (by with_reducible assumption) | exact roomc (by with_reducible assumption) rfl | exact roome (by with_reducible assumption) rfl | exact roomd (by with_reducible assumption) rfl | exact roomn rfl | exact Nat.le_of_ble_eq_true rfl)
  k_with "call ref" => ((k_here; k_extra "ct"))
  k_with "u dp" => (((try simp only [depth_deeper, depth_in1, depth_caller]); (try dsimp only); first | walk_at "u room" | omega))
  k_with "u un" => (((try simp only [units_deeper, units_in1, units_caller]); (try dsimp only); first | walk_at "u room" | omega))
  k_with "u end" => (((try k_sweep); (try dsimp only); (try ((fail_if_success (with_reducible show wpAny _ _ _ _ _ _)); refine peel ?_)); (try k_fold)))
  k_with "u om" => (first | walk_at "u lt" | walk_at "u room" | exact Nat.le_of_ble_eq_true rfl | omega)
  k_with "k_ne" => (first | exact NeA.ne (by with_reducible assumption) | exact Ne.symm (NeA.ne (by with_reducible assumption)) | exact Nat.ne_of_gt (by walk_at "u lt") | exact Nat.ne_of_lt (by walk_at "u lt"))
  k_with "k_room" => (((try simp only [depth_under_make, depth_under_kw, depth_in1, depth_deeper, depth_caller, recursionLimit]); (try dsimp only); first | walk_at "u room" | omega))
  k_with "k_units" => (first | ((try simp only [units_in1, units_deeper, Around.mark_units, units_caller]); (try dsimp only); walk_at "u room") | (have hcL9 := cLine_is; (try simp only [units_in1, units_deeper, Around.mark_units, units_caller]); (try dsimp only); omega))
  k_with "om" => (with_reducible ((fail_if_success exact True.intro); (fail_if_success exact not_false); first | decide | exact n_lt0 rfl | exact n_le0 rfl | exact n_ltlt ‹_› rfl | exact n_lelt ‹_› rfl | exact n_lele ‹_› rfl | exact n_ltle ‹_› rfl | exact n_eqlt ‹_› rfl | exact n_lelt2 ‹_› ‹_› rfl | exact n_lelt3 ‹_› ‹_› rfl | exact Int.natCast_nonneg _ | exact i_ngt rfl | exact i_ge ‹_› rfl | exact i_gt ‹_› rfl | exact i_gtn ‹_› rfl | exact i_gt64 ‹_› | exact i_lt ‹_› rfl | exact i_lt64 ‹_› rfl | exact i_lelt ‹_› rfl | exact i_le ‹_› rfl | exact i_ne ‹_› rfl | exact i_nlt ‹_› rfl | exact i_ltn ‹_› ‹_› rfl | exact i_ltn2 ‹_› ‹_› rfl | exact i_neg ‹_› | exact i_eqn ‹_› | exact i_succ ‹_› | exact Int.add_one_le_of_lt ‹_› | exact i_sub_less ‹_› ‹_› | exact i_sub_less2 ‹_› ‹_› ‹_› | exact n_sum ‹_› ‹_› ‹_› ‹_› rfl))
  k_with "call builtin:str.index" => ((refine index_dig (by k_extra "my dig") ?_; intro di_q ed_q e0_q e1_q))
  exact True.intro
theorem whole_of_code {w : World} {mean : ExcName → Option Value} {mg mb : Str → Option Value} {A₀ : Around} {dp un : Nat} {gd : Option (List Code)} {s : Shared} {base h₀ : Heap} {outer : List Env} {L : Addr} {m : Str → Option Value} {env : Env} {R : Result → Shared → Prop}
  (B : Below A₀ base outer h₀) (F : Fr h₀ L s.heap m) (X : (heapK w.params).In h₀) (T : Top viewK lo mean mg mb h₀) (hf : env.frame = some L) (hke : env.scope.kind = .function) {t : Tok} {x : Str}
  (hdep : dp + 3 < 1000) (hun : un + 24 < 9900)
  (hd : ∀ c ∈ KStt.codes x, (48 : Int) ≤ c ∧ c ≤ 57)
  (ret : ∀ (r : Int) (t' : Tok) (h' : Heap) (tk' : Nat), Keeps [] s.heap h' → r = wholeL (KStt.codes x) → R (.ok (.ret (.int r t'))) { s with heap := h', toks := tk' }) :
  codeAny (model PySem.Challenge.rw_xm0671_01.row.prog w) (Around.mk none dp (some (env :: outer)) gd un) (.call (.ref 80) ⟨[.str x t], []⟩) R s := by
  have N : News h₀ L s.heap [] := News.nil
  k_dflt (refine' code_defG ?k1 ?k2 ?k3 ?k4 ?k5 ?kA ?kF ?kK ?k6 ?k7 ?k8 ?k9 ?kB ?_ ?c2 ?c3 ?c4 ?c5; (case kA => exact rfl); (case kF => exact hf); (case kK => exact hke); (case k1 => k_asm); (case k2 => k_asm); (case k3 => k_asm); (case k4 => k_asm); (case k5 => k_asm); (case k6 => k_is); (case k7 => k_is); (case k8 => (simp only [recursionLimit]; first | walk_at "u room" | omega)); (case k9 => first | exact BindsTo.of_eq rfl | exact binds_K (by k_in) rfl (by k_is) rfl rfl rfl | fail "k_enter: no rule for these arguments"); (case c5 => decide); (case kB => exact locs rfl); (case c2 => exact rfl); (case c3 => exact rfl); (case c4 => exact rfl); k_whole)
  intro g' L' h' FG' F' N' B' X' T' kG'
  try dsimp only
  try k_fold
  k_with "my dig" => exact digRange hd (by assumption)
  k_with "pyIter str" => k_state (fun pre n => n = wholeL pre) "number"
  k_with "state" => first | exact (rfl : (0 : Int) = wholeL []) | (rw [wholeL_snoc]; omega)
  k_steps
  all_goals (rename Fr g' L' _ _ => zF; rename News g' L' _ _ => zN)
  exact ret _ _ _ _ (keeps_of kG' zF) (by assumption)

end
section
section
variable {prog : Program} {w : World} {A : Around} {E : Value → Shared → Prop} {s : Shared} {value slice : Expr} {x y : Str} {t u : Tok} {h₀ : Heap} {L : Addr} {m : Str → Option Value} {news : List (Addr × Obj)} {Q : Value → Shared → Prop}
theorem slice_ns {j : Int} {uj : Tok} (hF : Fr h₀ L s.heap m) (hN : News h₀ L s.heap news) (hl : x.length < 100000)
    (h : ∀ y h' t' k, Fr h₀ L h' m → News h₀ L h' news → y = Txt.slice x none (some j) → y.length ≤ x.length → Q (.str y t') { s with heap := h', toks := k })
    (hs : subscripted slice false (.str x t) (.ref s.heap.objs.size) = operate [.ref s.heap.objs.size, .str x t] (getItem (.str x t) (.ref s.heap.objs.size)) := by with_unfolding_all rfl)
    (ht : ∀ r, letTemporaryGo value (.str x t) r = pure () := by intro _; with_unfolding_all rfl) :
    wpAny (model prog w) A (subscriptTail value slice (.str x t) (.ref s.heap.objs.size)) Q E { s with heap := s.heap.push { cls := .type "slice", data := .fields #[.none, .int j uj, .none] } } :=
  slice_strN_ns_len hF hN (fun h' t' k a b c => h _ h' t' k a b rfl c) hs ht (by rw [sizeLine_eq]; omega)
theorem slice_sn {i : Int} {ui : Tok} (hF : Fr h₀ L s.heap m) (hN : News h₀ L s.heap news) (hl : x.length < 100000)
    (h : ∀ y h' t' k, Fr h₀ L h' m → News h₀ L h' news → y = Txt.slice x (some i) none → y.length ≤ x.length → Q (.str y t') { s with heap := h', toks := k })
    (hs : subscripted slice false (.str x t) (.ref s.heap.objs.size) = operate [.ref s.heap.objs.size, .str x t] (getItem (.str x t) (.ref s.heap.objs.size)) := by with_unfolding_all rfl)
    (ht : ∀ r, letTemporaryGo value (.str x t) r = pure () := by intro _; with_unfolding_all rfl) :
    wpAny (model prog w) A (subscriptTail value slice (.str x t) (.ref s.heap.objs.size)) Q E { s with heap := s.heap.push { cls := .type "slice", data := .fields #[.int i ui, .none, .none] } } :=
  slice_strN_sn_len hF hN (fun h' t' k a b c => h _ h' t' k a b rfl c) hs ht (by rw [sizeLine_eq]; omega)
theorem slice_ss {i j : Int} {ui uj : Tok} (hF : Fr h₀ L s.heap m) (hN : News h₀ L s.heap news) (hl : x.length < 100000)
    (h : ∀ y h' t' k, Fr h₀ L h' m → News h₀ L h' news → y = Txt.slice x (some i) (some j) → y.length ≤ x.length → Q (.str y t') { s with heap := h', toks := k })
    (hs : subscripted slice false (.str x t) (.ref s.heap.objs.size) = operate [.ref s.heap.objs.size, .str x t] (getItem (.str x t) (.ref s.heap.objs.size)) := by with_unfolding_all rfl)
    (ht : ∀ r, letTemporaryGo value (.str x t) r = pure () := by intro _; with_unfolding_all rfl) :
    wpAny (model prog w) A (subscriptTail value slice (.str x t) (.ref s.heap.objs.size)) Q E { s with heap := s.heap.push { cls := .type "slice", data := .fields #[.int i ui, .int j uj, .none] } } :=
  slice_strN_ss_len hF hN (fun h' t' k a b c => h _ h' t' k a b rfl c) hs ht (by rw [sizeLine_eq]; omega)
theorem pow10_q {n : Int} (h0 : 0 ≤ n) (h1 : n ≤ 3) (h : ∀ b : Int, b = 10 ^ n.toNat → 1 ≤ b → b ≤ 1000 → Q (.int b s.toks) { s with toks := s.toks + 1 }) : wpAny (model prog w) A (binaryOp .Pow (.int 10 t) (.int n u)) Q E s := by
  refine pow_int_small h0 (by omega) (by decide) ?_
  have : n = 0 ∨ n = 1 ∨ n = 2 ∨ n = 3 := by omega
  exact h _ rfl (by rcases this with rfl | rfl | rfl | rfl <;> decide) (by rcases this with rfl | rfl | rfl | rfl <;> decide)
theorem ge_no (hx : x = ⟨#[]⟩) (h : Q (.bool false) s) : wpAny (model prog w) A (compareOp .GtE (.str x t) (.str (Str.ofString "5") u)) Q E s := by
  subst hx
  exact P.ge_str (by
    have e : (!decide ((Str.mk #[]).cps.toList < (Str.ofString "5").cps.toList)) = false := by decide +kernel
    rw [e]; exact h)
end

end
section
def endF (p : Int → Bool) : Nat → Int → Int
  | 0, i => i
  | n + 1, i => if p i = true then endF p n (i + 1) else i
def endOf (p : Int → Bool) (len : Nat) (i : Int) : Int := endF p (len - i.toNat) i
theorem endTurn {p : Int → Bool} {len : Nat} {a i : Int} (h1 : a ≤ i) (h2 : endOf p len i = endOf p len a) (ha : 0 ≤ a) (h : i < len) (hc : p i = true) : a ≤ i + 1 ∧ i + 1 ≤ len ∧ endOf p len (i + 1) = endOf p len a := by
  refine ⟨by omega, by omega, ?_⟩
  rw [← h2]
  unfold endOf
  obtain ⟨n, hn⟩ : ∃ n, len - i.toNat = n + 1 := ⟨len - i.toNat - 1, sub_step (Int.le_trans ha h1) h⟩
  rw [hn, endF, if_pos hc, show len - (i + 1).toNat = n from sub_next (Int.le_trans ha h1) hn]
theorem endFin1 {p : Int → Bool} {len : Nat} {a i : Int} (h2 : endOf p len i = endOf p len a) (h : ¬ i < len) : i = endOf p len a := by
  rw [← h2]
  unfold endOf
  rw [show len - i.toNat = 0 from sub_end h]; rfl
theorem endFin2 {p : Int → Bool} {len : Nat} {a i : Int} (h2 : endOf p len i = endOf p len a) (hc : p i = false) : i = endOf p len a := by
  rw [← h2]
  unfold endOf
  cases len - i.toNat with
  | zero => rfl
  | succ n => rw [endF, hc]; rfl
def isZ (x : Str) (i : Int) : Bool := Txt.item x i == Str.ofString "0"
def zEnd (x : Str) : Int := endOf (isZ x) x.length 0
def numTop (wx px : Str) : Int := wholeL (KStt.codes (Txt.slice wx (some (zEnd wx)) none ++ Txt.slice px none (some 400)))
def numBot (px : Str) : Int := 10 ^ (Txt.slice px none (some 400)).length
def IsDigs (x : Str) : Prop := ∀ c ∈ KStt.codes x, (48 : Int) ≤ c ∧ c ≤ 57
theorem slice_off {x : Str} (h : x.length ≤ 3) : Txt.slice x (some 400) (some (400 + 1)) = ⟨#[]⟩ := by
  have e : Builtin.Str.strSliceIndices (some 400) (some (400 + 1)) 1 x.length = [] := by
    have : x.length = 0 ∨ x.length = 1 ∨ x.length = 2 ∨ x.length = 3 := by omega
    rcases this with q | q | q | q <;> rw [q] <;> decide
  unfold Txt.slice
  rw [e]
  split
  · rename_i q
    have q' : x.cps.size = 0 := by
      have : (0 : Nat) = x.length := by simpa using q
      exact this.symm
    obtain ⟨a⟩ := x
    exact congrArg Str.mk (Array.eq_empty_of_size_eq_zero q')
  · simp
theorem digs_slice {x : Str} {l u : Option Int} (h : IsDigs x) : IsDigs (Txt.slice x l u) := by
  unfold Txt.slice
  split
  · exact h
  · intro c hc
    simp only [KStt.codes, List.mem_map, List.mem_filterMap] at hc
    obtain ⟨d, ⟨k, _, hk⟩, rfl⟩ := hc
    exact h _ (by simp only [KStt.codes, List.mem_map]; exact ⟨d, Array.mem_toList_iff.mpr (Array.mem_of_getElem? hk), rfl⟩)
theorem digs_app {x y : Str} (h : IsDigs x) (h' : IsDigs y) : IsDigs (x ++ y) := by
  intro c hc
  have e : KStt.codes (x ++ y) = KStt.codes x ++ KStt.codes y := by simp [KStt.codes, Str.cps_append]
  rw [e] at hc
  exact (List.mem_append.mp hc).elim (h c) (h' c)
theorem wholeBd : ∀ (l : List Int), (∀ c ∈ l, (48 : Int) ≤ c ∧ c ≤ 57) → 0 ≤ wholeL l ∧ wholeL l < 10 ^ l.length := by
  intro l
  suffices h : ∀ l : List Int, (∀ c ∈ l.reverse, (48 : Int) ≤ c ∧ c ≤ 57) → 0 ≤ wholeL l.reverse ∧ wholeL l.reverse < 10 ^ l.reverse.length by
    have := h l.reverse
    simpa using this
  intro l
  induction l with
  | nil => intro _; decide
  | cons c r ih =>
    intro h
    rw [List.reverse_cons] at h ⊢
    have h1 := ih fun d hd => h d (List.mem_append_left _ hd)
    have h2 := h c (by simp)
    rw [wholeL_snoc, List.length_append, List.length_singleton, Int.pow_succ]
    omega
theorem wholeSmall {r : Int} {x : Str} (e : r = wholeL (KStt.codes x)) (h : IsDigs x) (hl : x.length ≤ 6) : 0 ≤ r ∧ r < 1000000 := by
  have := wholeBd _ h
  rw [← e, KStt.codes_length] at this
  refine ⟨this.1, Int.lt_of_lt_of_le this.2 ?_⟩
  calc (10 : Int) ^ x.length ≤ 10 ^ 6 := by exact_mod_cast Nat.pow_le_pow_right (by decide) hl
    _ ≤ 1000000 := by decide
theorem topFin {wx px y1 y2 : Str} {r z : Int} (e7 : r = wholeL (KStt.codes (y1 ++ y2))) (e8 : y1 = Txt.slice wx (some z) none) (e9 : y2 = Txt.slice px none (some 400)) (hz : z = endOf (isZ wx) wx.length 0) : r + 0 = numTop wx px := by
  rw [Int.add_zero, e7, e8, e9, hz]; rfl
theorem botFin {px y2 : Str} {b : Int} (e6 : b = 10 ^ (y2.length : Int).toNat) (e9 : y2 = Txt.slice px none (some 400)) : b = numBot px := by
  rw [e6, e9, Int.toNat_natCast]; rfl


theorem wd1_R7 : True := by
  k_with_none
  k_with "u lt" => (with_reducible (first | assumption | exact cl0 ‹_› | exact cl1 ‹_› | exact cl2 ‹_› | exact cl3 ‹_› | exact cl4 ‹_› | exact cl5 ‹_› | exact cl6 ‹_› | exact cl7 ‹_› | exact cl8 ‹_› | exact cl9 ‹_› | exact cl10 ‹_› | exact cl11 ‹_› | exact cr1 ‹_› | exact cr2 ‹_› | exact cr3 ‹_› | exact cr4 ‹_› | exact cr5 ‹_› | exact cr6 ‹_› | exact cr7 ‹_› | exact cr8 ‹_› | exact cr9 ‹_› | exact cr10 ‹_› | exact cr11 ‹_›))
  k_with "u room" => (first | exact room3 (by with_reducible assumption) rfl | exact room2 (by with_reducible assumption) rfl | exact room4 (by with_reducible assumption) rfl | exact room1 (by with_reducible assumption) | exact roomc (by with_reducible assumption) rfl | exact roome (by with_reducible assumption) rfl | exact roomd (by with_reducible assumption) rfl | exact roomn rfl | exact Nat.le_of_ble_eq_true rfl)
  k_with "call ref" => ((k_here; k_extra "ct"))
  k_with "u dp" => (((try simp only [depth_deeper, depth_in1, depth_caller]); (try dsimp only); first | walk_at "u room" | omega))
  k_with "u un" => (((try simp only [units_deeper, units_in1, units_caller]); (try dsimp only); first | walk_at "u room" | omega))
  k_with "u end" => (((try k_sweep); (try dsimp only); (try ((fail_if_success (with_reducible show wpAny _ _ _ _ _ _)); refine peel ?_)); (try k_fold)))
  k_with "u om" => (first | walk_at "u lt" | walk_at "u room" | exact Nat.le_of_ble_eq_true rfl | omega)
  k_with "k_ne" => (first | exact NeA.ne (by with_reducible assumption) | exact Ne.symm (NeA.ne (by with_reducible assumption)) | exact Nat.ne_of_gt (by walk_at "u lt") | exact Nat.ne_of_lt (by walk_at "u lt"))
  k_with "k_room" => (((try simp only [depth_under_make, depth_under_kw, depth_in1, depth_deeper, depth_caller, recursionLimit]); (try dsimp only); first | walk_at "u room" | omega))
  k_with "k_units" => (first | ((try simp only [units_in1, units_deeper, Around.mark_units, units_caller]); (try dsimp only); walk_at "u room") | (have hcL9 := cLine_is; (try simp only [units_in1, units_deeper, Around.mark_units, units_caller]); (try dsimp only); omega))
  k_with "om" => (with_reducible ((fail_if_success exact True.intro); (fail_if_success exact not_false); first | decide | exact n_lt0 rfl | exact n_le0 rfl | exact n_ltlt ‹_› rfl | exact n_lelt ‹_› rfl | exact n_lele ‹_› rfl | exact n_ltle ‹_› rfl | exact n_eqlt ‹_› rfl | exact n_lelt2 ‹_› ‹_› rfl | exact n_lelt3 ‹_› ‹_› rfl | exact Int.natCast_nonneg _ | exact i_ngt rfl | exact i_ge ‹_› rfl | exact i_gt ‹_› rfl | exact i_gtn ‹_› rfl | exact i_gt64 ‹_› | exact i_lt ‹_› rfl | exact i_lt64 ‹_› rfl | exact i_lelt ‹_› rfl | exact i_le ‹_› rfl | exact i_ne ‹_› rfl | exact i_nlt ‹_› rfl | exact i_ltn ‹_› ‹_› rfl | exact i_ltn2 ‹_› ‹_› rfl | exact i_neg ‹_› | exact i_eqn ‹_› | exact i_succ ‹_› | exact Int.add_one_le_of_lt ‹_› | exact i_sub_less ‹_› ‹_› | exact i_sub_less2 ‹_› ‹_› ‹_› | exact n_sum ‹_› ‹_› ‹_› ‹_› rfl))
  k_with "call builtin:len" => ((k_here; (with_reducible show wpAny _ _ (call (Value.builtin "len") [Value.str _ _]) _ _ _); k_dflt (refine len_S (by first | omega | k_extra "my len") ?_)))
  k_with "subscriptTail Name Slice str ref" => ((k_here; (with_reducible rename Fr _ _ _ _ => kF_q); (with_reducible rename News _ _ _ _ => kN_q); (first | ((with_reducible show wpAny _ _ (subscriptTail _ (Expr.Slice (some _) (some _) none _) _ _) _ _ _); refine slice_ss (s := ⟨_, _, _, _, _⟩) kF_q kN_q (by omega) ?_) | ((with_reducible show wpAny _ _ (subscriptTail _ (Expr.Slice none (some _) none _) _ _) _ _ _); refine slice_ns (s := ⟨_, _, _, _, _⟩) kF_q kN_q (by omega) ?_) | ((with_reducible show wpAny _ _ (subscriptTail _ (Expr.Slice (some _) none none _) _ _) _ _ _); refine slice_sn (s := ⟨_, _, _, _, _⟩) kF_q kN_q (by omega) ?_)); clear kF_q kN_q; intro y_q h_q t_q k_q F_q N_q ey_q ly_q))
  k_with "exec While BoolOp" => (k_extra "my while")
  k_with "binaryOp Pow int int" => ((refine pow10_q (by omega) (by omega) ?_; intro b_q eb_q b1_q b2_q))
  k_with "compareOp GtE str str" => ((refine ge_no (by k_extra "my ge") ?_))
  k_with "ct" => ((with_reducible show wpAny _ _ (call (Value.ref 80) [Value.str _ _]) _ _ _); k_dflt (first | (refine wpAny_call ?_; refine' whole_of_code (by k_asm) (by k_asm) (by k_asm) (by k_asm) rfl rfl (by walk_at "u dp") (by walk_at "u un") ?h1 ?_; (case h1 => k_extra "wh1"); k_whole; intro rp_q tp_q hp_q tkq_q kpp_q ep_q; (have F_q := after_noneF (by k_asm) kpp_q); (have N_q := after_noneN (by k_asm) kpp_q); (first | k_extra "wh2" | skip); walk_at "u end")))
  k_with "ct" => ((with_reducible show wpAny _ _ (call (Value.ref 45) [Value.int _ _, Value.int _ _]) _ _ _); k_dflt (first | (refine wpAny_call ?_; refine' number_of_code (by k_asm) (by k_asm) (by k_asm) (by k_asm) rfl rfl (by walk_at "u dp") (by walk_at "u un") (by walk_at "u om") (by walk_at "u om") (by walk_at "u om") (by walk_at "u om") ?_; k_whole; intro ap_q pp_q qp_q tp_q t2p_q hp_q tkq_q hep_q kpp_q hn1_q e1_q e2_q; (have F_q := after_noneF (by k_asm) kpp_q); (have N_q := after_noneN (by k_asm) kpp_q); (have ne1_q := allNe_of hn1_q (by k_asm : News _ _ _ _)); (replace N_q := new_entry (by k_asm) N_q hn1_q hep_q); (simp only [AllNe, and_true] at ne1_q); (repeat (have _ := And.left ne1_q; replace ne1_q := And.right ne1_q)); walk_at "u end")))
  exact True.intro
theorem number_of_digits_code {w : World} {mean : ExcName → Option Value} {mg mb : Str → Option Value} {A₀ : Around} {dp un : Nat} {gd : Option (List Code)} {s : Shared} {base h₀ : Heap} {outer : List Env} {L : Addr} {m : Str → Option Value} {env : Env} {R : Result → Shared → Prop}
  (B : Below A₀ base outer h₀) (F : Fr h₀ L s.heap m) (X : (heapK w.params).In h₀) (T : Top viewK lo mean mg mb h₀) (hf : env.frame = some L) (hke : env.scope.kind = .function) {t t2 : Tok} {wx px : Str}
  (hdep : dp + 9 < 1000) (hun : un + 96 < 9900)
  (hw : wx.length ≤ 3) (hp : px.length ≤ 3) (dw : IsDigs wx) (dpx : IsDigs px)
  (ret : ∀ (ar : Addr) (p q : Int) (t' t2' : Tok) (h' : Heap) (tk' : Nat), h'.get? ar = some (tupO [.int p t', .int q t2']) → Keeps [] s.heap h' → s.heap.get? ar = none →
     p = numTop wx px / (Int.gcd (numTop wx px) (numBot px) : Int) → q = numBot px / (Int.gcd (numTop wx px) (numBot px) : Int) → R (.ok (.ret (.ref ar))) { s with heap := h', toks := tk' }) :
  codeAny (model PySem.Challenge.rw_xm0671_01.row.prog w) (Around.mk none dp (some (env :: outer)) gd un) (.call (.ref 94) ⟨[.str wx t, .str px t2], []⟩) R s := by
  have N : News h₀ L s.heap [] := News.nil
  k_dflt (refine' code_defG ?k1 ?k2 ?k3 ?k4 ?k5 ?kA ?kF ?kK ?k6 ?k7 ?k8 ?k9 ?kB ?_ ?c2 ?c3 ?c4 ?c5; (case kA => exact rfl); (case kF => exact hf); (case kK => exact hke); (case k1 => k_asm); (case k2 => k_asm); (case k3 => k_asm); (case k4 => k_asm); (case k5 => k_asm); (case k6 => k_is); (case k7 => k_is); (case k8 => (simp only [recursionLimit]; first | walk_at "u room" | omega)); (case k9 => first | exact BindsTo.of_eq rfl | exact binds_K (by k_in) rfl (by k_is) rfl rfl rfl | fail "k_enter: no rule for these arguments"); (case c5 => decide); (case kB => exact locs rfl); (case c2 => exact rfl); (case c3 => exact rfl); (case c4 => exact rfl); k_whole)
  intro g' L' h' FG' F' N' B' X' T' kG'
  try dsimp only
  try k_fold
  k_with "my while" => k_while (fun _ i => 0 ≤ i ∧ i ≤ wx.length ∧ endOf (isZ wx) wx.length i = endOf (isZ wx) wx.length 0) (fun _ i => wx.length - i.toNat) "begin"
  k_with "state" => first | exact ⟨Int.le_refl _, by omega, rfl⟩ | exact endTurn (by assumption) (by assumption) (by omega) (by assumption) (by assumption)
  k_with "my ge" => (rename (_ = Txt.slice px (some _) (some _)) => e9; rw [e9]; exact slice_off hp)
  k_with "wh1" => (rename (_ = Txt.slice wx _ _) => e8; rename (_ = Txt.slice px none _) => e9; rw [e8, e9]; exact digs_app (digs_slice dw) (digs_slice dpx))
  k_with "wh2" => ((rename (_ = wholeL _) => e7); (rename (_ = Txt.slice wx _ _) => e8); (rename (_ = Txt.slice px none _) => e9); (have b7 := wholeSmall e7 (by rw [e8, e9]; exact digs_app (digs_slice dw) (digs_slice dpx)) (by omega)))
  k_steps
  all_goals (rename Fr g' L' _ _ => zF; rename News g' L' _ _ => zN)
  all_goals (
    (rename (_ = (_ + 0) / _) => e1); (rename (_ = _ / _) => e2); (rename (_ = wholeL _) => e7); (rename (_ = Txt.slice wx _ _) => e8); (rename (_ = Txt.slice px none _) => e9); (rename (_ = 10 ^ _) => e6)
    (have hz := (by first | exact endFin1 (by assumption) (by assumption) | exact endFin2 (by assumption) (by assumption) : _ = endOf (isZ wx) wx.length 0))
    (have hT := topFin e7 e8 e9 hz)
    (have hB := botFin e6 e9)
    rw [hT, hB] at e1 e2
    exact ret _ _ _ _ _ _ _ (zN.get (by k_mem)) (keeps_of kG' zF) (fresh_of kG' zN (by k_mem) (by simp only [List.map_cons, List.map_nil, List.mem_cons, List.mem_singleton, List.not_mem_nil, or_false, not_false_eq_true, not_or]; (try exact True.intro); (repeat' refine And.intro ?_ ?_); (all_goals try (first | k_ne | (refine neN ?_; omega))))) e1 e2)

end
section
structure OkB (st : Str) (b : Int) : Prop where
  b1 : b ≤ st.length
  dot : ∀ y e, y = Txt.slice st (some e) (some (e + 1)) → e = digEnd st b → (y == Str.ofString ".") = true → e + 1 ≤ st.length
  w : ∀ y e, y = Txt.slice st (some b) (some e) → e = digEnd st b → y.length ≤ 3 ∧ IsDigs y
  p : ∀ y e l, y = Txt.slice st (some (e + 1)) (some l) → l = digEnd st (e + 1) → e = digEnd st b → y.length ≤ 3 ∧ IsDigs y
def readFin (st : Str) (b e : Int) (w p : Str) : Int × Int :=
  if e < st.length then (0, 0) else if (w ++ p == Str.ofString "") = true then (0, 0) else
    (if b = 1 then -(numTop w p / (Int.gcd (numTop w p) (numBot p) : Int)) else numTop w p / (Int.gcd (numTop w p) (numBot p) : Int), numBot p / (Int.gcd (numTop w p) (numBot p) : Int))
def readAt (st : Str) (b : Int) : Int × Int :=
  if (Txt.slice st (some (digEnd st b)) (some (digEnd st b + 1)) == Str.ofString ".") = true then
    readFin st b (digEnd st (digEnd st b + 1)) (Txt.slice st (some b) (some (digEnd st b))) (Txt.slice st (some (digEnd st b + 1)) (some (digEnd st (digEnd st b + 1))))
  else readFin st b (digEnd st b) (Txt.slice st (some b) (some (digEnd st b))) (Str.ofString "")
def readN (st : Str) : Int × Int := if (Txt.slice st none (some 1) == Str.ofString "-") = true then readAt st 1 else readAt st 0
theorem readN_b {st y : Str} {b : Int} (h : y = Txt.slice st none (some 1)) (hb : (y == Str.ofString "-") = true ∧ b = 1 ∨ (y == Str.ofString "-") = false ∧ b = 0) : readN st = readAt st b := by
  subst h
  unfold readN
  rcases hb with ⟨h, rfl⟩ | ⟨h, rfl⟩ <;> rw [h]
  · rfl
  · rfl
theorem readAt_dot {st w p y3 : Str} {b e l : Int} (h3 : y3 = Txt.slice st (some e) (some (e + 1))) (hd : (y3 == Str.ofString ".") = true) (hw : w = Txt.slice st (some b) (some e)) (hp : p = Txt.slice st (some (e + 1)) (some l)) (he : e = digEnd st b) (hl : l = digEnd st (e + 1)) :
    readAt st b = readFin st b l w p := by
  subst he hl hw hp h3
  unfold readAt
  rw [if_pos hd]
theorem readAt_no {st w y3 : Str} {b e : Int} (h3 : y3 = Txt.slice st (some e) (some (e + 1))) (hd : (y3 == Str.ofString ".") = false) (hw : w = Txt.slice st (some b) (some e)) (he : e = digEnd st b) :
    readAt st b = readFin st b e w (Str.ofString "") := by
  subst he hw h3
  unfold readAt
  rw [if_neg (by rw [hd]; exact Bool.false_ne_true)]
theorem readFin_1 {st w p : Str} {b e : Int} (h : e < st.length) : readFin st b e w p = (0, 0) := by unfold readFin; rw [if_pos h]
theorem readFin_2 {st w p : Str} {b e : Int} (h : (w ++ p == Str.ofString "") = true) : readFin st b e w p = (0, 0) := by unfold readFin; rw [if_pos h]; split <;> rfl
theorem readFin_3 {st w p : Str} {e P q : Int} (h : ¬ e < st.length) (h2 : (w ++ p == Str.ofString "") = false) (e1 : P = numTop w p / (Int.gcd (numTop w p) (numBot p) : Int)) (e2 : q = numBot p / (Int.gcd (numTop w p) (numBot p) : Int)) :
    readFin st 1 e w p = (-P, q) := by
  subst e1 e2
  unfold readFin
  rw [if_neg h, if_neg (by rw [h2]; exact Bool.false_ne_true), if_pos rfl]
theorem readFin_4 {st w p : Str} {e P q : Int} (h : ¬ e < st.length) (h2 : (w ++ p == Str.ofString "") = false) (e1 : P = numTop w p / (Int.gcd (numTop w p) (numBot p) : Int)) (e2 : q = numBot p / (Int.gcd (numTop w p) (numBot p) : Int)) :
    readFin st 0 e w p = (P, q) := by
  subst e1 e2
  unfold readFin
  rw [if_neg h, if_neg (by rw [h2]; exact Bool.false_ne_true), if_neg (by decide)]
theorem digs_nil : IsDigs (Str.ofString "") := by
  intro c hc
  have : KStt.codes (Str.ofString "") = [] := by decide
  rw [this] at hc; cases hc


theorem wd1_R8 : True := by
  k_with_none
  k_with "u lt" => (with_reducible (first | assumption | exact cl0 ‹_› | exact cl1 ‹_› | exact cl2 ‹_› | exact cl3 ‹_› | exact cl4 ‹_› | exact cl5 ‹_› | exact cl6 ‹_› | exact cl7 ‹_› | exact cl8 ‹_› | exact cl9 ‹_› | exact cl10 ‹_› | exact cl11 ‹_› | exact cr1 ‹_› | exact cr2 ‹_› | exact cr3 ‹_› | exact cr4 ‹_› | exact cr5 ‹_› | exact cr6 ‹_› | exact cr7 ‹_› | exact cr8 ‹_› | exact cr9 ‹_› | exact cr10 ‹_› | exact cr11 ‹_›))
  k_with "u room" => (first | exact room3 (by with_reducible assumption) rfl | exact room2 (by with_reducible assumption) rfl | exact room4 (by with_reducible assumption) rfl | exact room1 (by with_reducible assumption) | exact roomc (by with_reducible assumption) rfl | exact roome (by with_reducible assumption) rfl | exact roomd (by with_reducible assumption) rfl | exact roomn rfl | exact Nat.le_of_ble_eq_true rfl)
  k_with "call ref" => ((k_here; k_extra "ct"))
  k_with "u dp" => (((try simp only [depth_deeper, depth_in1, depth_caller]); (try dsimp only); first | walk_at "u room" | omega))
  k_with "u un" => (((try simp only [units_deeper, units_in1, units_caller]); (try dsimp only); first | walk_at "u room" | omega))
  k_with "u end" => (((try k_sweep); (try dsimp only); (try ((fail_if_success (with_reducible show wpAny _ _ _ _ _ _)); refine peel ?_)); (try k_fold)))
  k_with "u om" => (first | walk_at "u lt" | walk_at "u room" | exact Nat.le_of_ble_eq_true rfl | omega)
  k_with "k_ne" => (first | exact NeA.ne (by with_reducible assumption) | exact Ne.symm (NeA.ne (by with_reducible assumption)) | exact Nat.ne_of_gt (by walk_at "u lt") | exact Nat.ne_of_lt (by walk_at "u lt"))
  k_with "k_room" => (((try simp only [depth_under_make, depth_under_kw, depth_in1, depth_deeper, depth_caller, recursionLimit]); (try dsimp only); first | walk_at "u room" | omega))
  k_with "k_units" => (first | ((try simp only [units_in1, units_deeper, Around.mark_units, units_caller]); (try dsimp only); walk_at "u room") | (have hcL9 := cLine_is; (try simp only [units_in1, units_deeper, Around.mark_units, units_caller]); (try dsimp only); omega))
  k_with "om" => (with_reducible ((fail_if_success exact True.intro); (fail_if_success exact not_false); first | decide | exact n_lt0 rfl | exact n_le0 rfl | exact n_ltlt ‹_› rfl | exact n_lelt ‹_› rfl | exact n_lele ‹_› rfl | exact n_ltle ‹_› rfl | exact n_eqlt ‹_› rfl | exact n_lelt2 ‹_› ‹_› rfl | exact n_lelt3 ‹_› ‹_› rfl | exact Int.natCast_nonneg _ | exact i_ngt rfl | exact i_ge ‹_› rfl | exact i_gt ‹_› rfl | exact i_gtn ‹_› rfl | exact i_gt64 ‹_› | exact i_lt ‹_› rfl | exact i_lt64 ‹_› rfl | exact i_lelt ‹_› rfl | exact i_le ‹_› rfl | exact i_ne ‹_› rfl | exact i_nlt ‹_› rfl | exact i_ltn ‹_› ‹_› rfl | exact i_ltn2 ‹_› ‹_› rfl | exact i_neg ‹_› | exact i_eqn ‹_› | exact i_succ ‹_› | exact Int.add_one_le_of_lt ‹_› | exact i_sub_less ‹_› ‹_› | exact i_sub_less2 ‹_› ‹_› ‹_› | exact n_sum ‹_› ‹_› ‹_› ‹_› rfl))
  k_with "call builtin:len" => ((k_here; (with_reducible show wpAny _ _ (call (Value.builtin "len") [Value.str _ _]) _ _ _); k_dflt (refine len_S (by first | omega | k_extra "my len") ?_)))
  k_with "subscriptTail Name Slice str ref" => ((k_here; (with_reducible rename Fr _ _ _ _ => kF_q); (with_reducible rename News _ _ _ _ => kN_q); (first | ((with_reducible show wpAny _ _ (subscriptTail _ (Expr.Slice (some _) (some _) none _) _ _) _ _ _); refine slice_ss (s := ⟨_, _, _, _, _⟩) kF_q kN_q (by omega) ?_) | ((with_reducible show wpAny _ _ (subscriptTail _ (Expr.Slice none (some _) none _) _ _) _ _ _); refine slice_ns (s := ⟨_, _, _, _, _⟩) kF_q kN_q (by omega) ?_) | ((with_reducible show wpAny _ _ (subscriptTail _ (Expr.Slice (some _) none none _) _ _) _ _ _); refine slice_sn (s := ⟨_, _, _, _, _⟩) kF_q kN_q (by omega) ?_)); clear kF_q kN_q; intro y_q h_q t_q k_q F_q N_q ey_q ly_q))
  k_with "ct" => ((with_reducible show wpAny _ _ (call (Value.ref 73) [Value.str _ _]) _ _ _); k_dflt (first | (refine wpAny_call ?_; refine' trimmed_code (by k_asm) (by k_asm) (by k_asm) (by k_asm) rfl rfl (by walk_at "u dp") (by walk_at "u un") ?h1 ?h2 ?_; (case h1 => k_extra "trim1"); (case h2 => k_extra "trim2"); k_whole; intro tp_q hp_q tkq_q kpp_q; (have F_q := after_noneF (by k_asm) kpp_q); (have N_q := after_noneN (by k_asm) kpp_q); walk_at "u end")))
  k_with "ct" => ((with_reducible show wpAny _ _ (call (Value.ref 66) [Value.str _ _, Value.int _ _]) _ _ _); k_dflt (first | (refine wpAny_call ?_; refine' digits_end_code (by k_asm) (by k_asm) (by k_asm) (by k_asm) rfl rfl (by walk_at "u dp") (by walk_at "u un") ?h1 ?h2 ?h3 ?_; (case h1 => first | omega | k_extra "de1"); (case h2 => first | omega | k_extra "de2"); (case h3 => first | omega | k_extra "de3"); k_whole; intro rp_q tp_q hp_q tkq_q kpp_q ep_q lp_q gp_q; (have F_q := after_noneF (by k_asm) kpp_q); (have N_q := after_noneN (by k_asm) kpp_q); walk_at "u end")))
  k_with "ct" => ((with_reducible show wpAny _ _ (call (Value.ref 94) [Value.str _ _, Value.str _ _]) _ _ _); k_dflt (first | (refine wpAny_call ?_; refine' number_of_digits_code (by k_asm) (by k_asm) (by k_asm) (by k_asm) rfl rfl (by walk_at "u dp") (by walk_at "u un") ?h1 ?h2 ?h3 ?h4 ?_; (case h1 => k_extra "nd1"); (case h2 => k_extra "nd2"); (case h3 => k_extra "nd3"); (case h4 => k_extra "nd4"); k_whole; intro ap_q pp_q qp_q tp_q t2p_q hp_q tkq_q hep_q kpp_q hn1_q e1_q e2_q; (have F_q := after_noneF (by k_asm) kpp_q); (have N_q := after_noneN (by k_asm) kpp_q); (have ne1_q := allNe_of hn1_q (by k_asm : News _ _ _ _)); (replace N_q := new_entry (by k_asm) N_q hn1_q hep_q); (simp only [AllNe, and_true] at ne1_q); (repeat (have _ := And.left ne1_q; replace ne1_q := And.right ne1_q)); walk_at "u end")))
  exact True.intro
theorem read_number_code {w : World} {mean : ExcName → Option Value} {mg mb : Str → Option Value} {A₀ : Around} {dp un : Nat} {gd : Option (List Code)} {s : Shared} {base h₀ : Heap} {outer : List Env} {L : Addr} {m : Str → Option Value} {env : Env} {R : Result → Shared → Prop}
  (B : Below A₀ base outer h₀) (F : Fr h₀ L s.heap m) (X : (heapK w.params).In h₀) (T : Top viewK lo mean mg mb h₀) (hf : env.frame = some L) (hke : env.scope.kind = .function) {t : Tok} {st : Str}
  (hdep : dp + 12 < 1000) (hun : un + 144 < 9900)
  (hl : st.length < 1000) (hcl : ∀ i : Int, 0 ≤ i → i < st.length → Txt.contains (Str.ofString " \t\n\r") (Txt.item st i) = false)
  (h1 : ∀ y, y = Txt.slice st none (some 1) → (y == Str.ofString "-") = true → OkB st 1) (h0 : ∀ y, y = Txt.slice st none (some 1) → (y == Str.ofString "-") = false → OkB st 0)
  (ret0 : ∀ (h' : Heap) (tk' : Nat), Keeps [] s.heap h' → readN st = (0, 0) → R (.ok (.ret (.ref 22))) { s with heap := h', toks := tk' })
  (ret : ∀ (ar : Addr) (p q : Int) (t' t2' : Tok) (h' : Heap) (tk' : Nat), h'.get? ar = some (tupO [.int p t', .int q t2']) → Keeps [] s.heap h' → s.heap.get? ar = none → readN st = (p, q) → R (.ok (.ret (.ref ar))) { s with heap := h', toks := tk' }) :
  codeAny (model PySem.Challenge.rw_xm0671_01.row.prog w) (Around.mk none dp (some (env :: outer)) gd un) (.call (.ref 87) ⟨[.str st t], []⟩) R s := by
  have N : News h₀ L s.heap [] := News.nil
  k_dflt (refine' code_defG ?k1 ?k2 ?k3 ?k4 ?k5 ?kA ?kF ?kK ?k6 ?k7 ?k8 ?k9 ?kB ?_ ?c2 ?c3 ?c4 ?c5; (case kA => exact rfl); (case kF => exact hf); (case kK => exact hke); (case k1 => k_asm); (case k2 => k_asm); (case k3 => k_asm); (case k4 => k_asm); (case k5 => k_asm); (case k6 => k_is); (case k7 => k_is); (case k8 => (simp only [recursionLimit]; first | walk_at "u room" | omega)); (case k9 => first | exact BindsTo.of_eq rfl | exact binds_K (by k_in) rfl (by k_is) rfl rfl rfl | fail "k_enter: no rule for these arguments"); (case c5 => decide); (case kB => exact locs rfl); (case c2 => exact rfl); (case c3 => exact rfl); (case c4 => exact rfl); k_whole)
  intro g' L' h' FG' F' N' B' X' T' kG'
  try dsimp only
  try k_fold
  k_with "trim1" => omega
  k_with "trim2" => exact hcl
  k_with "de3" => first | exact (h1 _ (by assumption) (by assumption)).b1 | exact (h1 _ (by assumption) (by assumption)).dot _ _ (by assumption) (by assumption) (by assumption) | exact (h0 _ (by assumption) (by assumption)).dot _ _ (by assumption) (by assumption) (by assumption)
  k_with "nd1" => first | exact ((h1 _ (by assumption) (by assumption)).w _ _ (by assumption) (by assumption)).1 | exact ((h0 _ (by assumption) (by assumption)).w _ _ (by assumption) (by assumption)).1
  k_with "nd3" => first | exact ((h1 _ (by assumption) (by assumption)).w _ _ (by assumption) (by assumption)).2 | exact ((h0 _ (by assumption) (by assumption)).w _ _ (by assumption) (by assumption)).2
  k_with "nd2" => first | exact ((h1 _ (by assumption) (by assumption)).p _ _ _ (by assumption) (by assumption) (by assumption)).1 | exact ((h0 _ (by assumption) (by assumption)).p _ _ _ (by assumption) (by assumption) (by assumption)).1 | decide
  k_with "nd4" => first | exact ((h1 _ (by assumption) (by assumption)).p _ _ _ (by assumption) (by assumption) (by assumption)).2 | exact ((h0 _ (by assumption) (by assumption)).p _ _ _ (by assumption) (by assumption) (by assumption)).2 | exact digs_nil
  k_steps
  all_goals (rename Fr g' L' _ _ => zF; rename News g' L' _ _ => zN)
  all_goals first
    | exact ret0 _ _ (keeps_of kG' zF) (by
      first
        | refine (readN_b (b := 1) (by with_reducible assumption) (.inl ⟨by with_reducible assumption, rfl⟩)).trans ?_
        | refine (readN_b (b := 0) (by with_reducible assumption) (.inr ⟨by with_reducible assumption, rfl⟩)).trans ?_
      first
        | refine (readAt_dot (by with_reducible assumption) (by with_reducible assumption) (by with_reducible assumption) (by with_reducible assumption) (by with_reducible assumption) (by with_reducible assumption)).trans ?_
        | refine (readAt_no (by with_reducible assumption) (by with_reducible assumption) (by with_reducible assumption) (by with_reducible assumption)).trans ?_
      first
        | exact readFin_1 (by with_reducible assumption)
        | exact readFin_2 (by with_reducible assumption)
        | exact readFin_3 (by with_reducible assumption) (by with_reducible assumption) (by with_reducible assumption) (by with_reducible assumption)
        | exact readFin_4 (by with_reducible assumption) (by with_reducible assumption) (by with_reducible assumption) (by with_reducible assumption))
    | exact ret _ _ _ _ _ _ _ (zN.get (by k_mem)) (keeps_of kG' zF) (fresh_of kG' zN (by k_mem) (by simp only [List.map_cons, List.map_nil, List.mem_cons, List.mem_singleton, List.not_mem_nil, or_false, not_false_eq_true, not_or]; (try exact True.intro); (repeat' refine And.intro ?_ ?_); (all_goals try (first | k_ne | (refine neN ?_; omega))))) (by
      first
        | refine (readN_b (b := 1) (by with_reducible assumption) (.inl ⟨by with_reducible assumption, rfl⟩)).trans ?_
        | refine (readN_b (b := 0) (by with_reducible assumption) (.inr ⟨by with_reducible assumption, rfl⟩)).trans ?_
      first
        | refine (readAt_dot (by with_reducible assumption) (by with_reducible assumption) (by with_reducible assumption) (by with_reducible assumption) (by with_reducible assumption) (by with_reducible assumption)).trans ?_
        | refine (readAt_no (by with_reducible assumption) (by with_reducible assumption) (by with_reducible assumption) (by with_reducible assumption)).trans ?_
      first
        | exact readFin_1 (by with_reducible assumption)
        | exact readFin_2 (by with_reducible assumption)
        | exact readFin_3 (by with_reducible assumption) (by with_reducible assumption) (by with_reducible assumption) (by with_reducible assumption)
        | exact readFin_4 (by with_reducible assumption) (by with_reducible assumption) (by with_reducible assumption) (by with_reducible assumption))

end
section
def othersT : List Str := [Str.ofString "", Str.ofString "1", Str.ofString "0.5", Str.ofString "7."]
def textsT : List Str := wordsT.map (·.1) ++ othersT ++ wordsT.flatMap fun w => othersT.map fun o => w.1 ++ o
def knownT : List (Str × Int × Int) := [(Str.ofString "1", 1, 1), (Str.ofString "0.5", 1, 2), (Str.ofString "-3", -3, 1), (Str.ofString "7.", 7, 1), (Str.ofString ".25", 1, 4), (Str.ofString "11", 11, 1), (Str.ofString "10.5", 21, 2), (Str.ofString "-31", -31, 1), (Str.ofString "17.", 17, 1), (Str.ofString "7.1", 71, 10), (Str.ofString "-30.5", -61, 2), (Str.ofString "-37.", -37, 1), (Str.ofString "0.51", 51, 100), (Str.ofString ".251", 251, 1000)]
def findK : List (Str × Int × Int) → Str → Int × Int
  | [], _ => (0, 0)
  | (k, p, q) :: r, st => if (k == st) = true then (p, q) else findK r st
theorem findK_yes {k st : Str} {p q : Int} {r : List (Str × Int × Int)} (h : (k == st) = true) : findK ((k, p, q) :: r) st = (p, q) := by rw [findK, if_pos h]
theorem findK_no {k st : Str} {p q : Int} {r : List (Str × Int × Int)} (h : (k == st) = false) : findK ((k, p, q) :: r) st = findK r st := by rw [findK, if_neg (by rw [h]; exact Bool.false_ne_true)]
def numbered (st : Str) : Int × Int := findK knownT st
def cleanB (st : Str) : Bool := (List.range st.length).all fun (k : Nat) => !Txt.contains (Str.ofString " \t\n\r") (Txt.item st (k : Int))
def digsB (x : Str) : Bool := (KStt.codes x).all fun c => decide ((48 : Int) ≤ c) && decide (c ≤ 57)
def okBB (st : Str) (b : Int) : Bool :=
  decide (b ≤ st.length) && (!(Txt.slice st (some (digEnd st b)) (some (digEnd st b + 1)) == Str.ofString ".") || decide (digEnd st b + 1 ≤ st.length)) &&
  decide ((Txt.slice st (some b) (some (digEnd st b))).length ≤ 3) && digsB (Txt.slice st (some b) (some (digEnd st b))) &&
  decide ((Txt.slice st (some (digEnd st b + 1)) (some (digEnd st (digEnd st b + 1)))).length ≤ 3) && digsB (Txt.slice st (some (digEnd st b + 1)) (some (digEnd st (digEnd st b + 1))))
def okT (st : Str) : Bool := decide (st.length < 100) && cleanB st && (if (Txt.slice st none (some 1) == Str.ofString "-") = true then okBB st 1 else okBB st 0) && decide (readN st = numbered st)
theorem all_okT : textsT.all okT = true := by decide +kernel
theorem digsB_of {x : Str} (h : digsB x = true) : IsDigs x := fun c hc => by
  have := List.all_eq_true.mp h c hc
  simpa using this
theorem okBB_of {st : Str} {b : Int} (h : okBB st b = true) : OkB st b := by
  simp only [okBB, Bool.and_eq_true, decide_eq_true_eq, Bool.or_eq_true, Bool.not_eq_true'] at h
  obtain ⟨⟨⟨⟨⟨h1, h2⟩, h3⟩, h4⟩, h5⟩, h6⟩ := h
  refine ⟨h1, ?_, ?_, ?_⟩
  · rintro y e rfl rfl hd
    rcases h2 with q | q
    · rw [q] at hd; cases hd
    · exact q
  · rintro y e rfl rfl; exact ⟨h3, digsB_of h4⟩
  · rintro y e l rfl rfl rfl; exact ⟨h5, digsB_of h6⟩
structure TextOk (st : Str) : Prop where
  len : st.length < 100
  clean : ∀ i : Int, 0 ≤ i → i < st.length → Txt.contains (Str.ofString " \t\n\r") (Txt.item st i) = false
  h1 : ∀ y, y = Txt.slice st none (some 1) → (y == Str.ofString "-") = true → OkB st 1
  h0 : ∀ y, y = Txt.slice st none (some 1) → (y == Str.ofString "-") = false → OkB st 0
  num : readN st = numbered st
theorem text_ok {st : Str} (h : st ∈ textsT) : TextOk st := by
  have := List.all_eq_true.mp all_okT st h
  simp only [okT, Bool.and_eq_true, decide_eq_true_eq] at this
  obtain ⟨⟨⟨h1, h2⟩, h3⟩, h4⟩ := this
  refine ⟨h1, ?_, ?_, ?_, h4⟩
  · intro i hi hl
    obtain ⟨k, rfl⟩ := Int.eq_ofNat_of_zero_le hi
    have := List.all_eq_true.mp h2 k (List.mem_range.mpr (by omega))
    simpa using this
  · rintro y rfl hy
    rw [if_pos hy] at h3
    exact okBB_of h3
  · rintro y rfl hy
    rw [if_neg (by rw [hy]; exact Bool.false_ne_true)] at h3
    exact okBB_of h3

end
section
abbrev Led := List (Addr × Obj)
/-- the addresses and the keys' marks of one row -/
structure RowQ where
  x : Addr
  d : Addr
  c : Addr
  a : Addr
  n : Addr
  k1 : Tok
  k2 : Tok
  k3 : Tok
  k4 : Tok
  k5 : Tok
  k6 : Tok
  k7 : Tok
  k8 : Tok
  k9 : Tok
structure RowD extends RowQ where
  kind : Value
  name : Value
  uri : Value
  loc : Value
  value : Value
  parent : Value
  kids : List Value
  attrs : List Value
  ec : Nat
  ea : Nat
abbrev newRow (q : RowQ) (kind name uri loc value parent : Value) : RowD := { toRowQ := q, kind, name, uri, loc, value, parent, kids := [], attrs := [], ec := 0, ea := 0 }
abbrev rdict (P : Params) (r : RowD) : Obj := dictOf [⟨PyData.keyHash P (Str.ofString "kind"), .str (Str.ofString "kind") r.k1, r.kind⟩, ⟨PyData.keyHash P (Str.ofString "name"), .str (Str.ofString "name") r.k2, r.name⟩,
  ⟨PyData.keyHash P (Str.ofString "uri"), .str (Str.ofString "uri") r.k3, r.uri⟩, ⟨PyData.keyHash P (Str.ofString "local"), .str (Str.ofString "local") r.k4, r.loc⟩, ⟨PyData.keyHash P (Str.ofString "value"), .str (Str.ofString "value") r.k5, r.value⟩,
  ⟨PyData.keyHash P (Str.ofString "parent"), .str (Str.ofString "parent") r.k6, r.parent⟩, ⟨PyData.keyHash P (Str.ofString "children"), .str (Str.ofString "children") r.k7, .ref r.c⟩,
  ⟨PyData.keyHash P (Str.ofString "attributes"), .str (Str.ofString "attributes") r.k8, .ref r.a⟩, ⟨PyData.keyHash P (Str.ofString "namespaces"), .str (Str.ofString "namespaces") r.k9, .ref r.n⟩] 9
abbrev rled (P : Params) (r : RowD) : Led := [(r.x, instObj 202 r.d), (r.d, rdict P r), (r.c, W.listOf r.kids.toArray r.ec), (r.a, W.listOf r.attrs.toArray r.ea), (r.n, W.listOf #[] 0)]
abbrev tdict (P : Params) (tk : Tok) (rl : Addr) : Obj := dictOf [⟨PyData.keyHash P (Str.ofString "rows"), .str (Str.ofString "rows") tk, .ref rl⟩] 1
def Holds (h : Heap) (l : Led) : Prop := ∀ p ∈ l, h.get? p.1 = some p.2
def Fresh (h : Heap) (l : Led) : Prop := ∀ p ∈ l, h.get? p.1 = none
def Keys (l : Led) : List Addr := l.map (·.1)
theorem news_of {h₀ h : Heap} {L : Addr} {news sub : Led} (N : News h₀ L h news) (s : ∀ p ∈ sub, p ∈ news) : News h₀ L h sub := fun p hp => N p (s p hp)
theorem new_entries {h₀ h h' : Heap} {L : Addr} {m : Str → Option Value} {news : Led} (F : Fr h₀ L h m) (N : News h₀ L h' news) : ∀ {l : Led}, Fresh h l → Holds h' l → News h₀ L h' (l ++ news)
  | [], _, _ => N
  | p :: r, hf, hh => new_entry F (new_entries F N (fun q hq => hf q (.tail _ hq)) fun q hq => hh q (.tail _ hq)) (hf p (.head _)) (hh p (.head _))
theorem freshNe {h₀ h : Heap} {L : Addr} {news l : Led} (hf : Fresh h l) (N : News h₀ L h news) : ∀ p ∈ l, AllNe p.1 news := fun p hp => allNe_of (hf p hp) N
theorem keys_fresh {h : Heap} {l : Led} (hf : Fresh h l) : ∀ a ∈ Keys l, h.get? a = none := fun a ha => by
  obtain ⟨p, hp, rfl⟩ := List.mem_map.mp ha
  exact hf p hp
def Apart (a : Nat) : List Nat → Prop
  | [] => True
  | b :: r => NeA a b ∧ Apart a r
def AllApart : List Nat → Prop
  | [] => True
  | a :: r => Apart a r ∧ AllApart r
theorem apart_iff {a : Nat} : ∀ {l : List Nat}, Apart a l ↔ a ∉ l
  | [] => by simp [Apart]
  | b :: r => by
    have : NeA a b ↔ a ≠ b := ⟨fun h => h.ne, fun h => ⟨h⟩⟩
    simp [Apart, apart_iff (a := a) (l := r), this]
theorem apart_of : ∀ {l : List Nat}, l.Nodup → AllApart l
  | [], _ => trivial
  | _ :: _, h => ⟨apart_iff.mpr (List.nodup_cons.mp h).1, apart_of (List.nodup_cons.mp h).2⟩
theorem nodup_of : ∀ {l : List Nat}, AllApart l → l.Nodup
  | [], _ => .nil
  | _ :: _, h => List.nodup_cons.mpr ⟨apart_iff.mp h.1, nodup_of h.2⟩

end
section
structure HoldC (p : Prop) : Prop where
  mk ::
  out : p


/-- the end of one element: what it has made joins the ledger -/
def CEnd (h₀ : Heap) (L : Addr) (m : Str → Option Value) (s₁ : Shared) (led : Led) (Rel : Led → Value → Prop) (y : Value) (s₂ : Shared) : Prop :=
  ∃ h' tk' T', s₂ = { s₁ with heap := h', toks := tk' } ∧ Fr h₀ L h' m ∧ News h₀ L h' (T' ++ led) ∧ (∀ p ∈ T', ∀ q ∈ led, q.1 ≠ p.1) ∧ Rel T' y
theorem off3_app {I C D : Addr} : ∀ {T l : Led}, (∀ p ∈ T, p.1 ≠ I ∧ p.1 ≠ C ∧ p.1 ≠ D) → LCg.Off3 I C D l → LCg.Off3 I C D (T ++ l)
  | [], _, _, h => h
  | p :: r, _, ht, h => ⟨ht p (.head _), off3_app (fun q hq => ht q (.tail _ hq)) h⟩
section
variable {prog : Program} {w : World} {A : Around} {s : Shared} {h₀ : Heap} {L : Addr} {m : Str → Option Value} {env : Env}
theorem comp_end {s₁ : Shared} {I C D : Addr} {oI oC oD : Obj} {news : Led} {S : Led → Prop} {Rel : Led → Value → Prop} {rest : Value → Led → Prop} {y : Value} {s₂ : Shared} (c : CEnd h₀ L m s₁ ((I, oI) :: (C, oC) :: (D, oD) :: news) Rel y s₂) (off : LCg.Off3 I C D news) (hS : ∀ T, S (T ++ news)) (r : ∀ T, Rel T y → rest y (T ++ news)) :
    LCg.CompEnd h₀ L m s₁ I oI C oC D oD S rest y s₂ := by
  obtain ⟨h', tk', T', rfl, F, N, fr, hr⟩ := c
  refine LCg.CompEnd.intro F N (T' ++ news) (fun p hp => ?_) (off3_app (fun p hp => ⟨fun e => fr p hp _ (.head _) e.symm, fun e => fr p hp _ (.tail _ (.head _)) e.symm, fun e => fr p hp _ (.tail _ (.tail _ (.head _))) e.symm⟩) off) (hS T') (r T' hr)
  rcases List.mem_cons.mp hp with e | hp
  · rw [e]; exact List.mem_append_right _ (.head _)
  rcases List.mem_cons.mp hp with e | hp
  · rw [e]; exact List.mem_append_right _ (.tail _ (.head _))
  rcases List.mem_cons.mp hp with e | hp
  · rw [e]; exact List.mem_append_right _ (.tail _ (.tail _ (.head _)))
  rcases List.mem_append.mp hp with hp | hp
  · exact List.mem_append_left _ hp
  · exact List.mem_append_right _ (.tail _ (.tail _ (.tail _ hp)))
/-- a block over a list of any length: each element by itself -/
theorem comp_map {elt : PySem.Expr} {x : Str} {scope : Scope} {cl : List (Str × Addr)} {S : Led → Prop} {P : Nat → Value → Prop} {Fin : List Value → Led → Prop} {n : Nat} {news₀ : Led} (Rel : Led → Nat → Value → Prop)
    (mono : ∀ A B j y, (∀ p ∈ A, p ∈ B) → Rel A j y → Rel B j y) (hS : ∀ T, S (T ++ news₀))
    (step : HoldC (∀ i T ys v I oI C oC D m₂ h tk (E' : Value → Shared → Prop), i < n → P i v → LCg.NsObj oC m₂ → m₂ x = some v → Fr h₀ L h m → News h₀ L h ((I, oI) :: (C, oC) :: (D, LCg.lst ys) :: (T ++ news₀)) →
      wpAny (model prog w) A (eval elt (compEnvC scope cl C env)) (CEnd h₀ L m { s with heap := h, toks := tk } ((I, oI) :: (C, oC) :: (D, LCg.lst ys) :: (T ++ news₀)) (fun T' y => Rel T' i y)) E' { s with heap := h, toks := tk }))
    (fin : HoldC (∀ T ys, ys.length = n → (∀ j y, ys[j]? = some y → Rel T j y) → Fin ys (T ++ news₀))) :
    LCg.CompRest prog w A h₀ L m env elt x scope cl s S P Fin n 0 [] news₀ := by
  suffices H : ∀ k i T ys, i + k = n → ys.length = i → (∀ j y, ys[j]? = some y → Rel T j y) → LCg.CompRest prog w A h₀ L m env elt x scope cl s S P Fin k i ys (T ++ news₀) from
    H n 0 [] [] (Nat.zero_add n) rfl (fun j y e => by simp at e)
  intro k
  induction k with
  | zero => intro i T ys hi hl hr; exact LCg.CompRest.zero (fin.out T ys (by omega) hr)
  | succ k ih =>
    intro i T ys hi hl hr
    refine LCg.CompRest.succ fun v I oI C oC D m₂ h tk E' hP hC hx F N off ne => ?_
    refine wpAny_mono (step.out i T ys v I oI C oC D m₂ h tk E' (by omega) hP hC hx F N) (fun y s₂ c => ?_) fun _ _ e => e
    refine comp_end c off (fun T' => by rw [← List.append_assoc]; exact hS _) fun T' hy => ?_
    rw [← List.append_assoc]
    refine ih (i + 1) (T' ++ T) (ys ++ [y]) (by omega) (by simp [hl]) fun j z e => ?_
    rcases Nat.lt_or_ge j ys.length with q | q
    · rw [List.getElem?_append_left q] at e
      exact mono _ _ _ _ (fun p hp => List.mem_append_right _ hp) (hr j z e)
    · rw [List.getElem?_append_right q] at e
      have hj : j = ys.length := by
        rcases Nat.lt_or_ge (j - ys.length) 1 with z1 | z1
        · omega
        · rw [List.getElem?_eq_none (by simpa using z1)] at e; cases e
      rw [hj, Nat.sub_self] at e
      have e' : y = z := by simpa using e
      subst e'
      rw [hj, hl]
      exact mono _ _ _ _ (fun p hp => List.mem_append_left _ hp) hy
/-- a block that unpacks pairs, an element that makes nothing -/
theorem comp_mapP {elt : PySem.Expr} {x x₂ : Str} {scope : Scope} {cl : List (Str × Addr)} {S : Led → Prop} {P : Nat → Value → Prop} {Fin : List Value → Led → Prop} {n : Nat} {news₀ : Led} (Rel : Nat → Value → Prop) (hS : S news₀)
    (step : HoldC (∀ i v, i < n → P i v → ∃ (t : Addr) (ot : Obj) (v₁ v₂ : Value) (nt : Nat), v = .ref t ∧ (t, ot) ∈ news₀ ∧ ot.cls = .type "tuple" ∧ ot.data = .seq #[v₁, v₂] nt ∧
      ∀ ys I oI C oC D m₂ h tk (E' : Value → Shared → Prop), LCg.NsObj oC m₂ → m₂ x = some v₁ → m₂ x₂ = some v₂ → Fr h₀ L h m → News h₀ L h ((I, oI) :: (C, oC) :: (D, LCg.lst ys) :: news₀) →
      wpAny (model prog w) A (eval elt (compEnvC scope cl C env)) (CEnd h₀ L m { s with heap := h, toks := tk } ((I, oI) :: (C, oC) :: (D, LCg.lst ys) :: news₀) (fun T' y => T' = [] ∧ Rel i y)) E' { s with heap := h, toks := tk }))
    (fin : HoldC (∀ ys, ys.length = n → (∀ j y, ys[j]? = some y → Rel j y) → Fin ys news₀)) :
    LCp.CompRestP prog w A h₀ L m env elt x x₂ scope cl s S P Fin n 0 [] news₀ := by
  suffices H : ∀ k i ys, i + k = n → ys.length = i → (∀ j y, ys[j]? = some y → Rel j y) → LCp.CompRestP prog w A h₀ L m env elt x x₂ scope cl s S P Fin k i ys news₀ from
    H n 0 [] (Nat.zero_add n) rfl (fun j y e => by simp at e)
  intro k
  induction k with
  | zero => intro i ys hi hl hr; exact LCp.CompRestP.zero (fin.out ys (by omega) hr)
  | succ k ih =>
    intro i ys hi hl hr
    refine LCp.CompRestP.succ fun v hP => ?_
    obtain ⟨t, ot, v₁, v₂, nt, e1, e2, e3, e4, st⟩ := step.out i v (by omega) hP
    refine ⟨t, ot, v₁, v₂, nt, e1, e2, e3, e4, fun I oI C oC D m₂ h tk E' hC hx hx2 F N off ne => ?_⟩
    refine wpAny_mono (st ys I oI C oC D m₂ h tk E' hC hx hx2 F N) (fun y s₂ c => ?_) fun _ _ e => e
    obtain ⟨h', tk', T', rfl, F', N', _, rfl, hy⟩ := c
    refine LCg.CompEnd.intro F' N' news₀ (fun p hp => hp) off hS ?_
    refine ih (i + 1) (ys ++ [y]) (by omega) (by simp [hl]) fun j z e => ?_
    rcases Nat.lt_or_ge j ys.length with q | q
    · rw [List.getElem?_append_left q] at e
      exact hr j z e
    · rw [List.getElem?_append_right q] at e
      have hj : j = ys.length := by
        rcases Nat.lt_or_ge (j - ys.length) 1 with z1 | z1
        · omega
        · rw [List.getElem?_eq_none (by simpa using z1)] at e; cases e
      rw [hj, Nat.sub_self] at e
      have e' : y = z := by simpa using e
      subst e'
      rw [hj, hl]
      exact hy
end
theorem CEnd.mk0 {h₀ : Heap} {L : Addr} {m : Str → Option Value} {s₁ : Shared} {led : Led} {Rel : Led → Value → Prop} {y : Value} {h' : Heap} {tk' : Nat} (F : Fr h₀ L h' m) (N : News h₀ L h' led) (r : Rel [] y) : CEnd h₀ L m s₁ led Rel y { s₁ with heap := h', toks := tk' } :=
  ⟨h', tk', [], rfl, F, N, (fun _ hp => nomatch hp), r⟩
def Apt (T led : Led) : Prop := ∀ p ∈ T, ∀ q ∈ led, q.1 ≠ p.1
theorem fresh_apart {h₀ h : Heap} {L : Addr} {T led : Led} (fr : Fresh h T) (N : News h₀ L h led) : Apt T led := fun p hp q hq e => by
  have e1 := fr p hp
  have e2 := (N q hq).1
  rw [e, e1] at e2; cases e2
theorem size_ok {vs : List Value} (h : vs.length < 1000) : vs.toArray.size ≤ sizeLine := by
  have : 1000 ≤ sizeLine := Nat.le_of_ble_eq_true rfl
  rw [List.size_toArray]; omega

end
section
structure StepE (f : Flow) (p : Prop) : Prop where
  e : f = .next
  p : p
theorem seqS {prog : Program} {w : World} {A : Around} {env : Env} {st : Stmt} {rest : List Stmt} {Q : Flow → Shared → Prop} {E : Value → Shared → Prop} {s : Shared} {g h : Heap} {L : Addr} {m : Str → Option Value} (_F : Fr g L h m)
    (mid : Heap → Addr → (Str → Option Value) → Shared → Shared → Prop)
    (h : wpAny (model prog w) A (exec st env) (fun f s' => StepE f (mid g L m s s')) E s) (k : ∀ s', mid g L m s s' → wpAny (model prog w) A (execs rest env) Q E s') : wpAny (model prog w) A (execs (st :: rest) env) Q E s :=
  wpAny_execs_cons (wpAny_mono h (fun f s' e => by obtain ⟨rfl, m⟩ := e; exact k s' m) (fun _ _ e => e))
/-- the list of what is known, its pairs in a ledger that is not spelt out -/
inductive KnownAt (h₀ : Heap) (L : Addr) (s₀ : Shared) (m : Str → Option Value) : Shared → Prop
  | mk (h' : Heap) (tk' : Nat) (T : List (Addr × Obj)) (l : Addr) (n0 : Nat) (vs : List Value) (F : Fr h₀ L h' (fun y => if y = Str.ofString "known" then some (.ref l) else m y)) (N : News h₀ L h' ((l, W.listOf vs.toArray n0) :: T)) (pr : Pairs T knownT vs) : KnownAt h₀ L s₀ m { s₀ with heap := h', toks := tk' }
section
variable {prog : Program} {w : World} {A : Around} {E : Value → Shared → Prop} {s : Shared} {env : Env} {h₀ : Heap} {target : PySem.Expr} {body : List Stmt} {Q : Flow → Shared → Prop} {I : Addr} {kp : Addr × Obj} {T : List (Addr × Obj)}
theorem items_ind (J : (Str → Option Value) → Prop) (P : List (Str × Int × Int) → Prop)
    (step : HoldC (∀ (k : Str) (p q : Int) (ks : List (Str × Int × Int)) (vs : List Value) (a b : Addr) (t u v : Tok) (m : Str → Option Value) (h : Heap) (tk : Nat) (o : Obj), (a, tupO [.str k t, .ref b]) ∈ T → (b, tupO [.int p u, .int q v]) ∈ T → J m → P ((k, p, q) :: ks) → Fr h₀ env.locals h m → o.cls = .type "list_iterator" → News h₀ env.locals h ((I, o) :: kp :: T) →
      HoldC (∀ m', J m' → P ks → ItemsRest prog w A E h₀ env target body Q s [(I, "list_iterator")] [kp] (vs.map .val) m' (kp :: T)) →
      wpAny (model prog w) A (assign target env (.ref a)) (fun _ s₂ => wpAny (model prog w) A (execs body env) (UnrPostW h₀ env.locals { s with heap := h, toks := tk } [(I, o)] (fun m' n' => SubL [kp] n' ∧ ItemsRest prog w A E h₀ env target body Q s [(I, "list_iterator")] [kp] (vs.map .val) m' n') Q) E s₂) E { s with heap := h, toks := tk }))
    (fin : HoldC (∀ m h tk, J m → P [] → Fr h₀ env.locals h m → News h₀ env.locals h (kp :: T) → Q .next { s with heap := h, toks := tk }))
    {ks : List (Str × Int × Int)} {vs : List Value} (pr : Pairs T ks vs) : ∀ {m : Str → Option Value}, J m → P ks → ItemsRest prog w A E h₀ env target body Q s [(I, "list_iterator")] [kp] (vs.map .val) m (kp :: T) := by
  induction pr with
  | nil =>
    intro m hj hp
    exact ItemsRest.zero fun h tk F N => fin.out m h tk hj hp F N
  | cons h1 h2 r ih =>
    intro m hj hp
    refine ItemsRest.val fun h tk F => AllObj.cons fun o hc => AllObj.nil fun N => ?_
    exact step.out _ _ _ _ _ _ _ _ _ _ m h tk o h1 h2 hj hp F hc N ⟨fun m' hj' hp' => ih hj' hp'⟩
end
theorem map_two {a b : Str} {x z x' z' : Option Value} {m : Str → Option Value} (_ : True) (_ : True) : (fun y => if y = a then x else if y = b then z else if y = a then x' else if y = b then z' else m y) = fun y => if y = a then x else if y = b then z else m y := by
  funext y
  by_cases h1 : y = a
  · rw [if_pos h1, if_pos h1]
  · by_cases h2 : y = b
    · rw [if_neg h1, if_pos h2, if_neg h1, if_pos h2]
    · rw [if_neg h1, if_neg h2, if_neg h1, if_neg h2, if_neg h1, if_neg h2]
theorem wd1_S1 : True := by
  k_with_none
  k_with "u lt" => (with_reducible (first | assumption | exact cl0 ‹_› | exact cl1 ‹_› | exact cl2 ‹_› | exact cl3 ‹_› | exact cl4 ‹_› | exact cl5 ‹_› | exact cl6 ‹_› | exact cl7 ‹_› | exact cl8 ‹_› | exact cl9 ‹_› | exact cl10 ‹_› | exact cl11 ‹_› | exact cr1 ‹_› | exact cr2 ‹_› | exact cr3 ‹_› | exact cr4 ‹_› | exact cr5 ‹_› | exact cr6 ‹_› | exact cr7 ‹_› | exact cr8 ‹_› | exact cr9 ‹_› | exact cr10 ‹_› | exact cr11 ‹_›))
  k_with "u room" => (first | exact room3 (by with_reducible assumption) rfl | exact room2 (by with_reducible assumption) rfl | exact room4 (by with_reducible assumption) rfl | exact room1 (by with_reducible assumption) | exact roomc (by with_reducible assumption) rfl | exact roome (by with_reducible assumption) rfl | exact roomd (by with_reducible assumption) rfl | exact roomn rfl | exact Nat.le_of_ble_eq_true rfl)
  k_with "call ref" => ((k_here; k_extra "ct"))
  k_with "u dp" => (((try simp only [depth_deeper, depth_in1, depth_caller]); (try dsimp only); first | walk_at "u room" | omega))
  k_with "u un" => (((try simp only [units_deeper, units_in1, units_caller]); (try dsimp only); first | walk_at "u room" | omega))
  k_with "u end" => (((try k_sweep); (try dsimp only); (try ((fail_if_success (with_reducible show wpAny _ _ _ _ _ _)); refine peel ?_)); (try k_fold)))
  k_with "u om" => (first | walk_at "u lt" | walk_at "u room" | exact Nat.le_of_ble_eq_true rfl | omega)
  k_with "k_ne" => (first | exact NeA.ne (by with_reducible assumption) | exact Ne.symm (NeA.ne (by with_reducible assumption)) | exact Nat.ne_of_gt (by walk_at "u lt") | exact Nat.ne_of_lt (by walk_at "u lt"))
  k_with "k_room" => (((try simp only [depth_under_make, depth_under_kw, depth_in1, depth_deeper, depth_caller, recursionLimit]); (try dsimp only); first | walk_at "u room" | omega))
  k_with "k_units" => (first | ((try simp only [units_in1, units_deeper, Around.mark_units, units_caller]); (try dsimp only); walk_at "u room") | (have hcL9 := cLine_is; (try simp only [units_in1, units_deeper, Around.mark_units, units_caller]); (try dsimp only); omega))
  k_with "om" => (with_reducible ((fail_if_success exact True.intro); (fail_if_success exact not_false); first | decide | exact n_lt0 rfl | exact n_le0 rfl | exact n_ltlt ‹_› rfl | exact n_lelt ‹_› rfl | exact n_lele ‹_› rfl | exact n_ltle ‹_› rfl | exact n_eqlt ‹_› rfl | exact n_lelt2 ‹_› ‹_› rfl | exact n_lelt3 ‹_› ‹_› rfl | exact Int.natCast_nonneg _ | exact i_ngt rfl | exact i_ge ‹_› rfl | exact i_gt ‹_› rfl | exact i_gtn ‹_› rfl | exact i_gt64 ‹_› | exact i_lt ‹_› rfl | exact i_lt64 ‹_› rfl | exact i_lelt ‹_› rfl | exact i_le ‹_› rfl | exact i_ne ‹_› rfl | exact i_nlt ‹_› rfl | exact i_ltn ‹_› ‹_› rfl | exact i_ltn2 ‹_› ‹_› rfl | exact i_neg ‹_› | exact i_eqn ‹_› | exact i_succ ‹_› | exact Int.add_one_le_of_lt ‹_› | exact i_sub_less ‹_› ‹_› | exact i_sub_less2 ‹_› ‹_› ‹_› | exact n_sum ‹_› ‹_› ‹_› ‹_› rfl))
  k_with "k_mem" => (first | exact List.mem_cons_self | with_reducible assumption | (refine List.mem_cons_of_mem _ ?_; k_mem))
  k_with "pyIter ref" => ((k_here; k_dflt (k_extra "iter")))
  exact True.intro
theorem numbered_code {w : World} {mean : ExcName → Option Value} {mg mb : Str → Option Value} {A₀ : Around} {dp un : Nat} {gd : Option (List Code)} {s : Shared} {base h₀ : Heap} {outer : List Env} {L : Addr} {m : Str → Option Value} {env : Env} {R : Result → Shared → Prop}
  (B : Below A₀ base outer h₀) (F : Fr h₀ L s.heap m) (X : (heapK w.params).In h₀) (T : Top viewK lo mean mg mb h₀) (hf : env.frame = some L) (hke : env.scope.kind = .function) {t : Tok} {st : Str}
  (hdep : dp + 3 < 1000) (hun : un + 24 < 9900)
  (ret : ∀ (ar : Addr) (p q : Int) (t' t2' : Tok) (h' : Heap) (tk' : Nat), h'.get? ar = some (tupO [.int p t', .int q t2']) → Keeps [] s.heap h' → s.heap.get? ar = none → numbered st = (p, q) → R (.ok (.ret (.ref ar))) { s with heap := h', toks := tk' }) :
  codeAny (model PySem.Challenge.rw_xm0671_01.row.prog w) (Around.mk none dp (some (env :: outer)) gd un) (.call (.ref 430) ⟨[.str st t], []⟩) R s := by
  have N : News h₀ L s.heap [] := News.nil
  k_dflt (refine' code_defG ?k1 ?k2 ?k3 ?k4 ?k5 ?kA ?kF ?kK ?k6 ?k7 ?k8 ?k9 ?kB ?_ ?c2 ?c3 ?c4 ?c5; (case kA => exact rfl); (case kF => exact hf); (case kK => exact hke); (case k1 => k_asm); (case k2 => k_asm); (case k3 => k_asm); (case k4 => k_asm); (case k5 => k_asm); (case k6 => k_is); (case k7 => k_is); (case k8 => (simp only [recursionLimit]; first | walk_at "u room" | omega)); (case k9 => first | exact BindsTo.of_eq rfl | exact binds_K (by k_in) rfl (by k_is) rfl rfl rfl | fail "k_enter: no rule for these arguments"); (case c5 => decide); (case kB => exact locs rfl); (case c2 => exact rfl); (case c3 => exact rfl); (case c4 => exact rfl); k_whole)
  intro g' L' h' FG' F' N' B' X' T' kG'
  try dsimp only
  try k_fold
  rename Fr g' L' _ _ => F0
  with_reducible refine seqS F0 (fun h₀ L m s0 s' => KnownAt h₀ L s0 m s') ?w ?k
  case w =>
    k_with "newList" => (k_here; k_dflt (refine' newList_K ?zk1 ?zk2 ?_ ?zk3; (case zk1 => k_asm); (case zk2 => k_asm); (case zk3 => exact Nat.le_trans (Nat.le_of_eq (Pairs.len (by with_reducible assumption))) (Nat.le_of_ble_eq_true rfl)); k_whole; intro l_q h_q F_q N_q l1_q; (try k_lt l1_q); k_sweep))
    k_with "eval List" => (k_here; k_dflt (refine List_ ?_; refine' pairs_w (ks := knownT) ?zap ?zF ?zN ?_; (case zF => k_asm); (case zN => k_asm); (case zap => (repeat' (first | exact ArePairs.nil | exact IsInt.pos | exact IsInt.neg | refine ArePairs.cons ?_ ?_ ?_))); intro T9 vs9 h9 tk9 pr9 F9 N9 off9; simp only [List.cons_append, List.nil_append] at N9))
    k_steps
    rename Fr g' L' _ _ => zF
    rename News g' L' _ _ => zN
    exact ⟨rfl, _, _, _, _, _, _, zF, zN, pr9⟩
  case k =>
  rintro s' ⟨h1, tk1, T, l, n0, vs, F1, N1, pr⟩
  clear F0
  refine wpAny_execs_cons ?_
  (with_unfolding_all refine For_turns F1 ?_)
  k_with "iter" =>
    refine iter_listTurns (lo := W.listOf vs.toArray n0) (vs := vs) (by rfl) F1 N1 (by k_mem) (by rfl) (by rfl) ?_
    intro i9 l9
  k_steps
  refine items_ind (T := T) (fun m => ∃ nv tv, m = fun y => if y = Str.ofString "number" then nv else if y = Str.ofString "told" then tv else if y = Str.ofString "known" then some (.ref l) else [(Str.ofString "text", Value.str st t)].reverse.lookup y) (fun ks => numbered st = findK ks st) ?_ ?_ pr ?_ ?pz
  case pz => rfl
  · refine HoldC.mk ?_
    intro k p q ks vs a b t u v m h tk o h1 h2 hj hp F2 hc N2 hi
    obtain ⟨nv, tv, rfl⟩ := hj
    k_steps
    · rename Fr g' _ _ _ => zF
      rename News g' _ _ _ => zN
      exact ret _ _ _ _ _ _ _ (zN.get (by k_mem)) (keeps_of kG' zF) (fresh_of kG' zN (by k_mem) (by simp only [List.map_cons, List.map_nil, List.mem_cons, List.mem_singleton, List.not_mem_nil, or_false, not_false_eq_true, not_or]; (try exact True.intro); (repeat' refine And.intro ?_ ?_); (all_goals try (first | k_ne | (refine neN ?_; omega))))) (by rw [hp]; exact findK_yes (by with_reducible assumption))
    · rename Fr g' _ _ _ => zF
      rename News g' _ _ _ => zN
      have hp' := hp.trans (findK_no (by with_reducible assumption))
      refine ⟨_, _, _, _, rfl, zF, zN, fun p hp q hq => ?_, ?_, hi.out _ ⟨_, _, map_two trivial trivial⟩ hp'⟩
      · rw [List.mem_singleton.mp hq]
        exact Nat.ne_of_lt (l9 p hp)
      · k_subL
  · refine HoldC.mk ?_
    intro m h tk hj hp F2 N2
    obtain ⟨nv, tv, rfl⟩ := hj
    k_steps
    rename Fr g' _ _ _ => zF
    rename News g' _ _ _ => zN
    exact ret _ _ _ _ _ _ _ (zN.get (by k_mem)) (keeps_of kG' zF) (fresh_of kG' zN (by k_mem) (by simp only [List.map_cons, List.map_nil, List.mem_cons, List.mem_singleton, List.not_mem_nil, or_false, not_false_eq_true, not_or]; (try exact True.intro); (repeat' refine And.intro ?_ ?_); (all_goals try (first | k_ne | (refine neN ?_; omega))))) (by rw [hp]; rfl)
  · refine ⟨none, none, ?_⟩
    funext y
    by_cases h1 : y = Str.ofString "number"
    · subst h1; kernel_rfl
    · by_cases h2 : y = Str.ofString "told"
      · subst h2; kernel_rfl
      · rw [if_neg h1, if_neg h2]; kernel_rfl

end
section
theorem wd1_T1 : True := by
  k_with_none
  k_with "u lt" => (with_reducible (first | assumption | exact cl0 ‹_› | exact cl1 ‹_› | exact cl2 ‹_› | exact cl3 ‹_› | exact cl4 ‹_› | exact cl5 ‹_› | exact cl6 ‹_› | exact cl7 ‹_› | exact cl8 ‹_› | exact cl9 ‹_› | exact cl10 ‹_› | exact cl11 ‹_› | exact cr1 ‹_› | exact cr2 ‹_› | exact cr3 ‹_› | exact cr4 ‹_› | exact cr5 ‹_› | exact cr6 ‹_› | exact cr7 ‹_› | exact cr8 ‹_› | exact cr9 ‹_› | exact cr10 ‹_› | exact cr11 ‹_›))
  k_with "u room" => (first | exact room3 (by with_reducible assumption) rfl | exact room2 (by with_reducible assumption) rfl | exact room4 (by with_reducible assumption) rfl | exact room1 (by with_reducible assumption) | exact roomc (by with_reducible assumption) rfl | exact roome (by with_reducible assumption) rfl | exact roomd (by with_reducible assumption) rfl | exact roomn rfl | exact Nat.le_of_ble_eq_true rfl)
  k_with "call ref" => ((k_here; k_extra "ct"))
  k_with "u dp" => (((try simp only [depth_deeper, depth_in1, depth_caller]); (try dsimp only); first | walk_at "u room" | omega))
  k_with "u un" => (((try simp only [units_deeper, units_in1, units_caller]); (try dsimp only); first | walk_at "u room" | omega))
  k_with "u end" => (((try k_sweep); (try dsimp only); (try ((fail_if_success (with_reducible show wpAny _ _ _ _ _ _)); refine peel ?_)); (try k_fold)))
  k_with "u om" => (first | walk_at "u lt" | walk_at "u room" | exact Nat.le_of_ble_eq_true rfl | omega)
  k_with "k_ne" => (first | exact NeA.ne (by with_reducible assumption) | exact Ne.symm (NeA.ne (by with_reducible assumption)) | exact Nat.ne_of_gt (by walk_at "u lt") | exact Nat.ne_of_lt (by walk_at "u lt"))
  k_with "k_room" => (((try simp only [depth_under_make, depth_under_kw, depth_in1, depth_deeper, depth_caller, recursionLimit]); (try dsimp only); first | walk_at "u room" | omega))
  k_with "k_units" => (first | ((try simp only [units_in1, units_deeper, Around.mark_units, units_caller]); (try dsimp only); walk_at "u room") | (have hcL9 := cLine_is; (try simp only [units_in1, units_deeper, Around.mark_units, units_caller]); (try dsimp only); omega))
  k_with "om" => (with_reducible ((fail_if_success exact True.intro); (fail_if_success exact not_false); first | decide | exact n_lt0 rfl | exact n_le0 rfl | exact n_ltlt ‹_› rfl | exact n_lelt ‹_› rfl | exact n_lele ‹_› rfl | exact n_ltle ‹_› rfl | exact n_eqlt ‹_› rfl | exact n_lelt2 ‹_› ‹_› rfl | exact n_lelt3 ‹_› ‹_› rfl | exact Int.natCast_nonneg _ | exact i_ngt rfl | exact i_ge ‹_› rfl | exact i_gt ‹_› rfl | exact i_gtn ‹_› rfl | exact i_gt64 ‹_› | exact i_lt ‹_› rfl | exact i_lt64 ‹_› rfl | exact i_lelt ‹_› rfl | exact i_le ‹_› rfl | exact i_ne ‹_› rfl | exact i_nlt ‹_› rfl | exact i_ltn ‹_› ‹_› rfl | exact i_ltn2 ‹_› ‹_› rfl | exact i_neg ‹_› | exact i_eqn ‹_› | exact i_succ ‹_› | exact Int.add_one_le_of_lt ‹_› | exact i_sub_less ‹_› ‹_› | exact i_sub_less2 ‹_› ‹_› ‹_› | exact n_sum ‹_› ‹_› ‹_› ‹_› rfl))
  k_with "call builtin:len" => ((k_here; (with_reducible show wpAny _ _ (call (Value.builtin "len") [Value.ref _]) _ _ _); k_dflt (refine' len_L ?n_w0 ?m_w0 ?f_w0 ?_; (case n_w0 => k_asm); (case m_w0 => k_mem); (case f_w0 => ((try simp only [List.length_append, List.length_cons, List.length_nil]); omega)); k_whole)))
  exact True.intro
theorem new_row_code {w : World} {mean : ExcName → Option Value} {mg mb : Str → Option Value} {A₀ : Around} {dp un : Nat} {gd : Option (List Code)} {s : Shared} {base h₀ : Heap} {outer : List Env} {L : Addr} {m : Str → Option Value} {env : Env} {R : Result → Shared → Prop}
  (B : Below A₀ base outer h₀) (F : Fr h₀ L s.heap m) (X : (heapK w.params).In h₀) (T : Top viewK lo mean mg mb h₀) (hf : env.frame = some L) (hke : env.scope.kind = .function) {tr td rl : Addr} {tk0 : Tok} {en : Nat} {vs : List Value} {kind name uri loc value parent : Value}
  (hdep : dp + 6 < 1000) (hun : un + 100 < 9900)
  (N : News h₀ L s.heap [(tr, instObj 391 td), (td, tdict w.params tk0 rl), (rl, W.listOf vs.toArray en)])
  (n1 : @Ne Nat tr rl) (n2 : @Ne Nat td rl) (hvs : vs.length < 1000)
  (ret : ∀ (q : RowQ) (r : Int) (t' : Tok) (h' : Heap) (tk' : Nat), Holds h' (rled w.params (newRow q kind name uri loc value parent)) → h'.get? rl = some (W.listOf (vs ++ [Value.ref q.x]).toArray (en + 1)) → Keeps [rl] s.heap h' →
     Fresh s.heap (rled w.params (newRow q kind name uri loc value parent)) → (Keys (rled w.params (newRow q kind name uri loc value parent))).Nodup → r = vs.length → R (.ok (.ret (.int r t'))) { s with heap := h', toks := tk' }) :
  codeAny (model PySem.Challenge.rw_xm0671_01.row.prog w) (Around.mk none dp (some (env :: outer)) gd un) (.call (.ref 227) ⟨[.ref tr, kind, name, uri, loc, value, parent], []⟩) R s := by
  k_dflt (refine' code_defG ?k1 ?k2 ?k3 ?k4 ?k5 ?kA ?kF ?kK ?k6 ?k7 ?k8 ?k9 ?kB ?_ ?c2 ?c3 ?c4 ?c5; (case kA => exact rfl); (case kF => exact hf); (case kK => exact hke); (case k1 => k_asm); (case k2 => k_asm); (case k3 => k_asm); (case k4 => k_asm); (case k5 => k_asm); (case k6 => k_is); (case k7 => k_is); (case k8 => (simp only [recursionLimit]; first | walk_at "u room" | omega)); (case k9 => first | exact BindsTo.of_eq rfl | exact binds_K (by k_in) rfl (by k_is) rfl rfl rfl | fail "k_enter: no rule for these arguments"); (case c5 => decide); (case kB => exact locs rfl); (case c2 => exact rfl); (case c3 => exact rfl); (case c4 => exact rfl); k_whole)
  intro g' L' h' FG' F' N' B' X' T' kG'
  try dsimp only
  try k_fold
  k_steps
  all_goals (rename Fr g' L' _ _ => zF; rename News g' L' _ _ => zN)
  exact ret ⟨_, _, _, _, _, _, _, _, _, _, _, _, _, _⟩ _ _ _ _ (List.forall_mem_cons.mpr ⟨zN.get (by k_mem), List.forall_mem_cons.mpr ⟨zN.get (by k_mem), List.forall_mem_cons.mpr ⟨zN.get (by k_mem), List.forall_mem_cons.mpr ⟨zN.get (by k_mem), List.forall_mem_cons.mpr ⟨zN.get (by k_mem), List.forall_mem_nil _⟩⟩⟩⟩⟩) (zN.get (by k_mem)) (keeps_but kG' N zF zN (by (repeat' (first | exact List.forall_mem_nil _ | refine List.forall_mem_cons.mpr ⟨?_, ?_⟩ | exact Or.inr (by k_mem) | exact Or.inl (by k_mem))))) (List.forall_mem_cons.mpr ⟨(fresh_of kG' zN (by k_mem) (by simp only [List.map_cons, List.map_nil, List.mem_cons, List.mem_singleton, List.not_mem_nil, or_false, not_false_eq_true, not_or]; (try exact True.intro); (repeat' refine And.intro ?_ ?_); (all_goals try (first | k_ne | (refine neN ?_; omega))))), List.forall_mem_cons.mpr ⟨(fresh_of kG' zN (by k_mem) (by simp only [List.map_cons, List.map_nil, List.mem_cons, List.mem_singleton, List.not_mem_nil, or_false, not_false_eq_true, not_or]; (try exact True.intro); (repeat' refine And.intro ?_ ?_); (all_goals try (first | k_ne | (refine neN ?_; omega))))), List.forall_mem_cons.mpr ⟨(fresh_of kG' zN (by k_mem) (by simp only [List.map_cons, List.map_nil, List.mem_cons, List.mem_singleton, List.not_mem_nil, or_false, not_false_eq_true, not_or]; (try exact True.intro); (repeat' refine And.intro ?_ ?_); (all_goals try (first | k_ne | (refine neN ?_; omega))))), List.forall_mem_cons.mpr ⟨(fresh_of kG' zN (by k_mem) (by simp only [List.map_cons, List.map_nil, List.mem_cons, List.mem_singleton, List.not_mem_nil, or_false, not_false_eq_true, not_or]; (try exact True.intro); (repeat' refine And.intro ?_ ?_); (all_goals try (first | k_ne | (refine neN ?_; omega))))), List.forall_mem_cons.mpr ⟨(fresh_of kG' zN (by k_mem) (by simp only [List.map_cons, List.map_nil, List.mem_cons, List.mem_singleton, List.not_mem_nil, or_false, not_false_eq_true, not_or]; (try exact True.intro); (repeat' refine And.intro ?_ ?_); (all_goals try (first | k_ne | (refine neN ?_; omega))))), List.forall_mem_nil _⟩⟩⟩⟩⟩)
    (nodup_of (by simp only [Keys, List.map_cons, List.map_nil, AllApart, Apart, and_true]; (repeat' refine And.intro ?_ ?_); all_goals first | exact NeA.mk (by k_ne) | (refine NeA.mk (neN ?_); omega))) (by simp)

end
section
theorem item_R {prog : Program} {w : World} {A : Around} {E : Value → Shared → Prop} {s : Shared} {h₀ : Heap} {L : Addr} {news : List (Addr × Obj)} {value slice : PySem.Expr} {l : Addr} {vs : List Value} {n : Nat} {k : Int} {u : Tok} {v : Value} {Q : Value → Shared → Prop}
    (N : News h₀ L s.heap news) (hm : (l, W.listOf vs.toArray n) ∈ news) (hx : vs[k.toNat]? = some v) (h0 : 0 ≤ k) (hl : vs.length < 1000000) (h : Q v s)
    (hs : subscripted slice false (.ref l) (.int k u) = operate [.ref l, .int k u] (getItem (.ref l) (.int k u)) := by with_unfolding_all rfl) :
    wpAny (model prog w) A (subscriptTail value slice (.ref l) (.int k u)) Q E s := by
  have hl' : s.heap.IsList l vs.toArray := N.isList hm
  have hlt : k.toNat < vs.length := by
    rcases Nat.lt_or_ge k.toNat vs.length with q | q
    · exact q
    · rw [List.getElem?_eq_none q] at hx; cases hx
  exact tail_any hl'.typeIs slot_list_getitem.lookup (wpAny_getItem_list hl' h0 (by omega) (by simpa using hx) h) hs
theorem wd1_T2 : True := by
  k_with_none
  k_with "u lt" => (with_reducible (first | assumption | exact cl0 ‹_› | exact cl1 ‹_› | exact cl2 ‹_› | exact cl3 ‹_› | exact cl4 ‹_› | exact cl5 ‹_› | exact cl6 ‹_› | exact cl7 ‹_› | exact cl8 ‹_› | exact cl9 ‹_› | exact cl10 ‹_› | exact cl11 ‹_› | exact cr1 ‹_› | exact cr2 ‹_› | exact cr3 ‹_› | exact cr4 ‹_› | exact cr5 ‹_› | exact cr6 ‹_› | exact cr7 ‹_› | exact cr8 ‹_› | exact cr9 ‹_› | exact cr10 ‹_› | exact cr11 ‹_›))
  k_with "u room" => (first | exact room3 (by with_reducible assumption) rfl | exact room2 (by with_reducible assumption) rfl | exact room4 (by with_reducible assumption) rfl | exact room1 (by with_reducible assumption) | exact roomc (by with_reducible assumption) rfl | exact roome (by with_reducible assumption) rfl | exact roomd (by with_reducible assumption) rfl | exact roomn rfl | exact Nat.le_of_ble_eq_true rfl)
  k_with "call ref" => ((k_here; k_extra "ct"))
  k_with "u dp" => (((try simp only [depth_deeper, depth_in1, depth_caller]); (try dsimp only); first | walk_at "u room" | omega))
  k_with "u un" => (((try simp only [units_deeper, units_in1, units_caller]); (try dsimp only); first | walk_at "u room" | omega))
  k_with "u end" => (((try k_sweep); (try dsimp only); (try ((fail_if_success (with_reducible show wpAny _ _ _ _ _ _)); refine peel ?_)); (try k_fold)))
  k_with "u om" => (first | walk_at "u lt" | walk_at "u room" | exact Nat.le_of_ble_eq_true rfl | omega)
  k_with "k_ne" => (first | exact NeA.ne (by with_reducible assumption) | exact Ne.symm (NeA.ne (by with_reducible assumption)) | exact Nat.ne_of_gt (by walk_at "u lt") | exact Nat.ne_of_lt (by walk_at "u lt"))
  k_with "k_room" => (((try simp only [depth_under_make, depth_under_kw, depth_in1, depth_deeper, depth_caller, recursionLimit]); (try dsimp only); first | walk_at "u room" | omega))
  k_with "k_units" => (first | ((try simp only [units_in1, units_deeper, Around.mark_units, units_caller]); (try dsimp only); walk_at "u room") | (have hcL9 := cLine_is; (try simp only [units_in1, units_deeper, Around.mark_units, units_caller]); (try dsimp only); omega))
  k_with "om" => (with_reducible ((fail_if_success exact True.intro); (fail_if_success exact not_false); first | decide | exact n_lt0 rfl | exact n_le0 rfl | exact n_ltlt ‹_› rfl | exact n_lelt ‹_› rfl | exact n_lele ‹_› rfl | exact n_ltle ‹_› rfl | exact n_eqlt ‹_› rfl | exact n_lelt2 ‹_› ‹_› rfl | exact n_lelt3 ‹_› ‹_› rfl | exact Int.natCast_nonneg _ | exact i_ngt rfl | exact i_ge ‹_› rfl | exact i_gt ‹_› rfl | exact i_gtn ‹_› rfl | exact i_gt64 ‹_› | exact i_lt ‹_› rfl | exact i_lt64 ‹_› rfl | exact i_lelt ‹_› rfl | exact i_le ‹_› rfl | exact i_ne ‹_› rfl | exact i_nlt ‹_› rfl | exact i_ltn ‹_› ‹_› rfl | exact i_ltn2 ‹_› ‹_› rfl | exact i_neg ‹_› | exact i_eqn ‹_› | exact i_succ ‹_› | exact Int.add_one_le_of_lt ‹_› | exact i_sub_less ‹_› ‹_› | exact i_sub_less2 ‹_› ‹_› ‹_› | exact n_sum ‹_› ‹_› ‹_› ‹_› rfl))
  k_with "call builtin:len" => ((k_here; (with_reducible show wpAny _ _ (call (Value.builtin "len") [Value.ref _]) _ _ _); k_dflt (refine' len_L ?n_w0 ?m_w0 ?f_w0 ?_; (case n_w0 => k_asm); (case m_w0 => k_mem); (case f_w0 => ((try simp only [List.length_append, List.length_cons, List.length_nil]); omega)); k_whole)))
  k_with "subscriptTail" => ((k_here; (with_reducible show wpAny _ _ (subscriptTail _ _ (Value.ref _) (Value.int _ _)) _ _ _); k_dflt (refine' item_R ?n_w1 ?m_w1 ?x_w1 ?a_w1 ?c_w1 ?_; (case n_w1 => k_asm); (case m_w1 => k_mem); (case x_w1 => with_reducible assumption); (case a_w1 => omega); (case c_w1 => omega); k_whole)))
  exact True.intro
theorem row_code {w : World} {mean : ExcName → Option Value} {mg mb : Str → Option Value} {A₀ : Around} {dp un : Nat} {gd : Option (List Code)} {s : Shared} {base h₀ : Heap} {outer : List Env} {L : Addr} {m : Str → Option Value} {env : Env} {R : Result → Shared → Prop}
  (B : Below A₀ base outer h₀) (F : Fr h₀ L s.heap m) (X : (heapK w.params).In h₀) (T : Top viewK lo mean mg mb h₀) (hf : env.frame = some L) (hke : env.scope.kind = .function) {tr td rl : Addr} {tk0 : Tok} {en : Nat} {vs : List Value} {k : Int} {t : Tok} {v : Value}
  (hdep : dp + 3 < 1000) (hun : un + 24 < 9900)
  (N : News h₀ L s.heap [(tr, instObj 391 td), (td, tdict w.params tk0 rl), (rl, W.listOf vs.toArray en)])
  (hvs : vs.length < 1000) (hk : 0 ≤ k) (hkv : vs[k.toNat]? = some v)
  (ret : ∀ (h' : Heap) (tk' : Nat), Keeps [] s.heap h' → R (.ok (.ret v)) { s with heap := h', toks := tk' }) :
  codeAny (model PySem.Challenge.rw_xm0671_01.row.prog w) (Around.mk none dp (some (env :: outer)) gd un) (.call (.ref 234) ⟨[.ref tr, .int k t], []⟩) R s := by
  have hlt : k < vs.length := by
    rcases Nat.lt_or_ge k.toNat vs.length with q | q
    · omega
    · rw [List.getElem?_eq_none q] at hkv; cases hkv
  k_dflt (refine' code_defG ?k1 ?k2 ?k3 ?k4 ?k5 ?kA ?kF ?kK ?k6 ?k7 ?k8 ?k9 ?kB ?_ ?c2 ?c3 ?c4 ?c5; (case kA => exact rfl); (case kF => exact hf); (case kK => exact hke); (case k1 => k_asm); (case k2 => k_asm); (case k3 => k_asm); (case k4 => k_asm); (case k5 => k_asm); (case k6 => k_is); (case k7 => k_is); (case k8 => (simp only [recursionLimit]; first | walk_at "u room" | omega)); (case k9 => first | exact BindsTo.of_eq rfl | exact binds_K (by k_in) rfl (by k_is) rfl rfl rfl | fail "k_enter: no rule for these arguments"); (case c5 => decide); (case kB => exact locs rfl); (case c2 => exact rfl); (case c3 => exact rfl); (case c4 => exact rfl); k_whole)
  intro g' L' h' FG' F' N' B' X' T' kG'
  try dsimp only
  try k_fold
  k_steps
  all_goals (rename Fr g' L' _ _ => zF; rename News g' L' _ _ => zN)
  exact ret _ _ (keeps_but kG' N zF zN (by (repeat' (first | exact List.forall_mem_nil _ | refine List.forall_mem_cons.mpr ⟨?_, ?_⟩ | exact Or.inr (by k_mem) | exact Or.inl (by k_mem)))))

end
section

theorem wd1_T3 : True := by
  k_with_none
  k_with "u lt" => (with_reducible (first | assumption | exact cl0 ‹_› | exact cl1 ‹_› | exact cl2 ‹_› | exact cl3 ‹_› | exact cl4 ‹_› | exact cl5 ‹_› | exact cl6 ‹_› | exact cl7 ‹_› | exact cl8 ‹_› | exact cl9 ‹_› | exact cl10 ‹_› | exact cl11 ‹_› | exact cr1 ‹_› | exact cr2 ‹_› | exact cr3 ‹_› | exact cr4 ‹_› | exact cr5 ‹_› | exact cr6 ‹_› | exact cr7 ‹_› | exact cr8 ‹_› | exact cr9 ‹_› | exact cr10 ‹_› | exact cr11 ‹_›))
  k_with "u room" => (first | exact room3 (by with_reducible assumption) rfl | exact room2 (by with_reducible assumption) rfl | exact room4 (by with_reducible assumption) rfl | exact room1 (by with_reducible assumption) | exact roomc (by with_reducible assumption) rfl | exact roome (by with_reducible assumption) rfl | exact roomd (by with_reducible assumption) rfl | exact roomn rfl | exact Nat.le_of_ble_eq_true rfl)
  k_with "call ref" => ((k_here; k_extra "ct"))
  k_with "u dp" => (((try simp only [depth_deeper, depth_in1, depth_caller]); (try dsimp only); first | walk_at "u room" | omega))
  k_with "u un" => (((try simp only [units_deeper, units_in1, units_caller]); (try dsimp only); first | walk_at "u room" | omega))
  k_with "u end" => (((try k_sweep); (try dsimp only); (try ((fail_if_success (with_reducible show wpAny _ _ _ _ _ _)); refine peel ?_)); (try k_fold)))
  k_with "u om" => (first | walk_at "u lt" | walk_at "u room" | exact Nat.le_of_ble_eq_true rfl | omega)
  k_with "k_ne" => (first | exact NeA.ne (by with_reducible assumption) | exact Ne.symm (NeA.ne (by with_reducible assumption)) | exact Nat.ne_of_gt (by walk_at "u lt") | exact Nat.ne_of_lt (by walk_at "u lt"))
  k_with "k_room" => (((try simp only [depth_under_make, depth_under_kw, depth_in1, depth_deeper, depth_caller, recursionLimit]); (try dsimp only); first | walk_at "u room" | omega))
  k_with "k_units" => (first | ((try simp only [units_in1, units_deeper, Around.mark_units, units_caller]); (try dsimp only); walk_at "u room") | (have hcL9 := cLine_is; (try simp only [units_in1, units_deeper, Around.mark_units, units_caller]); (try dsimp only); omega))
  k_with "om" => (with_reducible ((fail_if_success exact True.intro); (fail_if_success exact not_false); first | decide | exact n_lt0 rfl | exact n_le0 rfl | exact n_ltlt ‹_› rfl | exact n_lelt ‹_› rfl | exact n_lele ‹_› rfl | exact n_ltle ‹_› rfl | exact n_eqlt ‹_› rfl | exact n_lelt2 ‹_› ‹_› rfl | exact n_lelt3 ‹_› ‹_› rfl | exact Int.natCast_nonneg _ | exact i_ngt rfl | exact i_ge ‹_› rfl | exact i_gt ‹_› rfl | exact i_gtn ‹_› rfl | exact i_gt64 ‹_› | exact i_lt ‹_› rfl | exact i_lt64 ‹_› rfl | exact i_lelt ‹_› rfl | exact i_le ‹_› rfl | exact i_ne ‹_› rfl | exact i_nlt ‹_› rfl | exact i_ltn ‹_› ‹_› rfl | exact i_ltn2 ‹_› ‹_› rfl | exact i_neg ‹_› | exact i_eqn ‹_› | exact i_succ ‹_› | exact Int.add_one_le_of_lt ‹_› | exact i_sub_less ‹_› ‹_› | exact i_sub_less2 ‹_› ‹_› ‹_› | exact n_sum ‹_› ‹_› ‹_› ‹_› rfl))
  k_with "ct" => ((with_reducible show wpAny _ _ (call (Value.ref 234) [Value.ref _, Value.int _ _]) _ _ _); k_dflt (first | (refine wpAny_call ?_; refine' row_code (by k_asm) (by k_asm) (by k_asm) (by k_asm) rfl rfl (by walk_at "u dp") (by walk_at "u un") (by exact List.forall_mem_cons.mpr ⟨(by k_asm : News _ _ _ _) _ (by k_mem), List.forall_mem_cons.mpr ⟨(by k_asm : News _ _ _ _) _ (by k_mem), List.forall_mem_cons.mpr ⟨(by k_asm : News _ _ _ _) _ (by k_mem), List.forall_mem_nil _⟩⟩⟩) (by walk_at "u om") (by walk_at "u om") (by with_reducible assumption) ?_; k_whole; intro hp_q tkq_q kpp_q; (have F_q := after_noneF (by k_asm) kpp_q); (have N_q := after_noneN (by k_asm) kpp_q); walk_at "u end")))
  exact True.intro
theorem kind_code {w : World} {mean : ExcName → Option Value} {mg mb : Str → Option Value} {A₀ : Around} {dp un : Nat} {gd : Option (List Code)} {s : Shared} {base h₀ : Heap} {outer : List Env} {L : Addr} {m : Str → Option Value} {env : Env} {R : Result → Shared → Prop}
  (B : Below A₀ base outer h₀) (F : Fr h₀ L s.heap m) (X : (heapK w.params).In h₀) (T : Top viewK lo mean mg mb h₀) (hf : env.frame = some L) (hke : env.scope.kind = .function) {tr td rl : Addr} {tk0 : Tok} {en : Nat} {vs : List Value} {k : Int} {t : Tok} {r : RowD} {st : Str} {t2 : Tok}
  (hdep : dp + 6 < 1000) (hun : un + 48 < 9900)
  (N : News h₀ L s.heap ((tr, instObj 391 td) :: (td, tdict w.params tk0 rl) :: (rl, W.listOf vs.toArray en) :: rled w.params r))
  (hvs : vs.length < 1000) (hk : 0 ≤ k) (hkv : vs[k.toNat]? = some (.ref r.x)) (hkind : r.kind = .str st t2)
  (ret : ∀ (h' : Heap) (tk' : Nat), Keeps [] s.heap h' → R (.ok (.ret (.str st t2))) { s with heap := h', toks := tk' }) :
  codeAny (model PySem.Challenge.rw_xm0671_01.row.prog w) (Around.mk none dp (some (env :: outer)) gd un) (.call (.ref 311) ⟨[.ref tr, .int k t], []⟩) R s := by
  rcases r with ⟨⟨x, d, c, a, n, k1, k2, k3, k4, k5, k6, k7, k8, k9⟩, kind, name, uri, loc, value, parent, kids, attrs, ec, ea⟩
  dsimp only [rled, rdict] at *
  subst hkind
  k_dflt (refine' code_defG ?k1 ?k2 ?k3 ?k4 ?k5 ?kA ?kF ?kK ?k6 ?k7 ?k8 ?k9 ?kB ?_ ?c2 ?c3 ?c4 ?c5; (case kA => exact rfl); (case kF => exact hf); (case kK => exact hke); (case k1 => k_asm); (case k2 => k_asm); (case k3 => k_asm); (case k4 => k_asm); (case k5 => k_asm); (case k6 => k_is); (case k7 => k_is); (case k8 => (simp only [recursionLimit]; first | walk_at "u room" | omega)); (case k9 => first | exact BindsTo.of_eq rfl | exact binds_K (by k_in) rfl (by k_is) rfl rfl rfl | fail "k_enter: no rule for these arguments"); (case c5 => decide); (case kB => exact locs rfl); (case c2 => exact rfl); (case c3 => exact rfl); (case c4 => exact rfl); k_whole)
  intro g' L' h' FG' F' N' B' X' T' kG'
  try dsimp only
  try k_fold
  k_steps
  all_goals (rename Fr g' L' _ _ => zF; rename News g' L' _ _ => zN)
  exact ret _ _ (keeps_but kG' N zF zN (by (repeat' (first | exact List.forall_mem_nil _ | refine List.forall_mem_cons.mpr ⟨?_, ?_⟩ | exact Or.inr (by k_mem) | exact Or.inl (by k_mem)))))
theorem value_code {w : World} {mean : ExcName → Option Value} {mg mb : Str → Option Value} {A₀ : Around} {dp un : Nat} {gd : Option (List Code)} {s : Shared} {base h₀ : Heap} {outer : List Env} {L : Addr} {m : Str → Option Value} {env : Env} {R : Result → Shared → Prop}
  (B : Below A₀ base outer h₀) (F : Fr h₀ L s.heap m) (X : (heapK w.params).In h₀) (T : Top viewK lo mean mg mb h₀) (hf : env.frame = some L) (hke : env.scope.kind = .function) {tr td rl : Addr} {tk0 : Tok} {en : Nat} {vs : List Value} {k : Int} {t : Tok} {r : RowD} {st : Str} {t2 : Tok}
  (hdep : dp + 6 < 1000) (hun : un + 48 < 9900)
  (N : News h₀ L s.heap ((tr, instObj 391 td) :: (td, tdict w.params tk0 rl) :: (rl, W.listOf vs.toArray en) :: rled w.params r))
  (hvs : vs.length < 1000) (hk : 0 ≤ k) (hkv : vs[k.toNat]? = some (.ref r.x)) (hval : r.value = .str st t2)
  (ret : ∀ (h' : Heap) (tk' : Nat), Keeps [] s.heap h' → R (.ok (.ret (.str st t2))) { s with heap := h', toks := tk' }) :
  codeAny (model PySem.Challenge.rw_xm0671_01.row.prog w) (Around.mk none dp (some (env :: outer)) gd un) (.call (.ref 339) ⟨[.ref tr, .int k t], []⟩) R s := by
  rcases r with ⟨⟨x, d, c, a, n, k1, k2, k3, k4, k5, k6, k7, k8, k9⟩, kind, name, uri, loc, value, parent, kids, attrs, ec, ea⟩
  dsimp only [rled, rdict] at *
  subst hval
  k_dflt (refine' code_defG ?k1 ?k2 ?k3 ?k4 ?k5 ?kA ?kF ?kK ?k6 ?k7 ?k8 ?k9 ?kB ?_ ?c2 ?c3 ?c4 ?c5; (case kA => exact rfl); (case kF => exact hf); (case kK => exact hke); (case k1 => k_asm); (case k2 => k_asm); (case k3 => k_asm); (case k4 => k_asm); (case k5 => k_asm); (case k6 => k_is); (case k7 => k_is); (case k8 => (simp only [recursionLimit]; first | walk_at "u room" | omega)); (case k9 => first | exact BindsTo.of_eq rfl | exact binds_K (by k_in) rfl (by k_is) rfl rfl rfl | fail "k_enter: no rule for these arguments"); (case c5 => decide); (case kB => exact locs rfl); (case c2 => exact rfl); (case c3 => exact rfl); (case c4 => exact rfl); k_whole)
  intro g' L' h' FG' F' N' B' X' T' kG'
  try dsimp only
  try k_fold
  k_steps
  all_goals (rename Fr g' L' _ _ => zF; rename News g' L' _ _ => zN)
  exact ret _ _ (keeps_but kG' N zF zN (by (repeat' (first | exact List.forall_mem_nil _ | refine List.forall_mem_cons.mpr ⟨?_, ?_⟩ | exact Or.inr (by k_mem) | exact Or.inl (by k_mem)))))
theorem children_code {w : World} {mean : ExcName → Option Value} {mg mb : Str → Option Value} {A₀ : Around} {dp un : Nat} {gd : Option (List Code)} {s : Shared} {base h₀ : Heap} {outer : List Env} {L : Addr} {m : Str → Option Value} {env : Env} {R : Result → Shared → Prop}
  (B : Below A₀ base outer h₀) (F : Fr h₀ L s.heap m) (X : (heapK w.params).In h₀) (T : Top viewK lo mean mg mb h₀) (hf : env.frame = some L) (hke : env.scope.kind = .function) {tr td rl : Addr} {tk0 : Tok} {en : Nat} {vs : List Value} {k : Int} {t : Tok} {r : RowD}
  (hdep : dp + 6 < 1000) (hun : un + 48 < 9900)
  (N : News h₀ L s.heap ((tr, instObj 391 td) :: (td, tdict w.params tk0 rl) :: (rl, W.listOf vs.toArray en) :: rled w.params r))
  (hvs : vs.length < 1000) (hk : 0 ≤ k) (hkv : vs[k.toNat]? = some (.ref r.x)) (hkids : r.kids.length < 1000)
  (ret : ∀ (l : Addr) (e : Nat) (h' : Heap) (tk' : Nat), h'.get? l = some (W.listOf r.kids.toArray e) → Keeps [] s.heap h' → s.heap.get? l = none → R (.ok (.ret (.ref l))) { s with heap := h', toks := tk' }) :
  codeAny (model PySem.Challenge.rw_xm0671_01.row.prog w) (Around.mk none dp (some (env :: outer)) gd un) (.call (.ref 353) ⟨[.ref tr, .int k t], []⟩) R s := by
  rcases r with ⟨⟨x, d, c, a, n, k1, k2, k3, k4, k5, k6, k7, k8, k9⟩, kind, name, uri, loc, value, parent, kids, attrs, ec, ea⟩
  dsimp only [rled, rdict] at *
  k_dflt (refine' code_defG ?k1 ?k2 ?k3 ?k4 ?k5 ?kA ?kF ?kK ?k6 ?k7 ?k8 ?k9 ?kB ?_ ?c2 ?c3 ?c4 ?c5; (case kA => exact rfl); (case kF => exact hf); (case kK => exact hke); (case k1 => k_asm); (case k2 => k_asm); (case k3 => k_asm); (case k4 => k_asm); (case k5 => k_asm); (case k6 => k_is); (case k7 => k_is); (case k8 => (simp only [recursionLimit]; first | walk_at "u room" | omega)); (case k9 => first | exact BindsTo.of_eq rfl | exact binds_K (by k_in) rfl (by k_is) rfl rfl rfl | fail "k_enter: no rule for these arguments"); (case c5 => decide); (case kB => exact locs rfl); (case c2 => exact rfl); (case c3 => exact rfl); (case c4 => exact rfl); k_whole)
  intro g' L' h' FG' F' N' B' X' T' kG'
  try dsimp only
  try k_fold
  k_steps
  all_goals (rename Fr g' L' _ _ => zF; rename News g' L' _ _ => zN)
  exact ret _ _ _ _ (zN.get (by k_mem)) (keeps_but kG' N zF zN (by (repeat' (first | exact List.forall_mem_nil _ | refine List.forall_mem_cons.mpr ⟨?_, ?_⟩ | exact Or.inr (by k_mem) | exact Or.inl (by k_mem))))) (fresh_of kG' zN (by k_mem) (by simp only [List.map_cons, List.map_nil, List.mem_cons, List.mem_singleton, List.not_mem_nil, or_false, not_false_eq_true, not_or]; (try exact True.intro); (repeat' refine And.intro ?_ ?_); (all_goals try (first | k_ne | (refine neN ?_; omega)))))

end
section
theorem item_snoc {vs : List Value} {k : Nat} {v u : Value} (h : vs[k]? = some v) : (vs ++ [u])[k]? = some v := by
  rw [List.getElem?_append_left]
  · exact h
  · rcases Nat.lt_or_ge k vs.length with q | q
    · exact q
    · rw [List.getElem?_eq_none q] at h; cases h
theorem notin_par {prog : Program} {w : World} {A : Around} {E : Value → Shared → Prop} {s : Shared} {t : Addr} {x : Str} {u u1 u2 : Tok} {Q : Value → Shared → Prop} (ht : IsTup s.heap t [Value.str (Str.ofString "root") u1, Value.str (Str.ofString "element") u2].toArray) (b : Bool)
    (hb : (!([Str.ofString "root", Str.ofString "element"].any (· == x))) = b) (h : Q (.bool b) s) : wpAny (model prog w) A (compareOp .NotIn (.str x u) (.ref t)) Q E s :=
  notin_tuple_strs ht (.cons _ _ (.cons _ _ .nil)) (by rw [hb]; exact h)
theorem notin_ks {ks : Str} (h : ks = Str.ofString "root" ∨ ks = Str.ofString "element") : (!([Str.ofString "root", Str.ofString "element"].any (· == ks))) = false := by
  rcases h with rfl | rfl <;> decide +kernel

theorem wd1_T4 : True := by
  k_with_none
  k_with "u lt" => (with_reducible (first | assumption | exact cl0 ‹_› | exact cl1 ‹_› | exact cl2 ‹_› | exact cl3 ‹_› | exact cl4 ‹_› | exact cl5 ‹_› | exact cl6 ‹_› | exact cl7 ‹_› | exact cl8 ‹_› | exact cl9 ‹_› | exact cl10 ‹_› | exact cl11 ‹_› | exact cr1 ‹_› | exact cr2 ‹_› | exact cr3 ‹_› | exact cr4 ‹_› | exact cr5 ‹_› | exact cr6 ‹_› | exact cr7 ‹_› | exact cr8 ‹_› | exact cr9 ‹_› | exact cr10 ‹_› | exact cr11 ‹_›))
  k_with "u room" => (first | exact room3 (by with_reducible assumption) rfl | exact room2 (by with_reducible assumption) rfl | exact room4 (by with_reducible assumption) rfl | exact room1 (by with_reducible assumption) | exact roomc (by with_reducible assumption) rfl | exact roome (by with_reducible assumption) rfl | exact roomd (by with_reducible assumption) rfl | exact roomn rfl | exact Nat.le_of_ble_eq_true rfl)
  k_with "call ref" => ((k_here; k_extra "ct"))
  k_with "u dp" => (((try simp only [depth_deeper, depth_in1, depth_caller]); (try dsimp only); first | walk_at "u room" | omega))
  k_with "u un" => (((try simp only [units_deeper, units_in1, units_caller]); (try dsimp only); first | walk_at "u room" | omega))
  k_with "u end" => (((try k_sweep); (try dsimp only); (try ((fail_if_success (with_reducible show wpAny _ _ _ _ _ _)); refine peel ?_)); (try k_fold)))
  k_with "u om" => (first | walk_at "u lt" | walk_at "u room" | exact Nat.le_of_ble_eq_true rfl | omega)
  k_with "k_ne" => (first | exact NeA.ne (by with_reducible assumption) | exact Ne.symm (NeA.ne (by with_reducible assumption)) | exact Nat.ne_of_gt (by walk_at "u lt") | exact Nat.ne_of_lt (by walk_at "u lt"))
  k_with "k_room" => (((try simp only [depth_under_make, depth_under_kw, depth_in1, depth_deeper, depth_caller, recursionLimit]); (try dsimp only); first | walk_at "u room" | omega))
  k_with "k_units" => (first | ((try simp only [units_in1, units_deeper, Around.mark_units, units_caller]); (try dsimp only); walk_at "u room") | (have hcL9 := cLine_is; (try simp only [units_in1, units_deeper, Around.mark_units, units_caller]); (try dsimp only); omega))
  k_with "om" => (with_reducible ((fail_if_success exact True.intro); (fail_if_success exact not_false); first | decide | exact n_lt0 rfl | exact n_le0 rfl | exact n_ltlt ‹_› rfl | exact n_lelt ‹_› rfl | exact n_lele ‹_› rfl | exact n_ltle ‹_› rfl | exact n_eqlt ‹_› rfl | exact n_lelt2 ‹_› ‹_› rfl | exact n_lelt3 ‹_› ‹_› rfl | exact Int.natCast_nonneg _ | exact i_ngt rfl | exact i_ge ‹_› rfl | exact i_gt ‹_› rfl | exact i_gtn ‹_› rfl | exact i_gt64 ‹_› | exact i_lt ‹_› rfl | exact i_lt64 ‹_› rfl | exact i_lelt ‹_› rfl | exact i_le ‹_› rfl | exact i_ne ‹_› rfl | exact i_nlt ‹_› rfl | exact i_ltn ‹_› ‹_› rfl | exact i_ltn2 ‹_› ‹_› rfl | exact i_neg ‹_› | exact i_eqn ‹_› | exact i_succ ‹_› | exact Int.add_one_le_of_lt ‹_› | exact i_sub_less ‹_› ‹_› | exact i_sub_less2 ‹_› ‹_› ‹_› | exact n_sum ‹_› ‹_› ‹_› ‹_› rfl))
  k_with "subscriptTail" => ((k_here; (with_reducible show wpAny _ _ (subscriptTail _ _ (Value.ref _) (Value.int _ _)) _ _ _); k_dflt (refine' item_R ?n_w0 ?m_w0 ?x_w0 ?a_w0 ?c_w0 ?_; (case n_w0 => k_asm); (case m_w0 => k_mem); (case x_w0 => k_extra "item"); (case a_w0 => omega); (case c_w0 => ((try simp only [List.length_append, List.length_cons, List.length_nil]); omega)); k_whole)))
  k_with "compareOp NotIn str ref" => ((k_here; k_dflt (refine notin_par (tupK (Frag.In.keeps (by k_asm) (Fr.keep (by k_asm))) (by k_is)) false (notin_ks (by with_reducible assumption)) ?_)))
  k_with "ct" => ((with_reducible show wpAny _ _ (call (Value.ref 234) [Value.ref _, Value.int _ _]) _ _ _); k_dflt (first | (refine wpAny_call ?_; refine' row_code (by k_asm) (by k_asm) (by k_asm) (by k_asm) rfl rfl (by walk_at "u dp") (by walk_at "u un") (by exact List.forall_mem_cons.mpr ⟨(by k_asm : News _ _ _ _) _ (by k_mem), List.forall_mem_cons.mpr ⟨(by k_asm : News _ _ _ _) _ (by k_mem), List.forall_mem_cons.mpr ⟨(by k_asm : News _ _ _ _) _ (by k_mem), List.forall_mem_nil _⟩⟩⟩) (by walk_at "u om") (by walk_at "u om") (by with_reducible assumption) ?_; k_whole; intro hp_q tkq_q kpp_q; (have F_q := after_noneF (by k_asm) kpp_q); (have N_q := after_noneN (by k_asm) kpp_q); walk_at "u end")))
  k_with "ct" => ((with_reducible show wpAny _ _ (call (Value.ref 227) [Value.ref _, _, _, _, _, _, _]) _ _ _); k_dflt (first | (refine wpAny_call ?_; refine' new_row_code (by k_asm) (by k_asm) (by k_asm) (by k_asm) rfl rfl (by walk_at "u dp") (by walk_at "u un") (by exact List.forall_mem_cons.mpr ⟨(by k_asm : News _ _ _ _) _ (by k_mem), List.forall_mem_cons.mpr ⟨(by k_asm : News _ _ _ _) _ (by k_mem), List.forall_mem_cons.mpr ⟨(by k_asm : News _ _ _ _) _ (by k_mem), List.forall_mem_nil _⟩⟩⟩) (by (first | k_ne | omega)) (by (first | k_ne | omega)) (by walk_at "u om") ?_; k_whole; intro qp_q rp_q tp_q hp_q tkq_q eH_q hbp_q kpp_q fr_q nd_q er_q; (have F_q := after_oneF (by k_asm) (by k_asm) (by k_mem) kpp_q); (have N_q := after_oneN (by k_asm) (by k_asm) (U := by k_upd) kpp_q hbp_q); (have ne_q := freshNe fr_q (by k_asm : News _ _ _ _)); (replace N_q := new_entries (by k_asm) N_q fr_q eH_q); (simp only [rled, rdict, newRow, List.cons_append, List.nil_append] at N_q ne_q nd_q); (simp only [List.forall_mem_cons, AllNe, and_true, and_assoc] at ne_q); (repeat (with_reducible refine sp8 ne_q ?_; clear ne_q; intro _ _ _ _ _ _ _ _ ne_q)); (repeat (with_reducible refine sp4 ne_q ?_; clear ne_q; intro _ _ _ _ ne_q)); (repeat (have _ := And.left ne_q; replace ne_q := And.right ne_q)); (have ndk_q := nd_q); (replace nd_q := apart_of nd_q); (simp only [Keys, List.map_cons, List.map_nil, AllApart, Apart, and_true, and_assoc] at nd_q); (repeat (with_reducible refine sp8 nd_q ?_; clear nd_q; intro _ _ _ _ _ _ _ _ nd_q)); (repeat (with_reducible refine sp4 nd_q ?_; clear nd_q; intro _ _ _ _ nd_q)); (repeat (have _ := And.left nd_q; replace nd_q := And.right nd_q)); walk_at "u end")))
  exact True.intro
theorem add_child_code {w : World} {mean : ExcName → Option Value} {mg mb : Str → Option Value} {A₀ : Around} {dp un : Nat} {gd : Option (List Code)} {s : Shared} {base h₀ : Heap} {outer : List Env} {L : Addr} {m : Str → Option Value} {env : Env} {R : Result → Shared → Prop}
  (B : Below A₀ base outer h₀) (F : Fr h₀ L s.heap m) (X : (heapK w.params).In h₀) (T : Top viewK lo mean mg mb h₀) (hf : env.frame = some L) (hke : env.scope.kind = .function) {tr td rl : Addr} {tk0 : Tok} {en : Nat} {vs : List Value} {k : Int} {t : Tok} {rp : RowD} {ks : Str} {t2 : Tok} {kind name uri loc value : Value}
  (hdep : dp + 9 < 1000) (hun : un + 200 < 9900)
  (N : News h₀ L s.heap ((tr, instObj 391 td) :: (td, tdict w.params tk0 rl) :: (rl, W.listOf vs.toArray en) :: rled w.params rp))
  (nd : (Keys ((tr, instObj 391 td) :: (td, tdict w.params tk0 rl) :: (rl, W.listOf vs.toArray en) :: rled w.params rp)).Nodup)
  (hvs : vs.length < 1000) (hk : 0 ≤ k) (hkv : vs[k.toNat]? = some (.ref rp.x)) (hkind : rp.kind = .str ks t2) (hks : ks = Str.ofString "root" ∨ ks = Str.ofString "element") (hkids : rp.kids.length < 1000)
  (ret : ∀ (q : RowQ) (r : Int) (t' : Tok) (h' : Heap) (tk' : Nat), Holds h' (rled w.params (newRow q kind name uri loc value (.int k t))) → h'.get? rl = some (W.listOf (vs ++ [Value.ref q.x]).toArray (en + 1)) →
     h'.get? rp.c = some (W.listOf (rp.kids ++ [Value.int r t']).toArray (rp.ec + 1)) → Keeps [rl, rp.c] s.heap h' →
     Fresh s.heap (rled w.params (newRow q kind name uri loc value (.int k t))) → (Keys (rled w.params (newRow q kind name uri loc value (.int k t)))).Nodup → r = vs.length → R (.ok (.ret (.int r t'))) { s with heap := h', toks := tk' }) :
  codeAny (model PySem.Challenge.rw_xm0671_01.row.prog w) (Around.mk none dp (some (env :: outer)) gd un) (.call (.ref 248) ⟨[.ref tr, .int k t, kind, name, uri, loc, value], []⟩) R s := by
  rcases rp with ⟨⟨x, d, c, a, n, k1, k2, k3, k4, k5, k6, k7, k8, k9⟩, rkind, rname, ruri, rloc, rvalue, rparent, kids, attrs, ec, ea⟩
  dsimp only [rled, rdict] at *
  subst hkind
  replace nd := apart_of nd
  simp only [Keys, List.map_cons, List.map_nil, AllApart, Apart, and_true, and_assoc] at nd
  (repeat (with_reducible refine sp8 nd ?_; clear nd; intro _ _ _ _ _ _ _ _ nd)); (repeat (with_reducible refine sp4 nd ?_; clear nd; intro _ _ _ _ nd)); (repeat (have _ := And.left nd; replace nd := And.right nd))
  k_dflt (refine' code_defG ?k1 ?k2 ?k3 ?k4 ?k5 ?kA ?kF ?kK ?k6 ?k7 ?k8 ?k9 ?kB ?_ ?c2 ?c3 ?c4 ?c5; (case kA => exact rfl); (case kF => exact hf); (case kK => exact hke); (case k1 => k_asm); (case k2 => k_asm); (case k3 => k_asm); (case k4 => k_asm); (case k5 => k_asm); (case k6 => k_is); (case k7 => k_is); (case k8 => (simp only [recursionLimit]; first | walk_at "u room" | omega)); (case k9 => first | exact BindsTo.of_eq rfl | exact binds_K (by k_in) rfl (by k_is) rfl rfl rfl | fail "k_enter: no rule for these arguments"); (case c5 => decide); (case kB => exact locs rfl); (case c2 => exact rfl); (case c3 => exact rfl); (case c4 => exact rfl); k_whole)
  intro g' L' h' FG' F' N' B' X' T' kG'
  try dsimp only
  try k_fold
  k_with "item" => first | exact item_snoc (by with_reducible assumption) | with_reducible assumption
  k_steps
  all_goals (rename Fr g' L' _ _ => zF; rename News g' L' _ _ => zN)
  simp only [List.push_toArray] at zN
  exact ret _ _ _ _ _ (List.forall_mem_cons.mpr ⟨zN.get (by k_mem), List.forall_mem_cons.mpr ⟨zN.get (by k_mem), List.forall_mem_cons.mpr ⟨zN.get (by k_mem), List.forall_mem_cons.mpr ⟨zN.get (by k_mem), List.forall_mem_cons.mpr ⟨zN.get (by k_mem), List.forall_mem_nil _⟩⟩⟩⟩⟩) (zN.get (by k_mem)) (zN.get (by k_mem)) (keeps_but kG' N zF zN (by (repeat' (first | exact List.forall_mem_nil _ | refine List.forall_mem_cons.mpr ⟨?_, ?_⟩ | exact Or.inr (by k_mem) | exact Or.inl (by k_mem))))) (List.forall_mem_cons.mpr ⟨(fresh_of kG' zN (by k_mem) (by simp only [List.map_cons, List.map_nil, List.mem_cons, List.mem_singleton, List.not_mem_nil, or_false, not_false_eq_true, not_or]; (try exact True.intro); (repeat' refine And.intro ?_ ?_); (all_goals try (first | k_ne | (refine neN ?_; omega))))), List.forall_mem_cons.mpr ⟨(fresh_of kG' zN (by k_mem) (by simp only [List.map_cons, List.map_nil, List.mem_cons, List.mem_singleton, List.not_mem_nil, or_false, not_false_eq_true, not_or]; (try exact True.intro); (repeat' refine And.intro ?_ ?_); (all_goals try (first | k_ne | (refine neN ?_; omega))))), List.forall_mem_cons.mpr ⟨(fresh_of kG' zN (by k_mem) (by simp only [List.map_cons, List.map_nil, List.mem_cons, List.mem_singleton, List.not_mem_nil, or_false, not_false_eq_true, not_or]; (try exact True.intro); (repeat' refine And.intro ?_ ?_); (all_goals try (first | k_ne | (refine neN ?_; omega))))), List.forall_mem_cons.mpr ⟨(fresh_of kG' zN (by k_mem) (by simp only [List.map_cons, List.map_nil, List.mem_cons, List.mem_singleton, List.not_mem_nil, or_false, not_false_eq_true, not_or]; (try exact True.intro); (repeat' refine And.intro ?_ ?_); (all_goals try (first | k_ne | (refine neN ?_; omega))))), List.forall_mem_cons.mpr ⟨(fresh_of kG' zN (by k_mem) (by simp only [List.map_cons, List.map_nil, List.mem_cons, List.mem_singleton, List.not_mem_nil, or_false, not_false_eq_true, not_or]; (try exact True.intro); (repeat' refine And.intro ?_ ?_); (all_goals try (first | k_ne | (refine neN ?_; omega))))), List.forall_mem_nil _⟩⟩⟩⟩⟩) (by with_reducible assumption) (by with_reducible assumption)

end
section
abbrev tled (P : Params) (tr td rl : Addr) (tk0 : Tok) (en : Nat) (rows : List RowD) : Led :=
  (tr, instObj 391 td) :: (td, tdict P tk0 rl) :: (rl, W.listOf (rows.map fun r => Value.ref r.x).toArray en) :: rows.flatMap (rled P)
theorem split_at {rows : List RowD} {k : Nat} {rp : RowD} (h : rows[k]? = some rp) : ∃ A B, rows = A ++ rp :: B ∧ A.length = k := by
  obtain ⟨hl, e⟩ := List.getElem?_eq_some_iff.mp h
  refine ⟨rows.take k, rows.drop (k + 1), ?_, by simp; omega⟩
  rw [← e, ← List.drop_eq_getElem_cons hl, List.take_append_drop]
theorem sub_flat {f : RowD → Led} {rp : RowD} : ∀ {rows : List RowD}, rp ∈ rows → (f rp).Sublist (rows.flatMap f)
  | _ :: r, .head _ => by rw [List.flatMap_cons]; exact List.sublist_append_left _ _
  | a :: r, .tail _ h => by rw [List.flatMap_cons]; exact (sub_flat h).trans (List.sublist_append_right _ _)
theorem set_at {A B : List RowD} {rp rp' : RowD} : (A ++ rp :: B).set A.length rp' = A ++ rp' :: B := by simp
section
variable {P : Params} {tr td rl : Addr} {tk0 : Tok} {en : Nat} {rows A B : List RowD} {rp rp' nr : RowD} {h h' : Heap} {u : Addr}
theorem rled_in (hk : rp ∈ rows) : ∀ p ∈ rled P rp, p ∈ tled P tr td rl tk0 en rows := fun p hp => by
  refine .tail _ (.tail _ (.tail _ ?_))
  exact List.mem_flatMap.mpr ⟨rp, hk, hp⟩
theorem sub8 (hk : rp ∈ rows) : ∀ p ∈ ((tr, instObj 391 td) :: (td, tdict P tk0 rl) :: (rl, W.listOf (rows.map fun r => Value.ref r.x).toArray en) :: rled P rp : Led), p ∈ tled P tr td rl tk0 en rows := fun p hp => by
  rcases List.mem_cons.mp hp with rfl | hp
  · exact .head _
  rcases List.mem_cons.mp hp with rfl | hp
  · exact .tail _ (.head _)
  rcases List.mem_cons.mp hp with rfl | hp
  · exact .tail _ (.tail _ (.head _))
  · exact rled_in hk p hp
theorem sub3 : ∀ p ∈ ([(tr, instObj 391 td), (td, tdict P tk0 rl), (rl, W.listOf (rows.map fun r => Value.ref r.x).toArray en)] : Led), p ∈ tled P tr td rl tk0 en rows := fun p hp => by
  rcases List.mem_cons.mp hp with rfl | hp
  · exact .head _
  rcases List.mem_cons.mp hp with rfl | hp
  · exact .tail _ (.head _)
  rcases List.mem_cons.mp hp with rfl | hp
  · exact .tail _ (.tail _ (.head _))
  · cases hp
theorem nd8 (nd : (Keys (tled P tr td rl tk0 en rows)).Nodup) (hk : rp ∈ rows) : (Keys ((tr, instObj 391 td) :: (td, tdict P tk0 rl) :: (rl, W.listOf (rows.map fun r => Value.ref r.x).toArray en) :: rled P rp)).Nodup := by
  refine List.Sublist.nodup ?_ nd
  refine List.Sublist.map _ ?_
  refine .cons_cons _ (.cons_cons _ (.cons_cons _ ?_))
  exact sub_flat hk
theorem tree_step (hN : Holds h (tled P tr td rl tk0 en (A ++ rp :: B))) (nd : (Keys (tled P tr td rl tk0 en (A ++ rp :: B))).Nodup) (hx : rp'.x = rp.x) (hkeys : Keys (rled P rp') = Keys (rled P rp))
    (hu : u ∈ Keys (rled P rp)) (hrp : ∀ p ∈ rled P rp', (p ∈ rled P rp ∧ p.1 ≠ u) ∨ h'.get? p.1 = some p.2) (kp : Keeps [rl, u] h h')
    (hrl : h'.get? rl = some (W.listOf (((A ++ rp :: B).map fun r => Value.ref r.x) ++ [Value.ref nr.x]).toArray (en + 1))) (hnr : Holds h' (rled P nr)) (fr : Fresh h (rled P nr)) (ndr : (Keys (rled P nr)).Nodup) :
    Holds h' (tled P tr td rl tk0 (en + 1) (A ++ rp' :: B ++ [nr])) ∧ (Keys (tled P tr td rl tk0 (en + 1) (A ++ rp' :: B ++ [nr]))).Nodup := by
  unfold tled at *
  generalize rled P = g at *
  have ek : Keys (((tr, instObj 391 td) :: (td, tdict P tk0 rl) :: (rl, W.listOf ((A ++ rp' :: B ++ [nr]).map fun r => Value.ref r.x).toArray (en + 1)) :: (A ++ rp' :: B ++ [nr]).flatMap g : Led)) = Keys (((tr, instObj 391 td) :: (td, tdict P tk0 rl) :: (rl, W.listOf ((A ++ rp :: B).map fun r => Value.ref r.x).toArray en) :: (A ++ rp :: B).flatMap g : Led)) ++ Keys (g nr) := by
    simp only [Keys] at hkeys ⊢
    simp only [List.map_cons, List.flatMap_append, List.flatMap_cons, List.flatMap_nil, List.map_append, List.append_nil, List.cons_append, List.append_assoc]
    rw [hkeys]
  have em : ((A ++ rp' :: B ++ [nr]).map fun r => Value.ref r.x) = ((A ++ rp :: B).map fun r => Value.ref r.x) ++ [Value.ref nr.x] := by simp [hx]
  have nd' := nd
  simp only [Keys, List.map_cons, List.flatMap_append, List.flatMap_cons, List.map_append, List.nodup_cons, List.nodup_append, List.mem_cons, List.mem_append, not_or] at nd'
  obtain ⟨⟨t1, t2, t3, t4, t5⟩, ⟨d1, d2, d3, d4⟩, ⟨r1, r2, r3⟩, a1, ⟨q1, q2, q3⟩, ab⟩ := nd'
  have old : ∀ p ∈ ((tr, instObj 391 td) :: (td, tdict P tk0 rl) :: (rl, W.listOf ((A ++ rp :: B).map fun r => Value.ref r.x).toArray en) :: (A ++ rp :: B).flatMap g : Led), p.1 ≠ rl → p.1 ≠ u → h'.get? p.1 = some p.2 := fun p hp n1 n2 => kp _ _ (hN p hp) (by simp [n1, n2])
  have hur : u ≠ rl := fun e => by subst e; exact r2 hu
  refine ⟨?_, ?_⟩
  · intro p hp
    simp only [em] at hp
    rcases List.mem_cons.mp hp with rfl | hp
    · exact old _ (.head _) t2 fun e => by subst e; exact t4 hu
    rcases List.mem_cons.mp hp with rfl | hp
    · exact old _ (.tail _ (.head _)) d1 fun e => by subst e; exact d3 hu
    rcases List.mem_cons.mp hp with rfl | hp
    · exact hrl
    simp only [List.flatMap_append, List.flatMap_cons, List.flatMap_nil, List.mem_append, List.append_nil] at hp
    rcases hp with (hp | hp | hp) | hp
    · refine old p (.tail _ (.tail _ (.tail _ (by simp only [List.flatMap_append]; exact List.mem_append.mpr (.inl hp))))) (fun e => ?_) fun e => ?_
      · exact r1 (e ▸ List.mem_map_of_mem hp)
      · exact ab _ (List.mem_map_of_mem hp) _ (.inl hu) e
    · rcases hrp p hp with ⟨q, n⟩ | q
      · refine old p (.tail _ (.tail _ (.tail _ (by simp only [List.flatMap_append, List.flatMap_cons]; exact List.mem_append.mpr (.inr (List.mem_append.mpr (.inl q))))))) (fun e => ?_) n
        exact r2 (e ▸ List.mem_map_of_mem q)
      · exact q
    · refine old p (.tail _ (.tail _ (.tail _ (by simp only [List.flatMap_append, List.flatMap_cons]; exact List.mem_append.mpr (.inr (List.mem_append.mpr (.inr hp))))))) (fun e => ?_) fun e => ?_
      · exact r3 (e ▸ List.mem_map_of_mem hp)
      · exact q3 _ hu _ (List.mem_map_of_mem hp) e.symm
    · exact hnr p hp
  · rw [ek]
    refine List.nodup_append.mpr ⟨nd, ndr, fun a ha b hb e => ?_⟩
    subst e
    obtain ⟨p, hp, e⟩ := List.mem_map.mp ha
    have := hN p hp
    have e2 := keys_fresh fr _ hb
    rw [← e, this] at e2
    cases e2
end
theorem push_step {P : Params} {tr td rl : Addr} {tk0 : Tok} {en : Nat} {rows : List RowD} {nr : RowD} {h h' : Heap} (hN : Holds h (tled P tr td rl tk0 en rows)) (nd : (Keys (tled P tr td rl tk0 en rows)).Nodup) (kp : Keeps [rl] h h')
    (hrl : h'.get? rl = some (W.listOf ((rows.map fun r => Value.ref r.x) ++ [Value.ref nr.x]).toArray (en + 1))) (hnr : Holds h' (rled P nr)) (fr : Fresh h (rled P nr)) (ndr : (Keys (rled P nr)).Nodup) :
    Holds h' (tled P tr td rl tk0 (en + 1) (rows ++ [nr])) ∧ (Keys (tled P tr td rl tk0 (en + 1) (rows ++ [nr]))).Nodup := by
  unfold tled at *
  generalize rled P = g at *
  have ek : Keys ((tr, instObj 391 td) :: (td, tdict P tk0 rl) :: (rl, W.listOf ((rows ++ [nr]).map fun r => Value.ref r.x).toArray (en + 1)) :: (rows ++ [nr]).flatMap g) =
      Keys ((tr, instObj 391 td) :: (td, tdict P tk0 rl) :: (rl, W.listOf (rows.map fun r => Value.ref r.x).toArray en) :: rows.flatMap g) ++ Keys (g nr) := by
    simp only [Keys, List.map_cons, List.flatMap_append, List.flatMap_cons, List.flatMap_nil, List.map_append, List.append_nil, List.cons_append]
  have nd' := nd
  simp only [Keys, List.map_cons, List.nodup_cons, List.mem_cons, not_or] at nd'
  obtain ⟨⟨t1, t2, t3⟩, ⟨d1, d2⟩, r1, _⟩ := nd'
  have old : ∀ p ∈ ((tr, instObj 391 td) :: (td, tdict P tk0 rl) :: (rl, W.listOf (rows.map fun r => Value.ref r.x).toArray en) :: rows.flatMap g : Led), p.1 ≠ rl → h'.get? p.1 = some p.2 := fun p hp n1 => kp _ _ (hN p hp) (by simp [n1])
  refine ⟨?_, ?_⟩
  · intro p hp
    rcases List.mem_cons.mp hp with rfl | hp
    · exact old _ (.head _) t2
    rcases List.mem_cons.mp hp with rfl | hp
    · exact old _ (.tail _ (.head _)) d1
    rcases List.mem_cons.mp hp with rfl | hp
    · rw [hrl]; simp
    simp only [List.flatMap_append, List.flatMap_cons, List.flatMap_nil, List.mem_append, List.append_nil] at hp
    rcases hp with hp | hp
    · exact old p (.tail _ (.tail _ (.tail _ hp))) fun e => r1 (e ▸ List.mem_map_of_mem hp)
    · exact hnr p hp
  · rw [ek]
    refine List.nodup_append.mpr ⟨nd, ndr, fun a ha b hb e => ?_⟩
    subst e
    obtain ⟨p, hp, e⟩ := List.mem_map.mp ha
    have := hN p hp
    have e2 := keys_fresh fr _ hb
    rw [← e, this] at e2
    cases e2

end
section

theorem wd1_T6 : True := by
  k_with_none
  k_with "u lt" => (with_reducible (first | assumption | exact cl0 ‹_› | exact cl1 ‹_› | exact cl2 ‹_› | exact cl3 ‹_› | exact cl4 ‹_› | exact cl5 ‹_› | exact cl6 ‹_› | exact cl7 ‹_› | exact cl8 ‹_› | exact cl9 ‹_› | exact cl10 ‹_› | exact cl11 ‹_› | exact cr1 ‹_› | exact cr2 ‹_› | exact cr3 ‹_› | exact cr4 ‹_› | exact cr5 ‹_› | exact cr6 ‹_› | exact cr7 ‹_› | exact cr8 ‹_› | exact cr9 ‹_› | exact cr10 ‹_› | exact cr11 ‹_›))
  k_with "u room" => (first | exact room3 (by with_reducible assumption) rfl | exact room2 (by with_reducible assumption) rfl | exact room4 (by with_reducible assumption) rfl | exact room1 (by with_reducible assumption) | exact roomc (by with_reducible assumption) rfl | exact roome (by with_reducible assumption) rfl | exact roomd (by with_reducible assumption) rfl | exact roomn rfl | exact Nat.le_of_ble_eq_true rfl)
  k_with "call ref" => ((k_here; k_extra "ct"))
  k_with "u dp" => (((try simp only [depth_deeper, depth_in1, depth_caller]); (try dsimp only); first | walk_at "u room" | omega))
  k_with "u un" => (((try simp only [units_deeper, units_in1, units_caller]); (try dsimp only); first | walk_at "u room" | omega))
  k_with "u end" => (((try k_sweep); (try dsimp only); (try ((fail_if_success (with_reducible show wpAny _ _ _ _ _ _)); refine peel ?_)); (try k_fold)))
  k_with "u om" => (first | walk_at "u lt" | walk_at "u room" | exact Nat.le_of_ble_eq_true rfl | omega)
  k_with "k_ne" => (first | exact NeA.ne (by with_reducible assumption) | exact Ne.symm (NeA.ne (by with_reducible assumption)) | exact Nat.ne_of_gt (by walk_at "u lt") | exact Nat.ne_of_lt (by walk_at "u lt"))
  k_with "k_room" => (((try simp only [depth_under_make, depth_under_kw, depth_in1, depth_deeper, depth_caller, recursionLimit]); (try dsimp only); first | walk_at "u room" | omega))
  k_with "k_units" => (first | ((try simp only [units_in1, units_deeper, Around.mark_units, units_caller]); (try dsimp only); walk_at "u room") | (have hcL9 := cLine_is; (try simp only [units_in1, units_deeper, Around.mark_units, units_caller]); (try dsimp only); omega))
  k_with "om" => (with_reducible ((fail_if_success exact True.intro); (fail_if_success exact not_false); first | decide | exact n_lt0 rfl | exact n_le0 rfl | exact n_ltlt ‹_› rfl | exact n_lelt ‹_› rfl | exact n_lele ‹_› rfl | exact n_ltle ‹_› rfl | exact n_eqlt ‹_› rfl | exact n_lelt2 ‹_› ‹_› rfl | exact n_lelt3 ‹_› ‹_› rfl | exact Int.natCast_nonneg _ | exact i_ngt rfl | exact i_ge ‹_› rfl | exact i_gt ‹_› rfl | exact i_gtn ‹_› rfl | exact i_gt64 ‹_› | exact i_lt ‹_› rfl | exact i_lt64 ‹_› rfl | exact i_lelt ‹_› rfl | exact i_le ‹_› rfl | exact i_ne ‹_› rfl | exact i_nlt ‹_› rfl | exact i_ltn ‹_› ‹_› rfl | exact i_ltn2 ‹_› ‹_› rfl | exact i_neg ‹_› | exact i_eqn ‹_› | exact i_succ ‹_› | exact Int.add_one_le_of_lt ‹_› | exact i_sub_less ‹_› ‹_› | exact i_sub_less2 ‹_› ‹_› ‹_› | exact n_sum ‹_› ‹_› ‹_› ‹_› rfl))
  k_with "subscriptTail" => ((k_here; (with_reducible show wpAny _ _ (subscriptTail _ _ (Value.ref _) (Value.int _ _)) _ _ _); k_dflt (refine' item_R ?n_w0 ?m_w0 ?x_w0 ?a_w0 ?c_w0 ?_; (case n_w0 => k_asm); (case m_w0 => k_mem); (case x_w0 => k_extra "item"); (case a_w0 => omega); (case c_w0 => ((try simp only [List.length_append, List.length_cons, List.length_nil]); omega)); k_whole)))
  k_with "ct" => ((with_reducible show wpAny _ _ (call (Value.ref 234) [Value.ref _, Value.int _ _]) _ _ _); k_dflt (first | (refine wpAny_call ?_; refine' row_code (by k_asm) (by k_asm) (by k_asm) (by k_asm) rfl rfl (by walk_at "u dp") (by walk_at "u un") (by exact List.forall_mem_cons.mpr ⟨(by k_asm : News _ _ _ _) _ (by k_mem), List.forall_mem_cons.mpr ⟨(by k_asm : News _ _ _ _) _ (by k_mem), List.forall_mem_cons.mpr ⟨(by k_asm : News _ _ _ _) _ (by k_mem), List.forall_mem_nil _⟩⟩⟩) (by walk_at "u om") (by walk_at "u om") (by with_reducible assumption) ?_; k_whole; intro hp_q tkq_q kpp_q; (have F_q := after_noneF (by k_asm) kpp_q); (have N_q := after_noneN (by k_asm) kpp_q); walk_at "u end")))
  k_with "ct" => ((with_reducible show wpAny _ _ (call (Value.ref 227) [Value.ref _, _, _, _, _, _, _]) _ _ _); k_dflt (first | (refine wpAny_call ?_; refine' new_row_code (by k_asm) (by k_asm) (by k_asm) (by k_asm) rfl rfl (by walk_at "u dp") (by walk_at "u un") (by exact List.forall_mem_cons.mpr ⟨(by k_asm : News _ _ _ _) _ (by k_mem), List.forall_mem_cons.mpr ⟨(by k_asm : News _ _ _ _) _ (by k_mem), List.forall_mem_cons.mpr ⟨(by k_asm : News _ _ _ _) _ (by k_mem), List.forall_mem_nil _⟩⟩⟩) (by (first | k_ne | omega)) (by (first | k_ne | omega)) (by walk_at "u om") ?_; k_whole; intro qp_q rp_q tp_q hp_q tkq_q eH_q hbp_q kpp_q fr_q nd_q er_q; (have F_q := after_oneF (by k_asm) (by k_asm) (by k_mem) kpp_q); (have N_q := after_oneN (by k_asm) (by k_asm) (U := by k_upd) kpp_q hbp_q); (have ne_q := freshNe fr_q (by k_asm : News _ _ _ _)); (replace N_q := new_entries (by k_asm) N_q fr_q eH_q); (simp only [rled, rdict, newRow, List.cons_append, List.nil_append] at N_q ne_q nd_q); (simp only [List.forall_mem_cons, AllNe, and_true, and_assoc] at ne_q); (repeat (with_reducible refine sp8 ne_q ?_; clear ne_q; intro _ _ _ _ _ _ _ _ ne_q)); (repeat (with_reducible refine sp4 ne_q ?_; clear ne_q; intro _ _ _ _ ne_q)); (repeat (have _ := And.left ne_q; replace ne_q := And.right ne_q)); (have ndk_q := nd_q); (replace nd_q := apart_of nd_q); (simp only [Keys, List.map_cons, List.map_nil, AllApart, Apart, and_true, and_assoc] at nd_q); (repeat (with_reducible refine sp8 nd_q ?_; clear nd_q; intro _ _ _ _ _ _ _ _ nd_q)); (repeat (with_reducible refine sp4 nd_q ?_; clear nd_q; intro _ _ _ _ nd_q)); (repeat (have _ := And.left nd_q; replace nd_q := And.right nd_q)); walk_at "u end")))
  exact True.intro
theorem set_attribute_code {w : World} {mean : ExcName → Option Value} {mg mb : Str → Option Value} {A₀ : Around} {dp un : Nat} {gd : Option (List Code)} {s : Shared} {base h₀ : Heap} {outer : List Env} {L : Addr} {m : Str → Option Value} {env : Env} {R : Result → Shared → Prop}
  (B : Below A₀ base outer h₀) (F : Fr h₀ L s.heap m) (X : (heapK w.params).In h₀) (T : Top viewK lo mean mg mb h₀) (hf : env.frame = some L) (hke : env.scope.kind = .function) {tr td rl : Addr} {tk0 : Tok} {en : Nat} {vs : List Value} {k : Int} {t : Tok} {rp : RowD} {t2 : Tok} {name uri loc value : Value}
  (hdep : dp + 9 < 1000) (hun : un + 200 < 9900)
  (N : News h₀ L s.heap ((tr, instObj 391 td) :: (td, tdict w.params tk0 rl) :: (rl, W.listOf vs.toArray en) :: rled w.params rp))
  (nd : (Keys ((tr, instObj 391 td) :: (td, tdict w.params tk0 rl) :: (rl, W.listOf vs.toArray en) :: rled w.params rp)).Nodup)
  (hvs : vs.length < 1000) (hk : 0 ≤ k) (hkv : vs[k.toNat]? = some (.ref rp.x)) (hkind : rp.kind = .str (Str.ofString "element") t2) (hat : rp.attrs = [])
  (ret : ∀ (q : RowQ) (r : Int) (t' t3 : Tok) (h' : Heap) (tk' : Nat), Holds h' (rled w.params (newRow q (.str (Str.ofString "attribute") t3) name uri loc value (.int k t))) → h'.get? rl = some (W.listOf (vs ++ [Value.ref q.x]).toArray (en + 1)) →
     h'.get? rp.a = some (W.listOf ([Value.int r t'] : List Value).toArray (rp.ea + 1)) → Keeps [rl, rp.a] s.heap h' →
     Fresh s.heap (rled w.params (newRow q (.str (Str.ofString "attribute") t3) name uri loc value (.int k t))) → (Keys (rled w.params (newRow q (.str (Str.ofString "attribute") t3) name uri loc value (.int k t)))).Nodup → r = vs.length → R (.ok (.ret (.int r t'))) { s with heap := h', toks := tk' }) :
  codeAny (model PySem.Challenge.rw_xm0671_01.row.prog w) (Around.mk none dp (some (env :: outer)) gd un) (.call (.ref 290) ⟨[.ref tr, .int k t, name, uri, loc, value], []⟩) R s := by
  rcases rp with ⟨⟨x, d, c, a, n, k1, k2, k3, k4, k5, k6, k7, k8, k9⟩, rkind, rname, ruri, rloc, rvalue, rparent, kids, attrs, ec, ea⟩
  dsimp only [rled, rdict] at *
  subst hkind
  subst hat
  replace nd := apart_of nd
  simp only [Keys, List.map_cons, List.map_nil, AllApart, Apart, and_true, and_assoc] at nd
  (repeat (with_reducible refine sp8 nd ?_; clear nd; intro _ _ _ _ _ _ _ _ nd)); (repeat (with_reducible refine sp4 nd ?_; clear nd; intro _ _ _ _ nd)); (repeat (have _ := And.left nd; replace nd := And.right nd))
  k_dflt (refine' code_defG ?k1 ?k2 ?k3 ?k4 ?k5 ?kA ?kF ?kK ?k6 ?k7 ?k8 ?k9 ?kB ?_ ?c2 ?c3 ?c4 ?c5; (case kA => exact rfl); (case kF => exact hf); (case kK => exact hke); (case k1 => k_asm); (case k2 => k_asm); (case k3 => k_asm); (case k4 => k_asm); (case k5 => k_asm); (case k6 => k_is); (case k7 => k_is); (case k8 => (simp only [recursionLimit]; first | walk_at "u room" | omega)); (case k9 => first | exact BindsTo.of_eq rfl | exact binds_K (by k_in) rfl (by k_is) rfl rfl rfl | fail "k_enter: no rule for these arguments"); (case c5 => decide); (case kB => exact locs rfl); (case c2 => exact rfl); (case c3 => exact rfl); (case c4 => exact rfl); k_whole)
  intro g' L' h' FG' F' N' B' X' T' kG'
  try dsimp only
  try k_fold
  k_with "item" => first | exact item_snoc (by with_reducible assumption) | with_reducible assumption
  k_steps
  all_goals (rename Fr g' L' _ _ => zF; rename News g' L' _ _ => zN)
  all_goals (simp only [List.push_toArray, List.nil_append] at zN)
  all_goals exact ret _ _ _ _ _ _ (List.forall_mem_cons.mpr ⟨zN.get (by k_mem), List.forall_mem_cons.mpr ⟨zN.get (by k_mem), List.forall_mem_cons.mpr ⟨zN.get (by k_mem), List.forall_mem_cons.mpr ⟨zN.get (by k_mem), List.forall_mem_cons.mpr ⟨zN.get (by k_mem), List.forall_mem_nil _⟩⟩⟩⟩⟩) (zN.get (by k_mem)) (zN.get (by k_mem)) (keeps_but kG' N zF zN (by (repeat' (first | exact List.forall_mem_nil _ | refine List.forall_mem_cons.mpr ⟨?_, ?_⟩ | exact Or.inr (by k_mem) | exact Or.inl (by k_mem))))) (List.forall_mem_cons.mpr ⟨(fresh_of kG' zN (by k_mem) (by simp only [List.map_cons, List.map_nil, List.mem_cons, List.mem_singleton, List.not_mem_nil, or_false, not_false_eq_true, not_or]; (try exact True.intro); (repeat' refine And.intro ?_ ?_); (all_goals try (first | k_ne | (refine neN ?_; omega))))), List.forall_mem_cons.mpr ⟨(fresh_of kG' zN (by k_mem) (by simp only [List.map_cons, List.map_nil, List.mem_cons, List.mem_singleton, List.not_mem_nil, or_false, not_false_eq_true, not_or]; (try exact True.intro); (repeat' refine And.intro ?_ ?_); (all_goals try (first | k_ne | (refine neN ?_; omega))))), List.forall_mem_cons.mpr ⟨(fresh_of kG' zN (by k_mem) (by simp only [List.map_cons, List.map_nil, List.mem_cons, List.mem_singleton, List.not_mem_nil, or_false, not_false_eq_true, not_or]; (try exact True.intro); (repeat' refine And.intro ?_ ?_); (all_goals try (first | k_ne | (refine neN ?_; omega))))), List.forall_mem_cons.mpr ⟨(fresh_of kG' zN (by k_mem) (by simp only [List.map_cons, List.map_nil, List.mem_cons, List.mem_singleton, List.not_mem_nil, or_false, not_false_eq_true, not_or]; (try exact True.intro); (repeat' refine And.intro ?_ ?_); (all_goals try (first | k_ne | (refine neN ?_; omega))))), List.forall_mem_cons.mpr ⟨(fresh_of kG' zN (by k_mem) (by simp only [List.map_cons, List.map_nil, List.mem_cons, List.mem_singleton, List.not_mem_nil, or_false, not_false_eq_true, not_or]; (try exact True.intro); (repeat' refine And.intro ?_ ?_); (all_goals try (first | k_ne | (refine neN ?_; omega))))), List.forall_mem_nil _⟩⟩⟩⟩⟩) (by with_reducible assumption) (by with_reducible assumption)

end
section
theorem keeps_mono {fp fp' : List Addr} {h h' : Heap} (k : Keeps fp h h') (s : ∀ a ∈ fp, a ∈ fp') : Keeps fp' h h' := fun c o e n => k c o e fun q => n (s c q)
theorem row_ne {P : Params} {tr td rl : Addr} {tk0 : Tok} {en : Nat} {vs : List Value} {rp : RowD} (nd : (Keys ((tr, instObj 391 td) :: (td, tdict P tk0 rl) :: (rl, W.listOf vs.toArray en) :: rled P rp)).Nodup) : (rp.x ≠ rp.c ∧ rp.d ≠ rp.c ∧ rp.a ≠ rp.c ∧ rp.n ≠ rp.c) ∧ rp.x ≠ rp.a ∧ rp.d ≠ rp.a ∧ rp.c ≠ rp.a ∧ rp.n ≠ rp.a := by
  have q := apart_of nd
  simp only [Keys, rled, List.map_cons, List.map_nil, AllApart, Apart, and_true, and_assoc] at q
  obtain ⟨_, _, _, _, _, _, _, _, _, _, _, _, _, _, _, _, _, _, n1, n2, n3, n4, n5, n6, n7, n8, n9, n10⟩ := q
  exact ⟨⟨n2.ne, n5.ne, n8.ne.symm, n9.ne.symm⟩, n3.ne, n6.ne, n8.ne, n10.ne.symm⟩
theorem add_child_T {w : World} {mean : ExcName → Option Value} {mg mb : Str → Option Value} {A₀ : Around} {dp un : Nat} {gd : Option (List Code)} {s : Shared} {base h₀ : Heap} {outer : List Env} {L : Addr} {m : Str → Option Value} {env : Env} {R : Result → Shared → Prop}
  (B : Below A₀ base outer h₀) (F : Fr h₀ L s.heap m) (X : (heapK w.params).In h₀) (T : Top viewK lo mean mg mb h₀) (hf : env.frame = some L) (hke : env.scope.kind = .function) {tr td rl : Addr} {tk0 : Tok} {en : Nat} {rows : List RowD} {k : Int} {t : Tok} {rp : RowD} {ks : Str} {t2 : Tok} {kind name uri loc value : Value}
  (hdep : dp + 9 < 1000) (hun : un + 200 < 9900)
  (N : News h₀ L s.heap (tled w.params tr td rl tk0 en rows)) (nd : (Keys (tled w.params tr td rl tk0 en rows)).Nodup)
  (hl : rows.length < 1000) (hk : 0 ≤ k) (hkr : rows[k.toNat]? = some rp) (hkind : rp.kind = .str ks t2) (hks : ks = Str.ofString "root" ∨ ks = Str.ofString "element") (hkids : rp.kids.length < 1000)
  (ret : ∀ (q : RowQ) (r : Int) (t' : Tok) (h' : Heap) (tk' : Nat), Holds h' (tled w.params tr td rl tk0 (en + 1) (rows.set k.toNat { rp with kids := rp.kids ++ [Value.int r t'], ec := rp.ec + 1 } ++ [newRow q kind name uri loc value (.int k t)])) →
     (Keys (tled w.params tr td rl tk0 (en + 1) (rows.set k.toNat { rp with kids := rp.kids ++ [Value.int r t'], ec := rp.ec + 1 } ++ [newRow q kind name uri loc value (.int k t)]))).Nodup →
     Keeps (Keys (tled w.params tr td rl tk0 en rows)) s.heap h' → Fresh s.heap (rled w.params (newRow q kind name uri loc value (.int k t))) → r = rows.length → R (.ok (.ret (.int r t'))) { s with heap := h', toks := tk' }) :
  codeAny (model PySem.Challenge.rw_xm0671_01.row.prog w) (Around.mk none dp (some (env :: outer)) gd un) (.call (.ref 248) ⟨[.ref tr, .int k t, kind, name, uri, loc, value], []⟩) R s := by
  have hm : rp ∈ rows := List.mem_of_getElem? hkr
  have n8 := nd8 nd hm
  refine add_child_code B F X T hf hke hdep hun (news_of N (sub8 hm)) n8 (by simpa using hl) hk (by rw [List.getElem?_map, hkr]; rfl) hkind hks hkids (fun q r t' h' tk' eH eR eC kp fr ndr er => ?_)
  obtain ⟨A', B', e, hA⟩ := split_at hkr
  obtain ⟨⟨n1, n2, n3, n4⟩, _⟩ := row_ne n8
  have hs : rows.set k.toNat { rp with kids := rp.kids ++ [Value.int r t'], ec := rp.ec + 1 } = A' ++ { rp with kids := rp.kids ++ [Value.int r t'], ec := rp.ec + 1 } :: B' := by rw [e, ← hA]; exact set_at
  have S := tree_step (rp' := { rp with kids := rp.kids ++ [Value.int r t'], ec := rp.ec + 1 }) (nr := newRow q kind name uri loc value (.int k t)) (u := rp.c) (h := s.heap) (h' := h') (P := w.params) (tr := tr) (td := td) (rl := rl) (tk0 := tk0) (en := en) (A := A') (B := B') (rp := rp)
    (fun p hp => (N p (e ▸ hp)).1) (e ▸ nd) rfl rfl (by simp [Keys]) (fun p hp => by
      simp only [rled, List.mem_cons, List.not_mem_nil, or_false] at hp
      rcases hp with rfl | rfl | rfl | rfl | rfl
      · exact .inl ⟨.head _, n1⟩
      · exact .inl ⟨.tail _ (.head _), n2⟩
      · exact .inr eC
      · exact .inl ⟨.tail _ (.tail _ (.tail _ (.head _))), n3⟩
      · exact .inl ⟨.tail _ (.tail _ (.tail _ (.tail _ (.head _)))), n4⟩) kp (e ▸ eR) eH fr ndr
  refine ret q r t' h' tk' ?_ ?_ (keeps_mono kp fun a ha => ?_) fr (by simpa using er)
  · rw [hs]; exact S.1
  · rw [hs]; exact S.2
  · rcases List.mem_cons.mp ha with rfl | ha
    · exact List.mem_map_of_mem (f := Prod.fst) (sub3 _ (.tail _ (.tail _ (.head _))))
    · rw [List.mem_singleton.mp ha]
      exact List.mem_map_of_mem (f := Prod.fst) (rled_in hm _ (.tail _ (.tail _ (.head _))))
theorem set_attribute_T {w : World} {mean : ExcName → Option Value} {mg mb : Str → Option Value} {A₀ : Around} {dp un : Nat} {gd : Option (List Code)} {s : Shared} {base h₀ : Heap} {outer : List Env} {L : Addr} {m : Str → Option Value} {env : Env} {R : Result → Shared → Prop}
  (B : Below A₀ base outer h₀) (F : Fr h₀ L s.heap m) (X : (heapK w.params).In h₀) (T : Top viewK lo mean mg mb h₀) (hf : env.frame = some L) (hke : env.scope.kind = .function) {tr td rl : Addr} {tk0 : Tok} {en : Nat} {rows : List RowD} {k : Int} {t : Tok} {rp : RowD} {t2 : Tok} {name uri loc value : Value}
  (hdep : dp + 9 < 1000) (hun : un + 200 < 9900)
  (N : News h₀ L s.heap (tled w.params tr td rl tk0 en rows)) (nd : (Keys (tled w.params tr td rl tk0 en rows)).Nodup)
  (hl : rows.length < 1000) (hk : 0 ≤ k) (hkr : rows[k.toNat]? = some rp) (hkind : rp.kind = .str (Str.ofString "element") t2) (hat : rp.attrs = [])
  (ret : ∀ (q : RowQ) (r : Int) (t' t3 : Tok) (h' : Heap) (tk' : Nat), Holds h' (tled w.params tr td rl tk0 (en + 1) (rows.set k.toNat { rp with attrs := [Value.int r t'], ea := rp.ea + 1 } ++ [newRow q (.str (Str.ofString "attribute") t3) name uri loc value (.int k t)])) →
     (Keys (tled w.params tr td rl tk0 (en + 1) (rows.set k.toNat { rp with attrs := [Value.int r t'], ea := rp.ea + 1 } ++ [newRow q (.str (Str.ofString "attribute") t3) name uri loc value (.int k t)]))).Nodup →
     Keeps (Keys (tled w.params tr td rl tk0 en rows)) s.heap h' → Fresh s.heap (rled w.params (newRow q (.str (Str.ofString "attribute") t3) name uri loc value (.int k t))) → r = rows.length → R (.ok (.ret (.int r t'))) { s with heap := h', toks := tk' }) :
  codeAny (model PySem.Challenge.rw_xm0671_01.row.prog w) (Around.mk none dp (some (env :: outer)) gd un) (.call (.ref 290) ⟨[.ref tr, .int k t, name, uri, loc, value], []⟩) R s := by
  have hm : rp ∈ rows := List.mem_of_getElem? hkr
  have n8 := nd8 nd hm
  refine set_attribute_code B F X T hf hke hdep hun (news_of N (sub8 hm)) n8 (by simpa using hl) hk (by rw [List.getElem?_map, hkr]; rfl) hkind hat (fun q r t' t3 h' tk' eH eR eC kp fr ndr er => ?_)
  obtain ⟨A', B', e, hA⟩ := split_at hkr
  obtain ⟨_, n1, n2, n3, n4⟩ := row_ne n8
  have hs : rows.set k.toNat { rp with attrs := [Value.int r t'], ea := rp.ea + 1 } = A' ++ { rp with attrs := [Value.int r t'], ea := rp.ea + 1 } :: B' := by rw [e, ← hA]; exact set_at
  have S := tree_step (rp' := { rp with attrs := [Value.int r t'], ea := rp.ea + 1 }) (nr := newRow q (.str (Str.ofString "attribute") t3) name uri loc value (.int k t)) (u := rp.a) (h := s.heap) (h' := h') (P := w.params) (tr := tr) (td := td) (rl := rl) (tk0 := tk0) (en := en) (A := A') (B := B') (rp := rp)
    (fun p hp => (N p (e ▸ hp)).1) (e ▸ nd) rfl rfl (by simp [Keys]) (fun p hp => by
      simp only [rled, List.mem_cons, List.not_mem_nil, or_false] at hp
      rcases hp with rfl | rfl | rfl | rfl | rfl
      · exact .inl ⟨.head _, n1⟩
      · exact .inl ⟨.tail _ (.head _), n2⟩
      · exact .inl ⟨.tail _ (.tail _ (.head _)), n3⟩
      · exact .inr eC
      · exact .inl ⟨.tail _ (.tail _ (.tail _ (.tail _ (.head _)))), n4⟩) kp (e ▸ eR) eH fr ndr
  refine ret q r t' t3 h' tk' ?_ ?_ (keeps_mono kp fun a ha => ?_) fr (by simpa using er)
  · rw [hs]; exact S.1
  · rw [hs]; exact S.2
  · rcases List.mem_cons.mp ha with rfl | ha
    · exact List.mem_map_of_mem (f := Prod.fst) (sub3 _ (.tail _ (.tail _ (.head _))))
    · rw [List.mem_singleton.mp ha]
      exact List.mem_map_of_mem (f := Prod.fst) (rled_in hm _ (.tail _ (.tail _ (.tail _ (.head _)))))
theorem new_row_T {w : World} {mean : ExcName → Option Value} {mg mb : Str → Option Value} {A₀ : Around} {dp un : Nat} {gd : Option (List Code)} {s : Shared} {base h₀ : Heap} {outer : List Env} {L : Addr} {m : Str → Option Value} {env : Env} {R : Result → Shared → Prop}
  (B : Below A₀ base outer h₀) (F : Fr h₀ L s.heap m) (X : (heapK w.params).In h₀) (T : Top viewK lo mean mg mb h₀) (hf : env.frame = some L) (hke : env.scope.kind = .function) {tr td rl : Addr} {tk0 : Tok} {en : Nat} {rows : List RowD} {kind name uri loc value parent : Value}
  (hdep : dp + 6 < 1000) (hun : un + 100 < 9900)
  (N : News h₀ L s.heap (tled w.params tr td rl tk0 en rows)) (nd : (Keys (tled w.params tr td rl tk0 en rows)).Nodup) (hl : rows.length < 1000)
  (ret : ∀ (q : RowQ) (r : Int) (t' : Tok) (h' : Heap) (tk' : Nat), Holds h' (tled w.params tr td rl tk0 (en + 1) (rows ++ [newRow q kind name uri loc value parent])) →
     (Keys (tled w.params tr td rl tk0 (en + 1) (rows ++ [newRow q kind name uri loc value parent]))).Nodup →
     Keeps (Keys (tled w.params tr td rl tk0 en rows)) s.heap h' → Fresh s.heap (rled w.params (newRow q kind name uri loc value parent)) → r = rows.length → R (.ok (.ret (.int r t'))) { s with heap := h', toks := tk' }) :
  codeAny (model PySem.Challenge.rw_xm0671_01.row.prog w) (Around.mk none dp (some (env :: outer)) gd un) (.call (.ref 227) ⟨[.ref tr, kind, name, uri, loc, value, parent], []⟩) R s := by
  have nd' := nd
  simp only [Keys, List.map_cons, List.nodup_cons, List.mem_cons, not_or] at nd'
  refine new_row_code B F X T hf hke hdep hun (news_of N sub3) nd'.1.2.1 nd'.2.1.1 (by simpa using hl) (fun q r t' h' tk' eH eR kp fr ndr er => ?_)
  have S := push_step (nr := newRow q kind name uri loc value parent) (fun p hp => (N p hp).1) nd kp eR eH fr ndr
  refine ret q r t' h' tk' S.1 S.2 (keeps_mono kp fun a ha => ?_) fr (by simpa using er)
  rw [List.mem_singleton.mp ha]
  exact List.mem_map_of_mem (f := Prod.fst) (sub3 _ (.tail _ (.tail _ (.head _))))

end
section
theorem AllNe.all {d : Addr} {l : Led} (h : AllNe d l) : ∀ p ∈ l, p.1 ≠ d := by
  induction l with
  | nil => intro p hp; cases hp
  | cons q r ih =>
    intro p hp
    rcases List.mem_cons.mp hp with e | hp
    · rw [e]; exact h.1.ne
    · exact ih h.2 p hp
theorem AllNe.of {d : Addr} {l : Led} (h : ∀ p ∈ l, p.1 ≠ d) : AllNe d l := by
  induction l with
  | nil => trivial
  | cons q r ih => exact ⟨⟨h q List.mem_cons_self⟩, ih fun p hp => h p (List.mem_cons_of_mem _ hp)⟩
def isTupO (o : Obj) : Prop := o.cls = .type "tuple"
/-- what of a ledger is kept over a call that turns the tree -/
inductive Sel (OL TL : Led) (as : List Addr) : Led → Led → Prop
  | base : Sel OL TL as OL []
  | keepT {p : Addr × Obj} {r t : Led} : p.2.cls = .type "tuple" → Sel OL TL as r t → Sel OL TL as (p :: r) (p :: t)
  | keepN {p : Addr × Obj} {r t : Led} : p.1 ∈ as → Sel OL TL as r t → Sel OL TL as (p :: r) (p :: t)
  | drop {p : Addr × Obj} {r t : Led} : Sel OL TL as r t → Sel OL TL as (p :: r) t
theorem Sel.sub {OL TL : Led} {as : List Addr} {n t : Led} (s : Sel OL TL as n t) : (∀ p ∈ t, p ∈ n ∧ (p.2.cls = .type "tuple" ∨ p.1 ∈ as)) ∧ ∀ p ∈ OL, p ∈ n := by
  induction s with
  | base => exact ⟨fun p hp => (nomatch hp), fun p hp => hp⟩
  | keepT hc _ ih =>
    refine ⟨fun p hp => ?_, fun p hp => .tail _ (ih.2 p hp)⟩
    rcases List.mem_cons.mp hp with rfl | hp
    · exact ⟨.head _, .inl hc⟩
    · exact ⟨.tail _ (ih.1 p hp).1, (ih.1 p hp).2⟩
  | keepN hc _ ih =>
    refine ⟨fun p hp => ?_, fun p hp => .tail _ (ih.2 p hp)⟩
    rcases List.mem_cons.mp hp with rfl | hp
    · exact ⟨.head _, .inr hc⟩
    · exact ⟨.tail _ (ih.1 p hp).1, (ih.1 p hp).2⟩
  | drop _ ih => exact ⟨fun p hp => ⟨.tail _ (ih.1 p hp).1, (ih.1 p hp).2⟩, fun p hp => .tail _ (ih.2 p hp)⟩
/-- the opaque part of the ledger: tuples that were kept, and the tree -/
structure NInv (P : Params) (tr td rl : Addr) (tk0 : Tok) (OL TL : Led) (en : Nat) (rows : List RowD) (as : List Addr) : Prop where
  eq : OL = TL ++ tled P tr td rl tk0 en rows
  tup : ∀ p ∈ TL, p.2.cls = .type "tuple"
  nd : (Keys (tled P tr td rl tk0 en rows)).Nodup
  off : ∀ a ∈ as, AllNe a OL
section
variable {P : Params} {tr td rl : Addr} {tk0 : Tok} {en en' : Nat} {rows rows' : List RowD} {OL TL : Led} {as : List Addr}
theorem NInv.tree (I : NInv P tr td rl tk0 OL TL en rows as) : ∀ p ∈ tled P tr td rl tk0 en rows, p ∈ OL := fun p hp => by rw [I.eq]; exact List.mem_append_right _ hp
theorem NInv.ti (I : NInv P tr td rl tk0 OL TL en rows as) : (tr, instObj 391 td) ∈ OL := I.tree _ (.head _)
theorem NInv.tdi (I : NInv P tr td rl tk0 OL TL en rows as) : (td, tdict P tk0 rl) ∈ OL := I.tree _ (.tail _ (.head _))
theorem rled_cls {r : RowD} : ∀ q ∈ rled P r, q.2.cls ≠ .type "tuple" := by
  intro q hq
  have e1 : ("dict" : String) ≠ "tuple" := by decide
  have e2 : ("list" : String) ≠ "tuple" := by decide
  simp only [rled, List.mem_cons, List.not_mem_nil, or_false] at hq
  rcases hq with rfl | rfl | rfl | rfl | rfl
  · exact fun e => Value.noConfusion e
  · exact fun e => e1 (Value.type.inj e)
  · exact fun e => e2 (Value.type.inj e)
  · exact fun e => e2 (Value.type.inj e)
  · exact fun e => e2 (Value.type.inj e)
theorem tled_cls : ∀ q ∈ tled P tr td rl tk0 en rows, q.2.cls ≠ .type "tuple" := by
  intro q hq
  have e1 : ("dict" : String) ≠ "tuple" := by decide
  have e2 : ("list" : String) ≠ "tuple" := by decide
  rcases List.mem_cons.mp hq with rfl | hq
  · exact fun e => Value.noConfusion e
  rcases List.mem_cons.mp hq with rfl | hq
  · exact fun e => e1 (Value.type.inj e)
  rcases List.mem_cons.mp hq with rfl | hq
  · exact fun e => e2 (Value.type.inj e)
  obtain ⟨r, _, hr⟩ := List.mem_flatMap.mp hq
  exact rled_cls q hr
inductive After (h₀ h' : Heap) (L : Addr) (m : Str → Option Value) (t : Led) (P : Params) (tr td rl : Addr) (tk0 : Tok) (TL : Led) (en' : Nat) (rows' : List RowD) (as : List Addr) : Prop
  | mk (OL' : Led) (F : Fr h₀ L h' m) (N : News h₀ L h' (t ++ OL')) (I : NInv P tr td rl tk0 OL' TL en' rows' as) : After h₀ h' L m t P tr td rl tk0 TL en' rows' as
theorem nodes_after {h₀ h h' : Heap} {L : Addr} {m : Str → Option Value} {news t : Led} (F : Fr h₀ L h m) (N : News h₀ L h news) (I : NInv P tr td rl tk0 OL TL en rows as) (S : Sel OL TL as news t)
    (has : ∀ a ∈ as, ∃ o, (a, o) ∈ news) (H : Holds h' (tled P tr td rl tk0 en' rows')) (nd' : (Keys (tled P tr td rl tk0 en' rows')).Nodup) (kp : Keeps (Keys (tled P tr td rl tk0 en rows)) h h')
    (new : ∀ a ∈ Keys (tled P tr td rl tk0 en' rows'), a ∈ Keys (tled P tr td rl tk0 en rows) ∨ h.get? a = none) :
    After h₀ h' L m t P tr td rl tk0 TL en' rows' as := by
  obtain ⟨St, So⟩ := S.sub
  have offk : ∀ a ∈ as, a ∉ Keys (tled P tr td rl tk0 en rows) := fun a ha q => by
    obtain ⟨p, hp, e⟩ := List.mem_map.mp q
    exact (I.off a ha).all p (I.tree p hp) e
  have tupk : ∀ p ∈ news, p.2.cls = .type "tuple" → p.1 ∉ Keys (tled P tr td rl tk0 en rows) := fun p hp hc q => by
    obtain ⟨x, hx, e⟩ := List.mem_map.mp q
    have e1 := (N p hp).1
    have e2 := (N x (So x (I.tree x hx))).1
    rw [← e, e2] at e1
    have e3 : x.2 = p.2 := Option.some.inj e1
    exact tled_cls x hx (e3 ▸ hc)
  have gone : ∀ a ∈ Keys (tled P tr td rl tk0 en rows), a ≠ L ∧ h₀.get? a = none := fun a ha => by
    obtain ⟨p, hp, e⟩ := List.mem_map.mp ha
    exact e ▸ (N p (So p (I.tree p hp))).2
  have fre : ∀ a, h.get? a = none → a ≠ L ∧ h₀.get? a = none := fun a ha => by
    refine ⟨fun q => ?_, ?_⟩
    · obtain ⟨oL, _, _, hL, _⟩ := F.ns
      rw [← q, ha] at hL; cases hL
    · cases q : h₀.get? a with
      | none => rfl
      | some x => have := F.keep _ _ q; rw [ha] at this; cases this
  refine ⟨TL ++ tled P tr td rl tk0 en' rows', ⟨F.ns.at' fun o e => kp _ _ e (fun q => (gone _ q).1 rfl), fun b o e => kp _ _ (F.keep b o e) (fun q => by rw [(gone _ q).2] at e; cases e), F.above⟩, fun p hp => ?_, rfl, I.tup, nd', fun a ha => AllNe.of fun p hp e => ?_⟩
  · rcases List.mem_append.mp hp with hp | hp
    · have := St p hp
      refine ⟨kp _ _ (N p this.1).1 ?_, (N p this.1).2⟩
      rcases this.2 with q | q
      · exact tupk p this.1 q
      · exact offk _ q
    · rcases List.mem_append.mp hp with hp | hp
      · have hm := So p (by rw [I.eq]; exact List.mem_append_left _ hp)
        exact ⟨kp _ _ (N p hm).1 (tupk p hm (I.tup p hp)), (N p hm).2⟩
      · refine ⟨H p hp, ?_⟩
        rcases new p.1 (List.mem_map_of_mem hp) with q | q
        · exact gone _ q
        · exact fre _ q
  · rcases List.mem_append.mp hp with hp | hp
    · exact (I.off a ha).all p (by rw [I.eq]; exact List.mem_append_left _ hp) e
    · rcases new p.1 (List.mem_map_of_mem hp) with q | q
      · exact offk a ha (e ▸ q)
      · obtain ⟨o, ho⟩ := has a ha
        have := (N _ ho).1
        rw [e] at q
        rw [q] at this; cases this
theorem keys_set {k : Nat} {rp rp' nr : RowD} (hk : rows[k]? = some rp) (hkeys : Keys (rled P rp') = Keys (rled P rp)) : Keys (tled P tr td rl tk0 (en + 1) (rows.set k rp' ++ [nr])) = Keys (tled P tr td rl tk0 en rows) ++ Keys (rled P nr) := by
  obtain ⟨A, B, rfl, rfl⟩ := split_at hk
  rw [set_at]
  unfold tled
  generalize rled P = g at *
  simp only [Keys] at hkeys ⊢
  simp only [List.map_cons, List.flatMap_append, List.flatMap_cons, List.flatMap_nil, List.map_append, List.append_nil, List.cons_append, List.append_assoc]
  rw [hkeys]
theorem new_set {k : Nat} {rp rp' nr : RowD} {h : Heap} (hk : rows[k]? = some rp) (hkeys : Keys (rled P rp') = Keys (rled P rp)) (fr : Fresh h (rled P nr)) :
    ∀ a ∈ Keys (tled P tr td rl tk0 (en + 1) (rows.set k rp' ++ [nr])), a ∈ Keys (tled P tr td rl tk0 en rows) ∨ h.get? a = none := fun a ha => by
  rw [keys_set hk hkeys] at ha
  exact (List.mem_append.mp ha).imp id (keys_fresh fr a)
theorem new_push {nr : RowD} {h : Heap} (fr : Fresh h (rled P nr)) : ∀ a ∈ Keys (tled P tr td rl tk0 (en + 1) (rows ++ [nr])), a ∈ Keys (tled P tr td rl tk0 en rows) ∨ h.get? a = none := fun a ha => by
  have e : Keys (tled P tr td rl tk0 (en + 1) (rows ++ [nr])) = Keys (tled P tr td rl tk0 en rows) ++ Keys (rled P nr) := by
    unfold tled
    generalize rled P = g at *
    simp only [Keys, List.map_cons, List.flatMap_append, List.flatMap_cons, List.flatMap_nil, List.map_append, List.append_nil, List.cons_append]
  rw [e] at ha
  exact (List.mem_append.mp ha).imp id (keys_fresh fr a)
end

end
section
section
variable {prog : Program} {w : World} {A : Around} {E : Value → Shared → Prop} {s : Shared} {env : Env} {h₀ : Heap} {x : Str} {body : List Stmt} {Q : Flow → Shared → Prop}
/-- the end of a turn -/
def TurnEnd (h₀ : Heap) (L I : Addr) (oI : Obj) (J : (Str → Option Value) → Led → Prop) (s₁ : Shared) (f : Flow) (s₂ : Shared) : Prop :=
  f = .next ∧ ∃ h' tk m₂ news₂, s₂ = { s₁ with heap := h', toks := tk } ∧ Fr h₀ L h' m₂ ∧ News h₀ L h' ((I, oI) :: news₂) ∧ AllNe I news₂ ∧ J m₂ news₂
theorem range_loop {r : Addr} {b₀ : Int} {t₀ u₀ v₀ : Tok} {n : Nat} {m₀ : Str → Option Value} {news : Led} (J : Nat → (Str → Option Value) → Led → Prop)
    (hh : A.handled = none) (hr : IsRange s.heap r 0 b₀ 1 t₀ u₀ v₀) (hsmall : Builtin.Range.small 0 b₀ 1 = true) (hn : Builtin.Range.rangeSize 0 b₀ 1 = (n : Int)) (F : Fr h₀ env.locals s.heap m₀) (N : News h₀ env.locals s.heap news) (hj : J 0 m₀ news)
    (turn : ∀ i I oI v m₁ news₁ h tk, i < n → J i m₁ news₁ → AllNe I news₁ → Fr h₀ env.locals h (fun y => if y = x then some v else m₁ y) → News h₀ env.locals h ((I, oI) :: news₁) →
      wpAny (model prog w) A (execs body env) (TurnEnd h₀ env.locals I oI (J (i + 1)) { s with heap := h, toks := tk }) E { s with heap := h, toks := tk })
    (done : ∀ m₁ nx h tk, J n m₁ nx → Fr h₀ env.locals h m₁ → News h₀ env.locals h nx → Q .next { s with heap := h, toks := tk }) :
    wpAny (model prog w) A (pyIter (.ref r)) (fun it s₂ => LoopAtV prog w A h₀ env x body Q E it s₂) E s := by
  refine wpAny_pyIter_range hr hsmall ?_
  have W : Walks prog w A s.heap.objs.size [s.heap.objs.size] [s.heap.objs.size] n (fun i v => i < n ∧ ∃ t, v = .int (0 + i * 1) t)
      (fun i h => IsRangeIter h s.heap.objs.size (0 + (i : Nat) * 1) ((n : Int) - (i : Nat)) 1) := (Walks.range hh _ 0 1 n).bound
  refine ⟨_, _, _, n, _, _, m₀, news, J, rfl, W, ?_, ?_, ?_, (by show IsRangeIter _ _ _ _ _; rw [hn]; simpa using Heap.get?_push_size _ rfl), F.push _, (fun p hp => ⟨Heap.get?_push_of_some _ (N p hp).1, (N p hp).2⟩), hj, ?_, ?_⟩
  · intro hm
    exact absurd F.ns.lt ((List.mem_singleton.mp hm) ▸ Nat.lt_irrefl _)
  · intro b hb
    rw [List.mem_singleton.mp hb]
    exact next_is_new F
  · intro p hp hI
    exact absurd (Heap.lt_size (N p hp).1) ((List.mem_singleton.mp hI) ▸ Nat.lt_irrefl _)
  · rintro i v m₁ news₁ s₁ own ⟨hh', tk', rfl⟩ hin hP hJ hoff hof hown hfp hst F₁ N₁
    have hI₀ : h₀.get? s.heap.objs.size = none := next_is_new F
    obtain ⟨oI, hoI⟩ : ∃ oI, hh'.get? s.heap.objs.size = some oI := ⟨_, hst⟩
    have hm : (s.heap.objs.size, oI) ∈ own := hfp _ (List.mem_singleton.mpr rfl) hI₀ _ hoI
    have hone : ∀ p ∈ own, p = (s.heap.objs.size, oI) := fun p hp => by
      have e1 := List.mem_singleton.mp (hof p hp)
      have e2 := hown p hp
      obtain ⟨a, o⟩ := p
      dsimp only at e1 e2 ⊢
      subst e1
      rw [Option.some.inj (hoI.symm.trans e2)]
    refine wpAny_mono (turn i s.heap.objs.size oI v m₁ news₁ hh' tk' hin hJ (AllNe.of fun p hp e => hoff p hp (by rw [e]; exact List.mem_singleton.mpr rfl)) F₁ (fun p hp => ?_)) (fun f s₂ p => ?_) fun _ _ e => e
    · rcases List.mem_cons.mp hp with rfl | hp
      · exact N₁ _ (List.mem_append_left _ hm)
      · exact N₁ _ (List.mem_append_right _ hp)
    · obtain ⟨rfl, h', tk, m₂, news₂, e, F₂, N₂, hne, hJ₂⟩ := p
      refine .next ⟨rfl, h', tk, m₂, news₂, e, F₂, fun p hp => ?_, fun p hp q => hne.all p hp (List.mem_singleton.mp q), hJ₂⟩
      rcases List.mem_append.mp hp with hp | hp
      · rw [hone p hp]; exact N₂ _ (.head _)
      · exact N₂ _ (.tail _ hp)
  · intro h' tk m' news' F' N' _ hJ
    exact done m' news' h' tk hJ F' N'
end

end
section
def TextRow (rows : List RowD) (i : Int) (v : Str) : Prop := 2 ≤ i ∧ ∃ r kt vt, rows[i.toNat]? = some r ∧ r.kind = .str (Str.ofString "text") kt ∧ r.value = .str v vt ∧ r.kids = []
def ComRow (rows : List RowD) (i : Int) : Prop := 2 ≤ i ∧ ∃ r kt, rows[i.toNat]? = some r ∧ r.kind = .str (Str.ofString "comment") kt ∧ r.kids = []
/-- what string_value gives of a node -/
inductive SV (rows : List RowD) (n : Int) (st : Str) : Prop
  | plain {r : RowD} {ks : Str} {kt vt : Tok} : 2 ≤ n → rows[n.toNat]? = some r → r.kind = .str ks kt → ks ∈ [Str.ofString "text", Str.ofString "comment", Str.ofString "attribute"] → r.value = .str st vt → SV rows n st
  | elA {r : RowD} {kt u1 u2 u3 : Tok} {i1 i2 i3 : Int} {v1 v2 : Str} : 2 ≤ n → rows[n.toNat]? = some r → r.kind = .str (Str.ofString "element") kt → r.kids = [.int i1 u1, .int i2 u2, .int i3 u3] → TextRow rows i1 v1 → TextRow rows i2 v2 → ComRow rows i3 → st = v1 ++ v2 → SV rows n st
  | elB {r g : RowD} {kt gt u1 u2 u3 u4 : Tok} {i1 i2 i3 ig : Int} {v1 v2 : Str} : 2 ≤ n → rows[n.toNat]? = some r → r.kind = .str (Str.ofString "element") kt → r.kids = [.int i1 u1, .int ig u2, .int i3 u3] → TextRow rows i1 v1 →
      2 ≤ ig → rows[ig.toNat]? = some g → g.kind = .str (Str.ofString "element") gt → g.kids = [.int i2 u4] → TextRow rows i2 v2 → ComRow rows i3 → st = v1 ++ v2 → SV rows n st
def Stays (rows rows' : List RowD) : Prop := ∀ (i : Nat) (r : RowD), 2 ≤ i → rows[i]? = some r → rows'[i]? = some r
theorem TextRow.stays {rows rows' : List RowD} {i : Int} {v : Str} (h : TextRow rows i v) (s : Stays rows rows') : TextRow rows' i v := by
  obtain ⟨h2, r, kt, vt, hr, x⟩ := h
  exact ⟨h2, r, kt, vt, s _ _ (by omega) hr, x⟩
theorem ComRow.stays {rows rows' : List RowD} {i : Int} (h : ComRow rows i) (s : Stays rows rows') : ComRow rows' i := by
  obtain ⟨h2, r, kt, hr, x⟩ := h
  exact ⟨h2, r, kt, s _ _ (by omega) hr, x⟩
theorem SV.stays {rows rows' : List RowD} {n : Int} {st : Str} (h : SV rows n st) (s : Stays rows rows') : SV rows' n st := by
  cases h with
  | plain h2 hr hk hm hv => exact .plain h2 (s _ _ (by omega) hr) hk hm hv
  | elA h2 hr hk hd a b c e => exact .elA h2 (s _ _ (by omega) hr) hk hd (a.stays s) (b.stays s) (c.stays s) e
  | elB h2 hr hk hd a g2 hg gk gd b c e => exact .elB h2 (s _ _ (by omega) hr) hk hd (a.stays s) g2 (s _ _ (by omega) hg) gk gd (b.stays s) (c.stays s) e
section
variable {X X' : List RowD} {k j : Nat} {u v x : RowD} {r : Int}
theorem lk_last (e : X' = X.set k v ++ [x]) (er : r = (X.length : Int)) : X'[r.toNat]? = some x := by
  rw [e, er, Int.toNat_natCast, List.getElem?_append_right (by simp)]
  simp
theorem lk_set (e : X' = X.set k v ++ [x]) (h : X[k]? = some u) : X'[k]? = some v := by
  obtain ⟨hl, _⟩ := List.getElem?_eq_some_iff.mp h
  rw [e, List.getElem?_append_left (by simpa using hl)]
  simp [hl]
theorem lk_other (e : X' = X.set k v ++ [x]) (h : X[j]? = some u) (ne : j ≠ k) : X'[j]? = some u := by
  obtain ⟨hl, _⟩ := List.getElem?_eq_some_iff.mp h
  rw [e, List.getElem?_append_left (by simpa using hl), List.getElem?_set_ne (Ne.symm ne)]
  exact h
theorem lk_len (e : X' = X.set k v ++ [x]) : X'.length = X.length + 1 := by rw [e]; simp
end

end
section
theorem news_tled {P : Params} {tr td rl : Addr} {tk0 : Tok} {en : Nat} {rows : List RowD} {OL TL news : Led} {as : List Addr} {h₀ h : Heap} {L : Addr} (N : News h₀ L h news) (I : NInv P tr td rl tk0 OL TL en rows as) (s : ∀ p ∈ OL, p ∈ news) : News h₀ L h (tled P tr td rl tk0 en rows) :=
  fun p hp => N p (s p (I.tree p hp))
theorem add_child_U {w : World} {mean : ExcName → Option Value} {mg mb : Str → Option Value} {A₀ : Around} {dp un : Nat} {gd : Option (List Code)} {s : Shared} {base h₀ : Heap} {outer : List Env} {L : Addr} {m : Str → Option Value} {env : Env} {R : Result → Shared → Prop}
  (B : Below A₀ base outer h₀) (F : Fr h₀ L s.heap m) (X : (heapK w.params).In h₀) (T : Top viewK lo mean mg mb h₀) (hf : env.frame = some L) (hke : env.scope.kind = .function) {tr td rl : Addr} {tk0 : Tok} {en : Nat} {rows : List RowD} {k : Int} {t : Tok} {rp : RowD} {ks : Str} {t2 : Tok} {kind name uri loc value : Value}
  (hdep : dp + 9 < 1000) (hun : un + 200 < 9900)
  (N : News h₀ L s.heap (tled w.params tr td rl tk0 en rows)) (nd : (Keys (tled w.params tr td rl tk0 en rows)).Nodup)
  (hl : rows.length < 1000) (hk : 0 ≤ k) (hkr : rows[k.toNat]? = some rp) (hkind : rp.kind = .str ks t2) (hks : ks = Str.ofString "root" ∨ ks = Str.ofString "element") (hkids : rp.kids.length < 1000)
  (ret : ∀ (q : RowQ) (r : Int) (t' : Tok) (h' : Heap) (tk' : Nat) (rows' : List RowD), rows' = rows.set k.toNat { rp with kids := rp.kids ++ [Value.int r t'], ec := rp.ec + 1 } ++ [newRow q kind name uri loc value (.int k t)] →
     Holds h' (tled w.params tr td rl tk0 (en + 1) rows') → (Keys (tled w.params tr td rl tk0 (en + 1) rows')).Nodup → Keeps (Keys (tled w.params tr td rl tk0 en rows)) s.heap h' →
     (∀ a ∈ Keys (tled w.params tr td rl tk0 (en + 1) rows'), a ∈ Keys (tled w.params tr td rl tk0 en rows) ∨ s.heap.get? a = none) → r = rows.length → R (.ok (.ret (.int r t'))) { s with heap := h', toks := tk' }) :
  codeAny (model PySem.Challenge.rw_xm0671_01.row.prog w) (Around.mk none dp (some (env :: outer)) gd un) (.call (.ref 248) ⟨[.ref tr, .int k t, kind, name, uri, loc, value], []⟩) R s :=
  add_child_T B F X T hf hke hdep hun N nd hl hk hkr hkind hks hkids fun q r t' h' tk' eH nd' kp fr er => ret q r t' h' tk' _ rfl eH nd' kp (new_set hkr rfl fr) er
theorem set_attribute_U {w : World} {mean : ExcName → Option Value} {mg mb : Str → Option Value} {A₀ : Around} {dp un : Nat} {gd : Option (List Code)} {s : Shared} {base h₀ : Heap} {outer : List Env} {L : Addr} {m : Str → Option Value} {env : Env} {R : Result → Shared → Prop}
  (B : Below A₀ base outer h₀) (F : Fr h₀ L s.heap m) (X : (heapK w.params).In h₀) (T : Top viewK lo mean mg mb h₀) (hf : env.frame = some L) (hke : env.scope.kind = .function) {tr td rl : Addr} {tk0 : Tok} {en : Nat} {rows : List RowD} {k : Int} {t : Tok} {rp : RowD} {t2 : Tok} {name uri loc value : Value}
  (hdep : dp + 9 < 1000) (hun : un + 200 < 9900)
  (N : News h₀ L s.heap (tled w.params tr td rl tk0 en rows)) (nd : (Keys (tled w.params tr td rl tk0 en rows)).Nodup)
  (hl : rows.length < 1000) (hk : 0 ≤ k) (hkr : rows[k.toNat]? = some rp) (hkind : rp.kind = .str (Str.ofString "element") t2) (hat : rp.attrs = [])
  (ret : ∀ (q : RowQ) (r : Int) (t' t3 : Tok) (h' : Heap) (tk' : Nat) (rows' : List RowD), rows' = rows.set k.toNat { rp with attrs := [Value.int r t'], ea := rp.ea + 1 } ++ [newRow q (.str (Str.ofString "attribute") t3) name uri loc value (.int k t)] →
     Holds h' (tled w.params tr td rl tk0 (en + 1) rows') → (Keys (tled w.params tr td rl tk0 (en + 1) rows')).Nodup → Keeps (Keys (tled w.params tr td rl tk0 en rows)) s.heap h' →
     (∀ a ∈ Keys (tled w.params tr td rl tk0 (en + 1) rows'), a ∈ Keys (tled w.params tr td rl tk0 en rows) ∨ s.heap.get? a = none) → r = rows.length → R (.ok (.ret (.int r t'))) { s with heap := h', toks := tk' }) :
  codeAny (model PySem.Challenge.rw_xm0671_01.row.prog w) (Around.mk none dp (some (env :: outer)) gd un) (.call (.ref 290) ⟨[.ref tr, .int k t, name, uri, loc, value], []⟩) R s :=
  set_attribute_T B F X T hf hke hdep hun N nd hl hk hkr hkind hat fun q r t' t3 h' tk' eH nd' kp fr er => ret q r t' t3 h' tk' _ rfl eH nd' kp (new_set hkr rfl fr) er
theorem new_row_U {w : World} {mean : ExcName → Option Value} {mg mb : Str → Option Value} {A₀ : Around} {dp un : Nat} {gd : Option (List Code)} {s : Shared} {base h₀ : Heap} {outer : List Env} {L : Addr} {m : Str → Option Value} {env : Env} {R : Result → Shared → Prop}
  (B : Below A₀ base outer h₀) (F : Fr h₀ L s.heap m) (X : (heapK w.params).In h₀) (T : Top viewK lo mean mg mb h₀) (hf : env.frame = some L) (hke : env.scope.kind = .function) {tr td rl : Addr} {tk0 : Tok} {en : Nat} {rows : List RowD} {kind name uri loc value parent : Value}
  (hdep : dp + 6 < 1000) (hun : un + 100 < 9900)
  (N : News h₀ L s.heap (tled w.params tr td rl tk0 en rows)) (nd : (Keys (tled w.params tr td rl tk0 en rows)).Nodup) (hl : rows.length < 1000)
  (ret : ∀ (q : RowQ) (r : Int) (t' : Tok) (h' : Heap) (tk' : Nat) (rows' : List RowD), rows' = rows ++ [newRow q kind name uri loc value parent] →
     Holds h' (tled w.params tr td rl tk0 (en + 1) rows') → (Keys (tled w.params tr td rl tk0 (en + 1) rows')).Nodup → Keeps (Keys (tled w.params tr td rl tk0 en rows)) s.heap h' →
     (∀ a ∈ Keys (tled w.params tr td rl tk0 (en + 1) rows'), a ∈ Keys (tled w.params tr td rl tk0 en rows) ∨ s.heap.get? a = none) → r = rows.length → R (.ok (.ret (.int r t'))) { s with heap := h', toks := tk' }) :
  codeAny (model PySem.Challenge.rw_xm0671_01.row.prog w) (Around.mk none dp (some (env :: outer)) gd un) (.call (.ref 227) ⟨[.ref tr, kind, name, uri, loc, value, parent], []⟩) R s :=
  new_row_T B F X T hf hke hdep hun N nd hl fun q r t' h' tk' eH nd' kp fr er => ret q r t' h' tk' _ rfl eH nd' kp (new_push fr) er
def FndOk (TL : Led) (rows : List RowD) (v : Value) : Prop := ∃ a n st t1 t2, v = .ref a ∧ (a, tupO [.int n t1, .str st t2]) ∈ TL ∧ SV rows n st ∧ st ∈ textsT
abbrev turnNames : List Str := [Str.ofString "node", Str.ofString "one", Str.ofString "other", Str.ofString "inner", Str.ofString "told", Str.ofString "turn"]
def NJ (P : Params) (tr td rl : Addr) (tk0 : Tok) (b fd : Addr) (rtp : Int) (m₀ : Str → Option Value) (i : Nat) (m : Str → Option Value) (nx : Led) : Prop :=
  (∃ u : Str → Option Value, m = fun z => if turnNames.contains z = true then u z else m₀ z) ∧
  ∃ (x y : Int) (t1 t2 : Tok) (n : Nat) (fs : List Value) (e : Nat) (OL TL : Led) (en : Nat) (rows : List RowD) (rt : RowD) (kt : Tok), nx = (b, W.listOf #[.int x t1, .int y t2] n) :: (fd, W.listOf fs.toArray e) :: OL ∧ NInv P tr td rl tk0 OL TL en rows [fd, b] ∧
    0 ≤ x ∧ 0 ≤ y ∧ y < 2147483647 ∧ NeA b fd ∧ rows.length ≤ 2 + 6 * i ∧ 2 ≤ rows.length ∧ rows[rtp.toNat]? = some rt ∧ rt.kind = .str (Str.ofString "element") kt ∧ rt.kids.length ≤ i ∧ fs.length = 5 * i ∧ ∀ v ∈ fs, FndOk TL rows v

theorem NInv.add {P : Params} {tr td rl : Addr} {tk0 : Tok} {en : Nat} {rows : List RowD} {OL TL news : Led} {as : List Addr} {a : Addr} (I : NInv P tr td rl tk0 OL TL en rows as) (h : ∀ p ∈ news, @LT.lt Nat _ p.1 a) (s : ∀ p ∈ OL, p ∈ news) : NInv P tr td rl tk0 OL TL en rows (a :: as) := by
  refine ⟨I.eq, I.tup, I.nd, fun c hc => ?_⟩
  rcases List.mem_cons.mp hc with e | hc
  · rw [e]
    exact AllNe.of fun p hp q => Nat.lt_irrefl _ (q ▸ h p (s p hp))
  · exact I.off c hc
theorem NeA_of_lt {a b : Addr} (h : @LT.lt Nat _ a b) : NeA a b := ⟨fun e => Nat.lt_irrefl _ (e ▸ h)⟩
theorem news_two {h₀ h : Heap} {L : Addr} {news OL : Led} {p q : Addr × Obj} (N : News h₀ L h news) (h1 : p ∈ news) (h2 : q ∈ news) (s : ∀ p ∈ OL, p ∈ news) : News h₀ L h (p :: q :: OL) := by
  intro c hc
  rcases List.mem_cons.mp hc with e | hc
  · rw [e]; exact N _ h1
  rcases List.mem_cons.mp hc with e | hc
  · rw [e]; exact N _ h2
  · exact N _ (s c hc)
theorem range_bd {k : Int} (h0 : 0 ≤ k) (h1 : k < 3) : ∃ n : Nat, (n : Int) = 1 + k ∧ n ≤ 3 ∧ 1 ≤ n ∧ Builtin.Range.small 0 (1 + k) 1 = true ∧ Builtin.Range.rangeSize 0 (1 + k) 1 = (n : Int) := by
  rcases (show k = 0 ∨ k = 1 ∨ k = 2 by omega) with rfl | rfl | rfl
  · exact ⟨1, by decide⟩
  · exact ⟨2, by decide⟩
  · exact ⟨3, by decide⟩
theorem NJ_start {P : Params} {tr td rl : Addr} {tk0 : Tok} {b fd : Addr} {rtp : Int} {m₀ : Str → Option Value} {en n e : Nat} {rows : List RowD} {OL : Led} {x y : Int} {t1 t2 kt : Tok} {rt : RowD}
    (I : NInv P tr td rl tk0 OL [] en rows [fd, b]) (hx : 0 ≤ x) (hy0 : 0 ≤ y) (hy : y < 2147483647) (hne : NeA b fd) (hl : rows.length = 2) (hr : rows[rtp.toNat]? = some rt) (hk : rt.kind = .str (Str.ofString "element") kt) (hs : rt.kids.length = 0) :
    NJ P tr td rl tk0 b fd rtp m₀ 0 m₀ ((b, W.listOf #[.int x t1, .int y t2] n) :: (fd, W.listOf #[] e) :: OL) := by
  refine ⟨⟨m₀, funext fun z => ?_⟩, x, y, t1, t2, n, [], e, OL, [], en, rows, rt, kt, rfl, I, hx, hy0, hy, hne, ?_, ?_, hr, hk, ?_, rfl, ?_⟩
  · split <;> rfl
  · omega
  · omega
  · omega
  · intro v hv; cases hv

end
section
theorem tn_ne {a b : Int} (ha : 0 ≤ a) (hb : 0 ≤ b) (h : a ≠ b) : a.toNat ≠ b.toNat := fun e => h (by rw [← Int.toNat_of_nonneg ha, ← Int.toNat_of_nonneg hb, e])
theorem tn_ne2 {a b : Int} (ha : 2 ≤ a) (hb : 2 ≤ b) (h : a ≠ b) : a.toNat ≠ b.toNat := tn_ne (i_ge ha rfl) (i_ge hb rfl) h
theorem tn_up {a b : Int} (h : 2 ≤ a) (h1 : a < b) : a.toNat ≠ b.toNat := tn_ne2 h (Int.le_trans h (Int.le_of_lt h1)) (Int.ne_of_lt h1)
theorem tn_dn {a b : Int} (h : 2 ≤ a) (h1 : a < b) : b.toNat ≠ a.toNat := (tn_up h h1).symm
/-- a statement by what holds behind it -/
theorem seqU {prog : Program} {w : World} {A : Around} {env : Env} {st : Stmt} {rest : List Stmt} {Q : Flow → Shared → Prop} {E : Value → Shared → Prop} {s : Shared} (mid : Shared → Prop)
    (h : wpAny (model prog w) A (exec st env) (fun f s' => f = .next ∧ mid s') E s) (k : ∀ s', mid s' → wpAny (model prog w) A (execs rest env) Q E s') : wpAny (model prog w) A (execs (st :: rest) env) Q E s :=
  wpAny_execs_cons (wpAny_mono h (fun f s' e => by obtain ⟨rfl, m⟩ := e; exact k s' m) (fun _ _ e => e))
theorem NInv.addA {P : Params} {tr td rl : Addr} {tk0 : Tok} {en : Nat} {rows : List RowD} {OL TL : Led} {as : List Addr} {a : Addr} (I : NInv P tr td rl tk0 OL TL en rows as) (h : AllNe a OL) : NInv P tr td rl tk0 OL TL en rows (a :: as) := by
  refine ⟨I.eq, I.tup, I.nd, fun c hc => ?_⟩
  rcases List.mem_cons.mp hc with e | hc
  · rw [e]; exact h
  · exact I.off c hc
theorem NInv.fewer {P : Params} {tr td rl : Addr} {tk0 : Tok} {en : Nat} {rows : List RowD} {OL TL : Led} {as as' : List Addr} (I : NInv P tr td rl tk0 OL TL en rows as) (h : ∀ a ∈ as', a ∈ as) : NInv P tr td rl tk0 OL TL en rows as' :=
  ⟨I.eq, I.tup, I.nd, fun c hc => I.off c (h c hc)⟩
theorem NInv.push {P : Params} {tr td rl : Addr} {tk0 : Tok} {en : Nat} {rows : List RowD} {OL TL : Led} {as : List Addr} {p : Addr × Obj} (I : NInv P tr td rl tk0 OL TL en rows as) (h : p.2.cls = .type "tuple") (ne : ∀ a ∈ as, NeA p.1 a) : NInv P tr td rl tk0 (p :: OL) (p :: TL) en rows as := by
  refine ⟨by rw [I.eq]; rfl, fun q hq => ?_, I.nd, fun c hc => ⟨ne c hc, I.off c hc⟩⟩
  rcases List.mem_cons.mp hq with e | hq
  · rw [e]; exact h
  · exact I.tup q hq
/-- the rows of a turn: those of its start stand -/
structure Base (rows₀ : List RowD) (rtp : Int) (i k : Nat) (rows : List RowD) : Prop where
  st : Stays rows₀ rows
  len : rows.length = rows₀.length + k
  top : ∃ rt kt, rows[rtp.toNat]? = some rt ∧ rt.kind = .str (Str.ofString "element") kt ∧ rt.kids.length ≤ i + 1
def Elm (rows : List RowD) (n : Int) (kids : List Value) : Prop := ∃ r kt, rows[n.toNat]? = some r ∧ r.kind = .str (Str.ofString "element") kt ∧ r.kids = kids ∧ r.attrs = []
def Pend (TL : Led) (a : Addr) (n : Int) (st : Str) : Prop := ∃ t1 t2, (a, tupO [.int n t1, .str st t2]) ∈ TL
/-- the node of a turn, behind its second text -/
def Shape (rows : List RowD) (node i1 i2 : Int) (tail : List Value) (na : Prop) : Prop :=
  ∃ r kt, rows[node.toNat]? = some r ∧ r.kind = .str (Str.ofString "element") kt ∧ (na → r.attrs = []) ∧ ∃ c u1 u2, r.kids = [.int i1 u1, .int c u2] ++ tail ∧
    (c = i2 ∨ (2 ≤ c ∧ c ≠ node ∧ ∃ g gt u4, rows[c.toNat]? = some g ∧ g.kind = .str (Str.ofString "element") gt ∧ g.kids = [.int i2 u4]))
section
variable {rows₀ X X' : List RowD} {rtp node n i1 i2 k r : Int} {i j : Nat} {v x u : RowD} {st : Str} {kids tail : List Value} {na : Prop}
theorem lt_of_get {l : List RowD} {m : Nat} (h : l[m]? = some u) : m < l.length := (List.getElem?_eq_some_iff.mp h).1
theorem Base.start (rt : RowD) {kt : Tok} (h : rows₀[rtp.toNat]? = some rt) (hk : rt.kind = .str (Str.ofString "element") kt) (hl : rt.kids.length ≤ i) (hr : rtp.toNat < 2) {v : RowD} (e : X' = rows₀.set rtp.toNat v ++ [x]) (hv : v.kind = rt.kind) (hc : v.kids.length = rt.kids.length + 1) :
    Base rows₀ rtp i 1 X' := by
  refine ⟨fun a b h2 hb => lk_other e hb (by omega), lk_len e, v, kt, lk_set e h, by rw [hv]; exact hk, by omega⟩
theorem Base.more (B : Base rows₀ rtp i j X) (hk0 : 0 ≤ k) (hk : (rows₀.length : Int) ≤ k) (hr : rtp.toNat < rows₀.length) (e : X' = X.set k.toNat v ++ [x]) : Base rows₀ rtp i (j + 1) X' := by
  obtain ⟨rt, kt, h1, h2, h3⟩ := B.top
  refine ⟨fun a b ha hb => lk_other e (B.st a b ha hb) ?_, by rw [lk_len e, B.len]; omega, rt, kt, lk_other e h1 (by omega), h2, h3⟩
  have := lt_of_get hb
  omega
theorem TextRow.other (h : TextRow X n st) (ne : n.toNat ≠ j) (e : X' = X.set j v ++ [x]) : TextRow X' n st := by
  obtain ⟨h2, r, kt, vt, hr, y⟩ := h
  exact ⟨h2, r, kt, vt, lk_other e hr ne, y⟩
theorem TextRow.last {kt vt : Tok} (e : X' = X.set j v ++ [x]) (er : r = (X.length : Int)) (h2 : 2 ≤ r) (hk : x.kind = .str (Str.ofString "text") kt) (hv : x.value = .str st vt) (hc : x.kids = []) : TextRow X' r st :=
  ⟨h2, x, kt, vt, lk_last e er, hk, hv, hc⟩
theorem Elm.last {kt : Tok} (e : X' = X.set j v ++ [x]) (er : r = (X.length : Int)) (hk : x.kind = .str (Str.ofString "element") kt) (hc : x.kids = []) (ha : x.attrs = []) : Elm X' r [] := ⟨x, kt, lk_last e er, hk, hc, ha⟩
theorem Elm.set {kt : Tok} (e : X' = X.set n.toNat v ++ [x]) (hu : X[n.toNat]? = some u) (hk : v.kind = .str (Str.ofString "element") kt) (hc : v.kids = kids) (ha : v.attrs = []) : Elm X' n kids := ⟨v, kt, lk_set e hu, hk, hc, ha⟩
theorem Elm.other (h : Elm X n kids) (e : X' = X.set j v ++ [x]) (ne : n.toNat ≠ j) : Elm X' n kids := by
  obtain ⟨r, kt, h1, y⟩ := h
  exact ⟨r, kt, lk_other e h1 ne, y⟩
theorem Elm.lt (h : Elm X n kids) : n.toNat < X.length := by
  obtain ⟨r, kt, h1, y⟩ := h
  exact lt_of_get h1
end
/-- where the second text of a turn goes -/
def InnerOk (rows : List RowD) (node inner i1 : Int) (u1 : Tok) : Prop :=
  (inner = node ∧ Elm rows node [.int i1 u1]) ∨ (node < inner ∧ Elm rows inner [] ∧ ∃ u2, Elm rows node [.int i1 u1, .int inner u2])
section
variable {rows₀ X X' : List RowD} {rtp node n i1 i2 k r inner : Int} {i j : Nat} {v x u : RowD} {st s1 s2 : Str} {kids tail : List Value} {na : Prop} {u1 t' : Tok}
theorem InnerOk.get (h : InnerOk X node inner i1 u1) : ∃ r kt, X[inner.toNat]? = some r ∧ r.kind = .str (Str.ofString "element") kt ∧ r.kids.length ≤ 1 := by
  rcases h with ⟨rfl, r, kt, h1, h2, h3, h4⟩ | ⟨_, ⟨r, kt, h1, h2, h3, h4⟩, _⟩
  · exact ⟨r, kt, h1, h2, by rw [h3]; exact Nat.le_refl _⟩
  · exact ⟨r, kt, h1, h2, by rw [h3]; exact Nat.zero_le _⟩
theorem InnerOk.shape (h : InnerOk X node inner i1 u1) (hn : 2 ≤ node) (hu : X[inner.toNat]? = some u) (e : X' = X.set inner.toNat { u with kids := u.kids ++ [Value.int r t'], ec := u.ec + 1 } ++ [x]) : Shape X' node i1 r [] True := by
  rcases h with ⟨rfl, y, kt, h1, h2, h3, h4⟩ | ⟨hlt, ⟨y, kt, h1, h2, h3, h4⟩, u2, z, kt2, h5, h6, h7, h8⟩
  · have e1 := h1.symm.trans hu
    injection e1 with e1
    subst e1
    exact ⟨_, kt, lk_set e hu, h2, fun _ => h4, r, u1, t', by simp [h3], .inl rfl⟩
  · have e1 := h1.symm.trans hu
    injection e1 with e1
    subst e1
    refine ⟨z, kt2, lk_other e h5 (by first | exact tn_up ‹_› ‹_› | exact tn_dn ‹_› ‹_› | omega), h6, fun _ => h8, inner, u1, u2, by simpa using h7, .inr ⟨by omega, by omega, _, kt, t', lk_set e hu, h2, by simp [h3]⟩⟩
theorem Shape.get (h : Shape X node i1 i2 tail True) : ∃ r kt, X[node.toNat]? = some r ∧ r.kind = .str (Str.ofString "element") kt ∧ r.attrs = [] := by
  obtain ⟨r, kt, h1, h2, h3, _⟩ := h
  exact ⟨r, kt, h1, h2, h3 trivial⟩
theorem Shape.get2 (h : Shape X node i1 i2 [] na) : ∃ r kt, X[node.toNat]? = some r ∧ r.kind = .str (Str.ofString "element") kt ∧ r.kids.length = 2 := by
  obtain ⟨r, kt, h1, h2, h3, c, u1, u2, hc, _⟩ := h
  exact ⟨r, kt, h1, h2, by simp [hc]⟩
theorem Shape.turn (h : Shape X node i1 i2 tail na) (hn : 2 ≤ node) (hu : X[node.toNat]? = some u) (e : X' = X.set node.toNat v ++ [x]) (hk : v.kind = u.kind) (hc : v.kids = u.kids ++ kids) : Shape X' node i1 i2 (tail ++ kids) False := by
  obtain ⟨y, kt, h1, h2, h3, c, u1, u2, hd, hcc⟩ := h
  have e1 := h1.symm.trans hu
  injection e1 with e1
  subst e1
  refine ⟨v, kt, lk_set e hu, by rw [hk]; exact h2, fun q => q.elim, c, u1, u2, by rw [hc, hd, List.append_assoc], hcc.imp id ?_⟩
  rintro ⟨a, b, g, gt, u4, q, q2, q3⟩
  exact ⟨a, b, g, gt, u4, lk_other e q (by first | exact tn_ne2 ‹_› ‹_› ‹_› | omega), q2, q3⟩
theorem Shape.sv {ic : Int} {uc : Tok} (h : Shape X node i1 i2 [.int ic uc] na) (hn : 2 ≤ node) (h1 : TextRow X i1 s1) (h2 : TextRow X i2 s2) (hc : ComRow X ic) : SV X node (s1 ++ s2) := by
  obtain ⟨y, kt, a1, a2, _, c, u1, u2, a4, a5 | ⟨b1, b2, g, gt, u4, b3, b4, b5⟩⟩ := h
  · subst a5
    exact .elA hn a1 a2 a4 h1 h2 hc rfl
  · exact .elB hn a1 a2 a4 h1 b1 b3 b4 b5 h2 hc rfl
theorem TextRow.sv (h : TextRow X n st) : SV X n st := by
  obtain ⟨h2, r, kt, vt, hr, hk, hv, _⟩ := h
  exact .plain h2 hr hk (by simp) hv
theorem ComRow.last {kt : Tok} (e : X' = X.set j v ++ [x]) (er : r = (X.length : Int)) (h2 : 2 ≤ r) (hk : x.kind = .str (Str.ofString "comment") kt) (hc : x.kids = []) : ComRow X' r := ⟨h2, x, kt, lk_last e er, hk, hc⟩
theorem SV.last {ks : Str} {kt vt : Tok} (e : X' = X.set j v ++ [x]) (er : r = (X.length : Int)) (h2 : 2 ≤ r) (hk : x.kind = .str ks kt) (hks : ks ∈ [Str.ofString "text", Str.ofString "comment", Str.ofString "attribute"]) (hv : x.value = .str st vt) : SV X' r st :=
  .plain h2 (lk_last e er) hk hks hv
/-- a row that stands alone: an attribute -/
def Lone (rows : List RowD) (n : Int) (st : Str) : Prop := 2 ≤ n ∧ ∃ r ks kt vt, rows[n.toNat]? = some r ∧ r.kind = .str ks kt ∧ ks ∈ [Str.ofString "text", Str.ofString "comment", Str.ofString "attribute"] ∧ r.value = .str st vt
theorem Lone.last {ks : Str} {kt vt : Tok} (e : X' = X.set j v ++ [x]) (er : r = (X.length : Int)) (h2 : 2 ≤ r) (hk : x.kind = .str ks kt) (hks : ks ∈ [Str.ofString "text", Str.ofString "comment", Str.ofString "attribute"]) (hv : x.value = .str st vt) : Lone X' r st :=
  ⟨h2, x, ks, kt, vt, lk_last e er, hk, hks, hv⟩
theorem Lone.other (h : Lone X n st) (ne : n.toNat ≠ j) (e : X' = X.set j v ++ [x]) : Lone X' n st := by
  obtain ⟨h2, r, ks, kt, vt, hr, y⟩ := h
  exact ⟨h2, r, ks, kt, vt, lk_other e hr ne, y⟩
theorem Lone.sv (h : Lone X n st) : SV X n st := by
  obtain ⟨h2, r, ks, kt, vt, hr, hk, hm, hv⟩ := h
  exact .plain h2 hr hk hm hv
end
theorem FndOk.more {TL TL' : Led} {X X' : List RowD} {v : Value} (h : FndOk TL X v) (hs : ∀ p ∈ TL, p ∈ TL') (st : Stays X X') : FndOk TL' X' v := by
  obtain ⟨a, n, z, t1, t2, e, hm, hv, ht⟩ := h
  exact ⟨a, n, z, t1, t2, e, hs _ hm, hv.stays st, ht⟩
theorem Pend.more {TL TL' : Led} {a : Addr} {n : Int} {st : Str} (h : Pend TL a n st) (hs : ∀ p ∈ TL, p ∈ TL') : Pend TL' a n st := by
  obtain ⟨t1, t2, hm⟩ := h
  exact ⟨t1, t2, hs _ hm⟩
theorem Pend.ok {TL : Led} {X : List RowD} {a : Addr} {n : Int} {st : Str} (h : Pend TL a n st) (hv : SV X n st) (ht : st ∈ textsT) : FndOk TL X (.ref a) := by
  obtain ⟨t1, t2, hm⟩ := h
  exact ⟨a, n, st, t1, t2, rfl, hm, hv, ht⟩
theorem text_word {st : Str} {p q : Int} (h : (st, p, q) ∈ wordsT) : st ∈ textsT := by
  refine List.mem_append_left _ (List.mem_append_left _ ?_)
  exact List.mem_map_of_mem (f := Prod.fst) h
theorem text_other {st : Str} (h : st ∈ othersT) : st ∈ textsT := List.mem_append_left _ (List.mem_append_right _ h)
theorem text_cat {one other : Str} {p q : Int} (h1 : (one, p, q) ∈ wordsT) (h : other ∈ othersT) : one ++ other ∈ textsT := by
  refine List.mem_append_right _ (List.mem_flatMap.mpr ⟨_, h1, ?_⟩)
  exact List.mem_map.mpr ⟨other, h, rfl⟩
theorem names_end {m m₀ : Str → Option Value} (h : ∀ z, turnNames.contains z = false → m z = m₀ z) : ∃ u : Str → Option Value, m = fun z => if turnNames.contains z = true then u z else m₀ z :=
  ⟨m, funext fun z => by
    cases e : turnNames.contains z
    · rw [if_neg (by simp)]; exact h z e
    · rw [if_pos rfl]⟩
/-- the state between two statements of the turn -/
inductive Mid (P : Params) (h₀ : Heap) (L : Addr) (s₀ : Shared) (tr td rl : Addr) (tk0 : Tok) (b fd I : Addr) (oI : Obj) (n0 : Nat) (M : Str → Option Value) (T : List RowD → List Value → Led → Prop) : Shared → Prop
  | mk (h' : Heap) (tk' : Nat) (x y : Int) (t1 t2 : Tok) (fs : List Value) (e : Nat) (OL TL : Led) (en : Nat) (rows : List RowD) (F : Fr h₀ L h' M) (N : News h₀ L h' ((I, oI) :: (b, W.listOf #[.int x t1, .int y t2] n0) :: (fd, W.listOf fs.toArray e) :: OL)) (I1 : NInv P tr td rl tk0 OL TL en rows [I, fd, b]) (hx : 0 ≤ x) (hy0 : 0 ≤ y) (hy : y < 2147483647) (t : T rows fs TL) :
    Mid P h₀ L s₀ tr td rl tk0 b fd I oI n0 M T { s₀ with heap := h', toks := tk' }
theorem lk_last0 {X X' : List RowD} {x : RowD} {r : Int} (e : X' = X ++ [x]) (er : r = (X.length : Int)) : X'[r.toNat]? = some x := by
  rw [e, er, Int.toNat_natCast, List.getElem?_append_right (by simp)]
  simp
theorem lk_len0 {X X' : List RowD} {x : RowD} (e : X' = X ++ [x]) : X'.length = X.length + 1 := by rw [e]; simp
theorem rt_lt {r : Int} {X : List RowD} (e : r = (X.length : Int)) (h : X.length < 2) : r.toNat < 2 ∧ 0 ≤ r := by omega
theorem ix_next {node i1 : Int} {n : Nat} (h : node = (n : Int)) (h1 : i1 = (n : Int) + 1) : NeA i1.toNat node.toNat := ⟨tn_ne (h1 ▸ i_succ (Int.natCast_nonneg n)) (h ▸ Int.natCast_nonneg n) (by rw [h, h1]; exact Int.ne_of_gt (Int.lt_succ _))⟩
theorem ix_above {node i2 : Int} (h0 : 0 ≤ node) (h : node < i2) : NeA i2.toNat node.toNat := ⟨tn_ne (Int.le_trans h0 (Int.le_of_lt h)) h0 (Int.ne_of_gt h)⟩
theorem ix_apart {inner i1 : Int} (h0 : 0 ≤ i1) (h : 0 ≤ inner) (hne : inner ≠ i1) : NeA i1.toNat inner.toNat := ⟨tn_ne h0 h (Ne.symm hne)⟩
theorem two_le {rp : Int} {k n m : Nat} (h : rp = (k : Int)) (h1 : k = n + m) (h2 : 2 ≤ n) : 2 ≤ rp := by omega
theorem lt_rp {node rp : Int} {k n m : Nat} (hn : node = (n : Int)) (h : rp = (k : Int)) (h1 : k = n + m) (hm : 0 < m) : node < rp := by omega
theorem len_ok {X r i kk d : Nat} (h : X = r + (kk + d)) (hr : r ≤ 2 + 6 * i) (hi : i < 3) (hk : kk ≤ 3) (hd : Nat.ble d 9 = true) : X < 1000 := by have := Nat.le_of_ble_eq_true hd; omega
theorem o_fin6 {r i kk : Nat} (h : r ≤ 2 + 6 * i) (hk : kk ≤ 3) : r + (kk + 3) ≤ 2 + 6 * (i + 1) := by omega
theorem o_len1 {X r kk i : Nat} (e : X = r + kk) (h : r ≤ 2 + 6 * i) (hi : i < 3) (hk : kk ≤ 3) : X < 1000 := len_ok (d := 0) e h hi hk rfl
theorem o_len2 {X r c i : Nat} (e : X = r + c) (h : r ≤ 2 + 6 * i) (hi : i < 3) (hc : Nat.ble c 9 = true) : X < 1000 := len_ok (kk := 0) (by rw [e, Nat.zero_add]) h hi (Nat.zero_le _) hc
theorem o_len0 {r i : Nat} (h : r ≤ 2 + 6 * i) (hi : i < 3) : r < 1000 := o_len2 (c := 0) rfl h hi rfl
theorem o_fs {x i c : Nat} (e : x = 5 * i + c) (hi : i < 3) (hc : Nat.ble c 9 = true) : x < 1000 := by have := Nat.le_of_ble_eq_true hc; omega
theorem o_fs0 {x i : Nat} (e : x = 5 * i) (hi : i < 3) : x < 1000 := o_fs (c := 0) e hi rfl
theorem o_suc {rp : Int} {k n : Nat} (e : rp = (k : Int)) (e2 : k = n + 1) : rp = (n : Int) + 1 := by rw [e, e2]; rfl
theorem o_two {node : Int} {n : Nat} (e : node = (n : Int)) (h : 2 ≤ n) : 2 ≤ node := e ▸ Int.ofNat_le.mpr h
theorem o_eqs {x y : Nat} (h : x = y + 1) (h2 : y = 0 + 1) : x = 2 := by rw [h, h2]
theorem o_i3 {kp : Int} {nn i : Nat} (h0 : kp < 3) (e : (nn : Int) = 1 + kp) (hi : i < nn) : i < 3 := by omega
theorem o_nn {n : Nat} : 0 ≤ (n : Int) + 1 := i_succ (Int.natCast_nonneg n)
theorem o_five {i : Nat} : 5 * i + (0 + 1 + 1 + 1 + 1 + 1) = 5 * (i + 1) := rfl
theorem o_pos {k : Nat} (h : 2 ≤ k) : 0 < k := Nat.lt_of_lt_of_le (Nat.le_of_ble_eq_true rfl) h
def StepEnd (f : Flow) (p : Prop) : Prop := f = .next ∧ p
/-- a statement of the turn by what holds behind it; the frame's map and the top's number are named by the way -/
theorem seqF {prog : Program} {w : World} {A : Around} {env : Env} {st : Stmt} {rest : List Stmt} {Q : Flow → Shared → Prop} {E : Value → Shared → Prop} {s : Shared} {g h : Heap} {L : Addr} {m : Str → Option Value} {rows : List RowD} {rtp : Int} {rt : RowD} (_F : Fr g L h m) (_hr : rows[rtp.toNat]? = some rt)
    (mid : (Str → Option Value) → Int → Shared → Prop)
    (h : wpAny (model prog w) A (exec st env) (fun f s' => StepEnd f (mid m rtp s')) E s) (k : ∀ s', mid m rtp s' → wpAny (model prog w) A (execs rest env) Q E s') : wpAny (model prog w) A (execs (st :: rest) env) Q E s :=
  wpAny_execs_cons (wpAny_mono h (fun f s' e => by obtain ⟨rfl, m⟩ := e; exact k s' m) (fun _ _ e => e))
theorem news_three {h₀ h : Heap} {L : Addr} {news OL : Led} {p q r : Addr × Obj} (N : News h₀ L h news) (h1 : p ∈ news) (h2 : q ∈ news) (h3 : r ∈ news) (s : ∀ p ∈ OL, p ∈ news) : News h₀ L h (p :: q :: r :: OL) := by
  intro c hc
  rcases List.mem_cons.mp hc with e | hc
  · rw [e]; exact N _ h1
  rcases List.mem_cons.mp hc with e | hc
  · rw [e]; exact N _ h2
  rcases List.mem_cons.mp hc with e | hc
  · rw [e]; exact N _ h3
  · exact N _ (s c hc)
theorem append_L {prog : Program} {w : World} {A : Around} {E : Value → Shared → Prop} {s : Shared} {h₀ : Heap} {L D : Addr} {m : Str → Option Value} {news news' : Led} {fs : List Value} {n : Nat} {x : Value} {Q : Value → Shared → Prop} (F : Fr h₀ L s.heap m) (N : News h₀ L s.heap news) (U : Upd D (W.listOf fs.toArray n) (W.listOf (fs ++ [x]).toArray (n + 1)) news news')
    (hsz : fs.length < 1000) (h : ∀ h', Fr h₀ L h' m → News h₀ L h' news' → Q .none { s with heap := h' }) : wpAny (model prog w) A (call (.builtin "list.append") [.ref D, x]) Q E s := by
  refine append_K (its := fs.toArray) (n := n) F N ?_ h ?_
  · rw [List.push_toArray]; exact U
  · have : 1000 ≤ sizeLine := Nat.le_of_ble_eq_true rfl
    rw [List.size_toArray]; omega
theorem close_push {P : Params} {tr td rl : Addr} {tk0 : Tok} {en : Nat} {rows : List RowD} {OL TL news : Led} {h₀ h : Heap} {L D I fd b : Addr} {n : Int} {st : Str} {t1 t2 : Tok} {o1 o2 o3 : Obj}
    (N : News h₀ L h ((D, tupO [.int n t1, .str st t2]) :: news)) (J : NInv P tr td rl tk0 OL TL en rows [I, fd, b]) (l1 : @LT.lt Nat _ I D) (l2 : @LT.lt Nat _ b D) (l3 : @LT.lt Nat _ fd D)
    (h1 : (I, o1) ∈ news) (h2 : (b, o2) ∈ news) (h3 : (fd, o3) ∈ news) (s : ∀ p ∈ OL, p ∈ news) :
    News h₀ L h ((I, o1) :: (b, o2) :: (fd, o3) :: (D, tupO [.int n t1, .str st t2]) :: OL) ∧ NInv P tr td rl tk0 ((D, tupO [.int n t1, .str st t2]) :: OL) ((D, tupO [.int n t1, .str st t2]) :: TL) en rows [I, fd, b] ∧ Pend ((D, tupO [.int n t1, .str st t2]) :: TL) D n st := by
  refine ⟨news_three N (.tail _ h1) (.tail _ h2) (.tail _ h3) (fun p hp => ?_), J.push rfl (fun a ha => ?_), t1, t2, .head _⟩
  · rcases List.mem_cons.mp hp with e | hp
    · rw [e]; exact .head _
    · exact .tail _ (s p hp)
  · simp only [List.mem_cons, List.not_mem_nil, or_false] at ha
    refine ⟨fun e => ?_⟩
    rcases ha with rfl | rfl | rfl
    · exact Nat.lt_irrefl _ (e ▸ l1)
    · exact Nat.lt_irrefl _ (e ▸ l3)
    · exact Nat.lt_irrefl _ (e ▸ l2)
theorem sub_tail {TL TL' : Led} {p : Addr × Obj} (h : ∀ q ∈ TL, q ∈ TL') : ∀ q ∈ TL, q ∈ p :: TL' := fun q hq => .tail _ (h q hq)
theorem nodes_new {h g h' : Heap} {L' b fd : Addr} {bo bo' fo : Obj} {OL OL' : Led} (G : GSub h g (((b, bo) :: OL).map (·.1))) (N : News g L' h' ((b, bo') :: (fd, fo) :: OL')) (hne : NeA b fd) (off : AllNe b OL') : ∀ p ∈ ((fd, fo) :: OL' : Led), p.1 ∈ Keys OL ∨ h.get? p.1 = none := by
  intro p hp
  rcases Classical.em (p.1 ∈ Keys OL) with q | q
  · exact .inl q
  · refine .inr (fresh_of G N (.tail _ hp) (fun e => ?_))
    rcases List.mem_cons.mp e with e | e
    · rcases List.mem_cons.mp hp with e2 | hp
      · rw [e2] at e; exact hne.ne e.symm
      · exact off.all p hp e
    · exact q e

end
section
theorem wd1_U1 : True := by
  k_with_none
  k_with "u lt" => (with_reducible (first | assumption | exact cl0 ‹_› | exact cl1 ‹_› | exact cl2 ‹_› | exact cl3 ‹_› | exact cl4 ‹_› | exact cl5 ‹_› | exact cl6 ‹_› | exact cl7 ‹_› | exact cl8 ‹_› | exact cl9 ‹_› | exact cl10 ‹_› | exact cl11 ‹_› | exact cr1 ‹_› | exact cr2 ‹_› | exact cr3 ‹_› | exact cr4 ‹_› | exact cr5 ‹_› | exact cr6 ‹_› | exact cr7 ‹_› | exact cr8 ‹_› | exact cr9 ‹_› | exact cr10 ‹_› | exact cr11 ‹_›))
  k_with "u room" => (first | exact room3 (by with_reducible assumption) rfl | exact room2 (by with_reducible assumption) rfl | exact room4 (by with_reducible assumption) rfl | exact room1 (by with_reducible assumption) | exact roomc (by with_reducible assumption) rfl | exact roome (by with_reducible assumption) rfl | exact roomd (by with_reducible assumption) rfl | exact roomn rfl | exact Nat.le_of_ble_eq_true rfl)
  k_with "call ref" => ((k_here; k_extra "ct"))
  k_with "u dp" => (((try simp only [depth_deeper, depth_in1, depth_caller]); (try dsimp only); first | walk_at "u room" | omega))
  k_with "u un" => (((try simp only [units_deeper, units_in1, units_caller]); (try dsimp only); first | walk_at "u room" | omega))
  k_with "u end" => (((try k_sweep); (try dsimp only); (try ((fail_if_success (with_reducible show wpAny _ _ _ _ _ _)); refine peel ?_)); (try k_fold)))
  k_with "u om" => (first | walk_at "u lt" | walk_at "u room" | exact Nat.le_of_ble_eq_true rfl | omega)
  k_with "k_ne" => (first | exact NeA.ne (by with_reducible assumption) | exact Ne.symm (NeA.ne (by with_reducible assumption)) | exact Nat.ne_of_gt (by walk_at "u lt") | exact Nat.ne_of_lt (by walk_at "u lt"))
  k_with "k_room" => (((try simp only [depth_under_make, depth_under_kw, depth_in1, depth_deeper, depth_caller, recursionLimit]); (try dsimp only); first | walk_at "u room" | omega))
  k_with "k_units" => (first | ((try simp only [units_in1, units_deeper, Around.mark_units, units_caller]); (try dsimp only); walk_at "u room") | (have hcL9 := cLine_is; (try simp only [units_in1, units_deeper, Around.mark_units, units_caller]); (try dsimp only); omega))
  k_with "om" => (with_reducible ((fail_if_success exact True.intro); (fail_if_success exact not_false); first | decide | exact n_lt0 rfl | exact n_le0 rfl | exact n_ltlt ‹_› rfl | exact n_lelt ‹_› rfl | exact n_lele ‹_› rfl | exact n_ltle ‹_› rfl | exact n_eqlt ‹_› rfl | exact n_lelt2 ‹_› ‹_› rfl | exact n_lelt3 ‹_› ‹_› rfl | exact Int.natCast_nonneg _ | exact i_ngt rfl | exact i_ge ‹_› rfl | exact i_gt ‹_› rfl | exact i_gtn ‹_› rfl | exact i_gt64 ‹_› | exact i_lt ‹_› rfl | exact i_lt64 ‹_› rfl | exact i_lelt ‹_› rfl | exact i_le ‹_› rfl | exact i_ne ‹_› rfl | exact i_nlt ‹_› rfl | exact i_ltn ‹_› ‹_› rfl | exact i_ltn2 ‹_› ‹_› rfl | exact i_neg ‹_› | exact i_eqn ‹_› | exact i_succ ‹_› | exact Int.add_one_le_of_lt ‹_› | exact i_sub_less ‹_› ‹_› | exact i_sub_less2 ‹_› ‹_› ‹_› | exact n_sum ‹_› ‹_› ‹_› ‹_› rfl))
  k_with "k_mem" => (first | exact List.mem_cons_self | with_reducible assumption | (refine List.mem_cons_of_mem _ ?_; k_mem))
  k_with "k_all" => (exact AllNe.all (NInv.off (by with_reducible assumption) _ (by k_mem)))
  k_with "om" => ((with_reducible ((fail_if_success exact True.intro); (fail_if_success exact not_false); first | exact o_five | exact o_nn | exact o_fin6 ‹_› ‹_› | exact o_len1 ‹_› ‹_› ‹_› ‹_› | exact o_len2 ‹_› ‹_› ‹_› rfl | exact o_len0 ‹_› ‹_› | exact o_fs ‹_› ‹_› rfl | exact o_fs0 ‹_› ‹_› | exact lt_rp ‹_› ‹_› ‹_› (n_lt0 rfl) | exact lt_rp ‹_› ‹_› ‹_› (Nat.succ_pos _) | exact lt_rp ‹_› ‹_› ‹_› (o_pos ‹_›) | exact o_suc ‹_› ‹_› | exact o_two ‹_› ‹_› | exact o_eqs ‹_› ‹_› | exact o_i3 ‹_› ‹_› ‹_› | exact o_pos ‹_›)))
  k_with "pyIter ref" => (k_extra "my iter")
  exact True.intro
theorem mem_strs {v : Value} {a b c d : Str} {ta tb tc te : Tok} (h : v ∈ [Value.str a ta, .str b tb, .str c tc, .str d te]) : ∃ st t, v = .str st t ∧ st ∈ [a, b, c, d] := by
  simp only [List.mem_cons, List.not_mem_nil, or_false] at h ⊢
  rcases h with rfl | rfl | rfl | rfl
  · exact ⟨a, ta, rfl, .inl rfl⟩
  · exact ⟨b, tb, rfl, .inr (.inl rfl)⟩
  · exact ⟨c, tc, rfl, .inr (.inr (.inl rfl))⟩
  · exact ⟨d, te, rfl, .inr (.inr (.inr rfl))⟩

def Hold (p : Prop) : Prop := p
theorem Hold.out {p : Prop} (h : Hold p) : p := h
theorem Hold.mk {p : Prop} (h : p) : Hold p := h
theorem wd2_U1 : True := by
  k_with_none
  k_with "u lt" => (with_reducible (first | assumption | exact cl0 ‹_› | exact cl1 ‹_› | exact cl2 ‹_› | exact cl3 ‹_› | exact cl4 ‹_› | exact cl5 ‹_› | exact cl6 ‹_› | exact cl7 ‹_› | exact cl8 ‹_› | exact cl9 ‹_› | exact cl10 ‹_› | exact cl11 ‹_› | exact cr1 ‹_› | exact cr2 ‹_› | exact cr3 ‹_› | exact cr4 ‹_› | exact cr5 ‹_› | exact cr6 ‹_› | exact cr7 ‹_› | exact cr8 ‹_› | exact cr9 ‹_› | exact cr10 ‹_› | exact cr11 ‹_›))
  k_with "u room" => (first | exact room3 (by with_reducible assumption) rfl | exact room2 (by with_reducible assumption) rfl | exact room4 (by with_reducible assumption) rfl | exact room1 (by with_reducible assumption) | exact roomc (by with_reducible assumption) rfl | exact roome (by with_reducible assumption) rfl | exact roomd (by with_reducible assumption) rfl | exact roomn rfl | exact Nat.le_of_ble_eq_true rfl)
  k_with "call ref" => ((k_here; k_extra "ct"))
  k_with "u dp" => (((try simp only [depth_deeper, depth_in1, depth_caller]); (try dsimp only); first | walk_at "u room" | omega))
  k_with "u un" => (((try simp only [units_deeper, units_in1, units_caller]); (try dsimp only); first | walk_at "u room" | omega))
  k_with "u end" => (((try k_sweep); (try dsimp only); (try ((fail_if_success (with_reducible show wpAny _ _ _ _ _ _)); refine peel ?_)); (try k_fold)))
  k_with "u om" => (first | walk_at "u lt" | walk_at "u room" | exact Nat.le_of_ble_eq_true rfl | omega)
  k_with "k_ne" => (first | exact NeA.ne (by with_reducible assumption) | exact Ne.symm (NeA.ne (by with_reducible assumption)) | exact Nat.ne_of_gt (by walk_at "u lt") | exact Nat.ne_of_lt (by walk_at "u lt"))
  k_with "k_room" => (((try simp only [depth_under_make, depth_under_kw, depth_in1, depth_deeper, depth_caller, recursionLimit]); (try dsimp only); first | walk_at "u room" | omega))
  k_with "k_units" => (first | ((try simp only [units_in1, units_deeper, Around.mark_units, units_caller]); (try dsimp only); walk_at "u room") | (have hcL9 := cLine_is; (try simp only [units_in1, units_deeper, Around.mark_units, units_caller]); (try dsimp only); omega))
  k_with "om" => (with_reducible ((fail_if_success exact True.intro); (fail_if_success exact not_false); first | decide | exact n_lt0 rfl | exact n_le0 rfl | exact n_ltlt ‹_› rfl | exact n_lelt ‹_› rfl | exact n_lele ‹_› rfl | exact n_ltle ‹_› rfl | exact n_eqlt ‹_› rfl | exact n_lelt2 ‹_› ‹_› rfl | exact n_lelt3 ‹_› ‹_› rfl | exact Int.natCast_nonneg _ | exact i_ngt rfl | exact i_ge ‹_› rfl | exact i_gt ‹_› rfl | exact i_gtn ‹_› rfl | exact i_gt64 ‹_› | exact i_lt ‹_› rfl | exact i_lt64 ‹_› rfl | exact i_lelt ‹_› rfl | exact i_le ‹_› rfl | exact i_ne ‹_› rfl | exact i_nlt ‹_› rfl | exact i_ltn ‹_› ‹_› rfl | exact i_ltn2 ‹_› ‹_› rfl | exact i_neg ‹_› | exact i_eqn ‹_› | exact i_succ ‹_› | exact Int.add_one_le_of_lt ‹_› | exact i_sub_less ‹_› ‹_› | exact i_sub_less2 ‹_› ‹_› ‹_› | exact n_sum ‹_› ‹_› ‹_› ‹_› rfl))
  k_with "k_mem" => (first | exact List.mem_cons_self | with_reducible assumption | (refine List.mem_cons_of_mem _ ?_; k_mem))
  k_with "k_all" => (exact AllNe.all (NInv.off (by with_reducible assumption) _ (by k_mem)))
  k_with "om" => ((with_reducible ((fail_if_success exact True.intro); (fail_if_success exact not_false); first | exact o_five | exact o_nn | exact o_fin6 ‹_› ‹_› | exact o_len1 ‹_› ‹_› ‹_› ‹_› | exact o_len2 ‹_› ‹_› ‹_› rfl | exact o_len0 ‹_› ‹_› | exact o_fs ‹_› ‹_› rfl | exact o_fs0 ‹_› ‹_› | exact lt_rp ‹_› ‹_› ‹_› (n_lt0 rfl) | exact lt_rp ‹_› ‹_› ‹_› (Nat.succ_pos _) | exact lt_rp ‹_› ‹_› ‹_› (o_pos ‹_›) | exact o_suc ‹_› ‹_› | exact o_two ‹_› ‹_› | exact o_eqs ‹_› ‹_› | exact o_i3 ‹_› ‹_› ‹_› | exact o_pos ‹_›)))
  k_with "pyIter ref" => (k_extra "my iter")
  k_with "ct" => ((with_reducible show wpAny _ _ (call (Value.ref 409) [Value.ref _, Value.int _ _]) _ _ _); k_dflt (first | (refine wpAny_call ?_; refine' pick_code (by k_asm) (by k_asm) (by k_asm) (by k_asm) rfl rfl (by walk_at "u dp") (by walk_at "u un") (by exact List.forall_mem_cons.mpr ⟨(by k_asm : News _ _ _ _) _ (by k_mem), List.forall_mem_nil _⟩) (by walk_at "u om") (by walk_at "u om") (by walk_at "u om") (by walk_at "u om") (by walk_at "u om") ?_; k_whole; intro kp_q xp_q yp_q tkp_q t1p_q t2p_q hp_q tkq_q hkp0_q hkp1_q hxp_q hyp0_q hyp1_q kpp_q hbp_q; (have F_q := after_oneF (by k_asm) (by k_asm) (by k_mem) kpp_q); (have N_q := after_oneN (by k_asm) (by k_asm) (U := by k_upd) kpp_q hbp_q); walk_at "u end")))
  k_with "ct" => ((with_reducible show wpAny _ _ (call (Value.ref 416) [Value.ref _, Value.ref _]) _ _ _); k_dflt (first | (refine wpAny_call ?_; refine' one_code (by k_asm) (by k_asm) (by k_asm) (by k_asm) rfl rfl (by walk_at "u dp") (by walk_at "u un") (by exact List.forall_mem_cons.mpr ⟨(by k_asm : News _ _ _ _) _ (by k_mem), List.forall_mem_cons.mpr ⟨(by k_asm : News _ _ _ _) _ (by k_mem), List.forall_mem_nil _⟩⟩) (by (first | k_ne | omega)) (by walk_at "u om") (by walk_at "u om") (by walk_at "u om") (by (first | omega | decide | (simp only [List.length_cons, List.length_nil]; omega))) (by (first | omega | decide | (simp only [List.length_cons, List.length_nil]; omega))) ?_; k_whole; intro vp_q xp_q yp_q t1p_q t2p_q hp_q tkq_q hvp_q hxp_q hyp0_q hyp1_q kpp_q hbp_q; (have F_q := after_oneF (by k_asm) (by k_asm) (by k_mem) kpp_q); (have N_q := after_oneN (by k_asm) (by k_asm) (U := by k_upd) kpp_q hbp_q); walk_at "u end")))
  k_with "ct" => ((with_reducible show wpAny _ _ (call (Value.ref 416) [Value.ref _, Value.ref _]) _ _ _); k_dflt (first | (refine wpAny_call ?_; refine' one_code (by k_asm) (by k_asm) (by k_asm) (by k_asm) rfl rfl (by walk_at "u dp") (by walk_at "u un") (by exact List.forall_mem_cons.mpr ⟨(by k_asm : News _ _ _ _) _ (by k_mem), List.forall_mem_cons.mpr ⟨(by k_asm : News _ _ _ _) _ (by k_mem), List.forall_mem_nil _⟩⟩) (by (first | k_ne | omega)) (by walk_at "u om") (by walk_at "u om") (by walk_at "u om") (by (first | omega | decide | (simp only [List.length_cons, List.length_nil]; omega))) (by (first | omega | decide | (simp only [List.length_cons, List.length_nil]; omega))) ?_; k_whole; intro vp_q xp_q yp_q t1p_q t2p_q hp_q tkq_q hvp_q hxp_q hyp0_q hyp1_q kpp_q hbp_q; (have F_q := after_oneF (by k_asm) (by k_asm) (by k_mem) kpp_q); (have N_q := after_oneN (by k_asm) (by k_asm) (U := by k_upd) kpp_q hbp_q); (obtain ⟨so_q, to_q, eo_q, ho_q⟩ := mem_strs hvp_q); (subst eo_q); walk_at "u end")))
  k_with "ct" => ((with_reducible show wpAny _ _ (call (Value.ref 423) [Value.ref _]) _ _ _); k_dflt (first | (refine wpAny_call ?_; refine' word_code (by k_asm) (by k_asm) (by k_asm) (by k_asm) rfl rfl (by walk_at "u dp") (by walk_at "u un") (by exact List.forall_mem_cons.mpr ⟨(by k_asm : News _ _ _ _) _ (by k_mem), List.forall_mem_nil _⟩) (by walk_at "u om") (by walk_at "u om") (by walk_at "u om") ?_; k_whole; intro ap_q aq_q sp_q pp_q qp_q t0p_q t3p_q t4p_q xp_q yp_q t1p_q t2p_q hp_q tkq_q he1_q he2_q hbp_q kpp_q hn1_q hn2_q hwp_q hxp_q hyp0_q hyp1_q; (have F_q := after_oneF (by k_asm) (by k_asm) (by k_mem) kpp_q); (have N_q := after_oneN (by k_asm) (by k_asm) (U := by k_upd) kpp_q hbp_q); (have ne1_q := allNe_of hn1_q (by k_asm : News _ _ _ _)); (have ne2_q := allNe_of hn2_q (by k_asm : News _ _ _ _)); (replace N_q := new_entry (by k_asm) (new_entry (by k_asm) N_q hn2_q he2_q) hn1_q he1_q); (simp only [AllNe, and_true] at ne1_q ne2_q); (repeat (have _ := And.left ne1_q; replace ne1_q := And.right ne1_q)); (repeat (have _ := And.left ne2_q; replace ne2_q := And.right ne2_q)); walk_at "u end")))
  k_with "ct" => ((with_reducible show wpAny _ _ (call (Value.ref 248) [Value.ref _, Value.int _ _, _, _, _, _, _]) _ _ _); k_dflt (first | (refine wpAny_call ?_; refine' add_child_U (by k_asm) (by k_asm) (by k_asm) (by k_asm) rfl rfl (by walk_at "u dp") (by walk_at "u un") (by exact news_tled (by k_asm) (by with_reducible assumption) (fun p hp => by (repeat (first | exact hp | refine List.Mem.tail _ ?_)))) (by exact NInv.nd (by with_reducible assumption)) (by first | with_reducible assumption | omega | (simp only [List.length_append, List.length_set, List.length_cons, List.length_nil]; omega) | exact (by decide)) (by walk_at "u om") ?h4 ?h5 ?h6 ?h7 ?_; (case h4 => k_extra "lk"); (case h5 => first | exact rfl | with_reducible assumption); (case h6 => first | exact .inl rfl | exact .inr rfl); (case h7 => k_extra "kids"); k_whole; intro qp_q rp_q tp_q hp_q tkq_q rw_q hrw_q eH_q nd_q kp_q nw_q er_q; (obtain ⟨OL_q, F_q, N_q, I_q⟩ := nodes_after (by k_asm) (by k_asm) (by with_reducible assumption) (by (repeat' ((with_reducible show Sel _ _ _ _ _); (first | exact Sel.base | refine' Sel.keepT (by with_reducible rfl) ?_ | refine' Sel.keepN (by k_mem) ?_ | refine' Sel.drop ?_)))) (by (repeat (first | exact List.forall_mem_nil _ | refine List.forall_mem_cons.mpr ⟨⟨_, by k_mem⟩, ?_⟩))) eH_q nd_q kp_q nw_q); (have ti_q := NInv.ti I_q); (have tdi_q := NInv.tdi I_q); (try simp only [List.cons_append, List.nil_append] at N_q); (have len_q := lk_len hrw_q); (have ll_q := lk_last hrw_q er_q); (have ls_q := lk_set hrw_q (by k_extra "lk")); walk_at "u end")))
  k_with "ct" => ((with_reducible show wpAny _ _ (call (Value.ref 290) [Value.ref _, Value.int _ _, _, _, _, _]) _ _ _); k_dflt (first | (refine wpAny_call ?_; refine' set_attribute_U (by k_asm) (by k_asm) (by k_asm) (by k_asm) rfl rfl (by walk_at "u dp") (by walk_at "u un") (by exact news_tled (by k_asm) (by with_reducible assumption) (fun p hp => by (repeat (first | exact hp | refine List.Mem.tail _ ?_)))) (by exact NInv.nd (by with_reducible assumption)) (by first | with_reducible assumption | omega | (simp only [List.length_append, List.length_set, List.length_cons, List.length_nil]; omega) | exact (by decide)) (by walk_at "u om") ?h4 ?h5 ?h6 ?_; (case h4 => k_extra "lk"); (case h5 => first | exact rfl | with_reducible assumption); (case h6 => first | with_reducible assumption | exact rfl); k_whole; intro qp_q rp_q tp_q t3p_q hp_q tkq_q rw_q hrw_q eH_q nd_q kp_q nw_q er_q; (obtain ⟨OL_q, F_q, N_q, I_q⟩ := nodes_after (by k_asm) (by k_asm) (by with_reducible assumption) (by (repeat' ((with_reducible show Sel _ _ _ _ _); (first | exact Sel.base | refine' Sel.keepT (by with_reducible rfl) ?_ | refine' Sel.keepN (by k_mem) ?_ | refine' Sel.drop ?_)))) (by (repeat (first | exact List.forall_mem_nil _ | refine List.forall_mem_cons.mpr ⟨⟨_, by k_mem⟩, ?_⟩))) eH_q nd_q kp_q nw_q); (have ti_q := NInv.ti I_q); (have tdi_q := NInv.tdi I_q); (try simp only [List.cons_append, List.nil_append] at N_q); (have len_q := lk_len hrw_q); (have ll_q := lk_last hrw_q er_q); (have ls_q := lk_set hrw_q (by k_extra "lk")); walk_at "u end")))
  k_with "ct" => ((with_reducible show wpAny _ _ (call (Value.ref 227) [Value.ref _, _, _, _, _, _, _]) _ _ _); k_dflt (first | (refine wpAny_call ?_; refine' new_row_U (by k_asm) (by k_asm) (by k_asm) (by k_asm) rfl rfl (by walk_at "u dp") (by walk_at "u un") (by exact news_tled (by k_asm) (by with_reducible assumption) (fun p hp => by (repeat (first | exact hp | refine List.Mem.tail _ ?_)))) (by exact NInv.nd (by with_reducible assumption)) (by first | with_reducible assumption | omega | (simp only [List.length_append, List.length_set, List.length_cons, List.length_nil]; omega) | exact (by decide)) ?_; k_whole; intro qp_q rp_q tp_q hp_q tkq_q rw_q hrw_q eH_q nd_q kp_q nw_q er_q; (obtain ⟨OL_q, F_q, N_q, I_q⟩ := nodes_after (by k_asm) (by k_asm) (by with_reducible assumption) (by (repeat' ((with_reducible show Sel _ _ _ _ _); (first | exact Sel.base | refine' Sel.keepT (by with_reducible rfl) ?_ | refine' Sel.keepN (by k_mem) ?_ | refine' Sel.drop ?_)))) (by (repeat (first | exact List.forall_mem_nil _ | refine List.forall_mem_cons.mpr ⟨⟨_, by k_mem⟩, ?_⟩))) eH_q nd_q kp_q nw_q); (have ti_q := NInv.ti I_q); (have tdi_q := NInv.tdi I_q); (try simp only [List.cons_append, List.nil_append] at N_q); (have len_q := lk_len0 hrw_q); (have ll_q := lk_last0 hrw_q er_q); (try simp only [List.length_nil] at len_q er_q); walk_at "u end")))
  exact True.intro
theorem cat_small {a b : Str} {p q : Int} (h1 : (a, p, q) ∈ wordsT) (h2 : b ∈ othersT) : a.length + b.length ≤ sizeLine := by
  have e1 : ∀ z ∈ wordsT, z.1.length ≤ 4 := by decide
  have e2 : ∀ z ∈ othersT, z.length ≤ 3 := by decide
  have h4 : a.length ≤ 4 := e1 _ h1
  have h5 : b.length ≤ 3 := e2 _ h2
  have : 7 ≤ sizeLine := Nat.le_of_ble_eq_true rfl
  omega
inductive St1 (TL1 : Led) (fs : List Value) (node : Int) (rows1 : List RowD) (rtp : Int) (i : Nat) (rows : List RowD) (fs' : List Value) (TL : Led) : Prop
  | mk (c0 : TL1 = TL) (c1 : fs = fs') (c2 : node = (rows1.length : Int)) (c3 : Base rows1 rtp i 1 rows) (c4 : Elm rows node []) : St1 TL1 fs node rows1 rtp i rows fs' TL
inductive St2 (TL1 : Led) (fs : List Value) (a1 : Addr) (node : Int) (one : Str) (other : Str) (rows1 : List RowD) (rtp : Int) (i : Nat) (rows : List RowD) (fs' : List Value) (TL : Led) : Prop
  | mk (c0 : (∀ p ∈ TL1, p ∈ TL)) (c1 : fs' = fs ++ [.ref a1]) (c2 : Pend TL a1 node (one ++ other)) (c3 : Base rows1 rtp i 1 rows) (c4 : Elm rows node []) : St2 TL1 fs a1 node one other rows1 rtp i rows fs' TL
inductive St3 (TL1 : Led) (fs : List Value) (a1 : Addr) (a2 : Addr) (node : Int) (one : Str) (other : Str) (i1 : Int) (rows1 : List RowD) (rtp : Int) (i : Nat) (u1 : Tok) (rows : List RowD) (fs' : List Value) (TL : Led) : Prop
  | mk (c0 : (∀ p ∈ TL1, p ∈ TL)) (c1 : fs' = fs ++ [.ref a1, .ref a2]) (c2 : Pend TL a1 node (one ++ other)) (c3 : Pend TL a2 i1 one) (c4 : i1 = (rows1.length : Int) + 1) (c5 : Base rows1 rtp i 2 rows) (c6 : Elm rows node [.int i1 u1]) (c7 : TextRow rows i1 one) : St3 TL1 fs a1 a2 node one other i1 rows1 rtp i u1 rows fs' TL
inductive St4 (TL5 : Led) (fs5 : List Value) (kk : Nat) (rows1 : List RowD) (rtp : Int) (i : Nat) (i1 : Int) (one : Str) (node : Int) (inner : Int) (u1 : Tok) (rows : List RowD) (fs' : List Value) (TL : Led) : Prop
  | mk (c0 : TL5 = TL) (c1 : fs5 = fs') (c2 : 2 ≤ kk) (c3 : kk ≤ 3) (c4 : Base rows1 rtp i kk rows) (c5 : TextRow rows i1 one) (c6 : InnerOk rows node inner i1 u1) : St4 TL5 fs5 kk rows1 rtp i i1 one node inner u1 rows fs' TL
inductive St5 (TL1 : Led) (fs : List Value) (a1 : Addr) (a2 : Addr) (a3 : Addr) (node : Int) (one : Str) (other : Str) (i1 : Int) (i2 : Int) (rows1 : List RowD) (rtp : Int) (i : Nat) (kk : Nat) (rows : List RowD) (fs' : List Value) (TL : Led) : Prop
  | mk (c0 : (∀ p ∈ TL1, p ∈ TL)) (c1 : fs' = fs ++ [.ref a1, .ref a2, .ref a3]) (c2 : Pend TL a1 node (one ++ other)) (c3 : Pend TL a2 i1 one) (c4 : Pend TL a3 i2 other) (c5 : Base rows1 rtp i (kk + 1) rows) (c6 : TextRow rows i1 one) (c7 : TextRow rows i2 other) (c8 : node < i2) (c9 : Shape rows node i1 i2 [] True) : St5 TL1 fs a1 a2 a3 node one other i1 i2 rows1 rtp i kk rows fs' TL
inductive St6 (told : Str) (tp : Int) (tq : Int) (TL7 : Led) (fs7 : List Value) (rows7 : List RowD) (rows : List RowD) (fs' : List Value) (TL : Led) : Prop
  | mk (c0 : (told, tp, tq) ∈ wordsT) (c1 : TL7 = TL) (c2 : fs7 = fs') (c3 : rows7 = rows) : St6 told tp tq TL7 fs7 rows7 rows fs' TL
inductive St7 (TL1 : Led) (fs : List Value) (a1 : Addr) (a2 : Addr) (a3 : Addr) (a4 : Addr) (node : Int) (one : Str) (other : Str) (i1 : Int) (i2 : Int) (ia : Int) (told : Str) (rows1 : List RowD) (rtp : Int) (i : Nat) (kk : Nat) (rows : List RowD) (fs' : List Value) (TL : Led) : Prop
  | mk (c0 : (∀ p ∈ TL1, p ∈ TL)) (c1 : fs' = fs ++ [.ref a1, .ref a2, .ref a3, .ref a4]) (c2 : Pend TL a1 node (one ++ other)) (c3 : Pend TL a2 i1 one) (c4 : Pend TL a3 i2 other) (c5 : Pend TL a4 ia told) (c6 : Base rows1 rtp i (kk + 2) rows) (c7 : TextRow rows i1 one) (c8 : TextRow rows i2 other) (c9 : node < ia) (c10 : Lone rows ia told) (c11 : Shape rows node i1 i2 [] False) : St7 TL1 fs a1 a2 a3 a4 node one other i1 i2 ia told rows1 rtp i kk rows fs' TL
inductive St8 (told2 : Str) (tp2 : Int) (tq2 : Int) (TL9 : Led) (fs9 : List Value) (rows9 : List RowD) (rows : List RowD) (fs' : List Value) (TL : Led) : Prop
  | mk (c0 : (told2, tp2, tq2) ∈ wordsT) (c1 : TL9 = TL) (c2 : fs9 = fs') (c3 : rows9 = rows) : St8 told2 tp2 tq2 TL9 fs9 rows9 rows fs' TL
inductive St9 (TL1 : Led) (fs : List Value) (a1 : Addr) (a2 : Addr) (a3 : Addr) (a4 : Addr) (a5 : Addr) (node : Int) (one : Str) (other : Str) (i1 : Int) (i2 : Int) (ia : Int) (told : Str) (ic : Int) (told2 : Str) (rows1 : List RowD) (rtp : Int) (i : Nat) (kk : Nat) (uc : Tok) (rows : List RowD) (fs' : List Value) (TL : Led) : Prop
  | mk (c0 : (∀ p ∈ TL1, p ∈ TL)) (c1 : fs' = fs ++ [.ref a1, .ref a2, .ref a3, .ref a4, .ref a5]) (c2 : Pend TL a1 node (one ++ other)) (c3 : Pend TL a2 i1 one) (c4 : Pend TL a3 i2 other) (c5 : Pend TL a4 ia told) (c6 : Pend TL a5 ic told2) (c7 : Base rows1 rtp i (kk + 3) rows) (c8 : TextRow rows i1 one) (c9 : TextRow rows i2 other) (c10 : Lone rows ia told) (c11 : Lone rows ic told2) (c12 : ComRow rows ic) (c13 : Shape rows node i1 i2 [.int ic uc] False) : St9 TL1 fs a1 a2 a3 a4 a5 node one other i1 i2 ia told ic told2 rows1 rtp i kk uc rows fs' TL
theorem wd3_U1 : True := by
  k_with_none
  k_with "u lt" => (with_reducible (first | assumption | exact cl0 ‹_› | exact cl1 ‹_› | exact cl2 ‹_› | exact cl3 ‹_› | exact cl4 ‹_› | exact cl5 ‹_› | exact cl6 ‹_› | exact cl7 ‹_› | exact cl8 ‹_› | exact cl9 ‹_› | exact cl10 ‹_› | exact cl11 ‹_› | exact cr1 ‹_› | exact cr2 ‹_› | exact cr3 ‹_› | exact cr4 ‹_› | exact cr5 ‹_› | exact cr6 ‹_› | exact cr7 ‹_› | exact cr8 ‹_› | exact cr9 ‹_› | exact cr10 ‹_› | exact cr11 ‹_›))
  k_with "u room" => (first | exact room3 (by with_reducible assumption) rfl | exact room2 (by with_reducible assumption) rfl | exact room4 (by with_reducible assumption) rfl | exact room1 (by with_reducible assumption) | exact roomc (by with_reducible assumption) rfl | exact roome (by with_reducible assumption) rfl | exact roomd (by with_reducible assumption) rfl | exact roomn rfl | exact Nat.le_of_ble_eq_true rfl)
  k_with "call ref" => ((k_here; k_extra "ct"))
  k_with "u dp" => (((try simp only [depth_deeper, depth_in1, depth_caller]); (try dsimp only); first | walk_at "u room" | omega))
  k_with "u un" => (((try simp only [units_deeper, units_in1, units_caller]); (try dsimp only); first | walk_at "u room" | omega))
  k_with "u end" => (((try k_sweep); (try dsimp only); (try ((fail_if_success (with_reducible show wpAny _ _ _ _ _ _)); refine peel ?_)); (try k_fold)))
  k_with "u om" => (first | walk_at "u lt" | walk_at "u room" | exact Nat.le_of_ble_eq_true rfl | omega)
  k_with "k_ne" => (first | exact NeA.ne (by with_reducible assumption) | exact Ne.symm (NeA.ne (by with_reducible assumption)) | exact Nat.ne_of_gt (by walk_at "u lt") | exact Nat.ne_of_lt (by walk_at "u lt"))
  k_with "k_room" => (((try simp only [depth_under_make, depth_under_kw, depth_in1, depth_deeper, depth_caller, recursionLimit]); (try dsimp only); first | walk_at "u room" | omega))
  k_with "k_units" => (first | ((try simp only [units_in1, units_deeper, Around.mark_units, units_caller]); (try dsimp only); walk_at "u room") | (have hcL9 := cLine_is; (try simp only [units_in1, units_deeper, Around.mark_units, units_caller]); (try dsimp only); omega))
  k_with "om" => (with_reducible ((fail_if_success exact True.intro); (fail_if_success exact not_false); first | decide | exact n_lt0 rfl | exact n_le0 rfl | exact n_ltlt ‹_› rfl | exact n_lelt ‹_› rfl | exact n_lele ‹_› rfl | exact n_ltle ‹_› rfl | exact n_eqlt ‹_› rfl | exact n_lelt2 ‹_› ‹_› rfl | exact n_lelt3 ‹_› ‹_› rfl | exact Int.natCast_nonneg _ | exact i_ngt rfl | exact i_ge ‹_› rfl | exact i_gt ‹_› rfl | exact i_gtn ‹_› rfl | exact i_gt64 ‹_› | exact i_lt ‹_› rfl | exact i_lt64 ‹_› rfl | exact i_lelt ‹_› rfl | exact i_le ‹_› rfl | exact i_ne ‹_› rfl | exact i_nlt ‹_› rfl | exact i_ltn ‹_› ‹_› rfl | exact i_ltn2 ‹_› ‹_› rfl | exact i_neg ‹_› | exact i_eqn ‹_› | exact i_succ ‹_› | exact Int.add_one_le_of_lt ‹_› | exact i_sub_less ‹_› ‹_› | exact i_sub_less2 ‹_› ‹_› ‹_› | exact n_sum ‹_› ‹_› ‹_› ‹_› rfl))
  k_with "k_mem" => (first | exact List.mem_cons_self | with_reducible assumption | (refine List.mem_cons_of_mem _ ?_; k_mem))
  k_with "k_all" => (exact AllNe.all (NInv.off (by with_reducible assumption) _ (by k_mem)))
  k_with "om" => ((with_reducible ((fail_if_success exact True.intro); (fail_if_success exact not_false); first | exact o_five | exact o_nn | exact o_fin6 ‹_› ‹_› | exact o_len1 ‹_› ‹_› ‹_› ‹_› | exact o_len2 ‹_› ‹_› ‹_› rfl | exact o_len0 ‹_› ‹_› | exact o_fs ‹_› ‹_› rfl | exact o_fs0 ‹_› ‹_› | exact lt_rp ‹_› ‹_› ‹_› (n_lt0 rfl) | exact lt_rp ‹_› ‹_› ‹_› (Nat.succ_pos _) | exact lt_rp ‹_› ‹_› ‹_› (o_pos ‹_›) | exact o_suc ‹_› ‹_› | exact o_two ‹_› ‹_› | exact o_eqs ‹_› ‹_› | exact o_i3 ‹_› ‹_› ‹_› | exact o_pos ‹_›)))
  k_with "pyIter ref" => (k_extra "my iter")
  k_with "binaryOp Add str str" => ((k_here; (with_reducible show wpAny _ _ (binaryOp Operator.Add (Value.str _ _) (Value.str _ _)) _ _ _); refine add_str ?_ (cat_small (by with_reducible assumption) (by with_reducible assumption)); intro _ _))
  k_with "call builtin:list.append" => ((k_here; (with_reducible show wpAny _ _ (call (Value.builtin _) [Value.ref _, _]) _ _ _); k_dflt (refine' append_L ?k1_w5 ?k2_w5 ?k3_w5 ?k4_w5 ?_; (case k1_w5 => k_asm); (case k2_w5 => k_asm); (case k3_w5 => k_upd); (case k4_w5 => omega); k_whole; intro h_q F_q N_q; k_sweep)))
  k_with "newList" => (((with_reducible show wpAny _ _ (newList []) _ _ _); k_here; refine Hold.out ?_))
  k_with "call type:range" => ((k_here; (rename Fr _ _ _ _ => F_q); (rename News _ _ _ _ => N_q); (with_unfolding_all refine range1_rows F_q N_q ?_); intro _ _ _ _ _ rg_q _ _ _))
  k_with "ct" => ((with_reducible show wpAny _ _ (call (Value.ref 409) [Value.ref _, Value.int _ _]) _ _ _); k_dflt (first | (refine wpAny_call ?_; refine' pick_code (by k_asm) (by k_asm) (by k_asm) (by k_asm) rfl rfl (by walk_at "u dp") (by walk_at "u un") (by exact List.forall_mem_cons.mpr ⟨(by k_asm : News _ _ _ _) _ (by k_mem), List.forall_mem_nil _⟩) (by walk_at "u om") (by walk_at "u om") (by walk_at "u om") (by walk_at "u om") (by walk_at "u om") ?_; k_whole; intro kp_q xp_q yp_q tkp_q t1p_q t2p_q hp_q tkq_q hkp0_q hkp1_q hxp_q hyp0_q hyp1_q kpp_q hbp_q; (have F_q := after_oneF (by k_asm) (by k_asm) (by k_mem) kpp_q); (have N_q := after_oneN (by k_asm) (by k_asm) (U := by k_upd) kpp_q hbp_q); walk_at "u end")))
  k_with "ct" => ((with_reducible show wpAny _ _ (call (Value.ref 416) [Value.ref _, Value.ref _]) _ _ _); k_dflt (first | (refine wpAny_call ?_; refine' one_code (by k_asm) (by k_asm) (by k_asm) (by k_asm) rfl rfl (by walk_at "u dp") (by walk_at "u un") (by exact List.forall_mem_cons.mpr ⟨(by k_asm : News _ _ _ _) _ (by k_mem), List.forall_mem_cons.mpr ⟨(by k_asm : News _ _ _ _) _ (by k_mem), List.forall_mem_nil _⟩⟩) (by (first | k_ne | omega)) (by walk_at "u om") (by walk_at "u om") (by walk_at "u om") (by (first | omega | decide | (simp only [List.length_cons, List.length_nil]; omega))) (by (first | omega | decide | (simp only [List.length_cons, List.length_nil]; omega))) ?_; k_whole; intro vp_q xp_q yp_q t1p_q t2p_q hp_q tkq_q hvp_q hxp_q hyp0_q hyp1_q kpp_q hbp_q; (have F_q := after_oneF (by k_asm) (by k_asm) (by k_mem) kpp_q); (have N_q := after_oneN (by k_asm) (by k_asm) (U := by k_upd) kpp_q hbp_q); walk_at "u end")))
  k_with "ct" => ((with_reducible show wpAny _ _ (call (Value.ref 416) [Value.ref _, Value.ref _]) _ _ _); k_dflt (first | (refine wpAny_call ?_; refine' one_code (by k_asm) (by k_asm) (by k_asm) (by k_asm) rfl rfl (by walk_at "u dp") (by walk_at "u un") (by exact List.forall_mem_cons.mpr ⟨(by k_asm : News _ _ _ _) _ (by k_mem), List.forall_mem_cons.mpr ⟨(by k_asm : News _ _ _ _) _ (by k_mem), List.forall_mem_nil _⟩⟩) (by (first | k_ne | omega)) (by walk_at "u om") (by walk_at "u om") (by walk_at "u om") (by (first | omega | decide | (simp only [List.length_cons, List.length_nil]; omega))) (by (first | omega | decide | (simp only [List.length_cons, List.length_nil]; omega))) ?_; k_whole; intro vp_q xp_q yp_q t1p_q t2p_q hp_q tkq_q hvp_q hxp_q hyp0_q hyp1_q kpp_q hbp_q; (have F_q := after_oneF (by k_asm) (by k_asm) (by k_mem) kpp_q); (have N_q := after_oneN (by k_asm) (by k_asm) (U := by k_upd) kpp_q hbp_q); (obtain ⟨so_q, to_q, eo_q, ho_q⟩ := mem_strs hvp_q); (subst eo_q); walk_at "u end")))
  k_with "ct" => ((with_reducible show wpAny _ _ (call (Value.ref 423) [Value.ref _]) _ _ _); k_dflt (first | (refine wpAny_call ?_; refine' word_code (by k_asm) (by k_asm) (by k_asm) (by k_asm) rfl rfl (by walk_at "u dp") (by walk_at "u un") (by exact List.forall_mem_cons.mpr ⟨(by k_asm : News _ _ _ _) _ (by k_mem), List.forall_mem_nil _⟩) (by walk_at "u om") (by walk_at "u om") (by walk_at "u om") ?_; k_whole; intro ap_q aq_q sp_q pp_q qp_q t0p_q t3p_q t4p_q xp_q yp_q t1p_q t2p_q hp_q tkq_q he1_q he2_q hbp_q kpp_q hn1_q hn2_q hwp_q hxp_q hyp0_q hyp1_q; (have F_q := after_oneF (by k_asm) (by k_asm) (by k_mem) kpp_q); (have N_q := after_oneN (by k_asm) (by k_asm) (U := by k_upd) kpp_q hbp_q); (have ne1_q := allNe_of hn1_q (by k_asm : News _ _ _ _)); (have ne2_q := allNe_of hn2_q (by k_asm : News _ _ _ _)); (replace N_q := new_entry (by k_asm) (new_entry (by k_asm) N_q hn2_q he2_q) hn1_q he1_q); (simp only [AllNe, and_true] at ne1_q ne2_q); (repeat (have _ := And.left ne1_q; replace ne1_q := And.right ne1_q)); (repeat (have _ := And.left ne2_q; replace ne2_q := And.right ne2_q)); walk_at "u end")))
  k_with "ct" => ((with_reducible show wpAny _ _ (call (Value.ref 248) [Value.ref _, Value.int _ _, _, _, _, _, _]) _ _ _); k_dflt (first | (refine wpAny_call ?_; refine' add_child_U (by k_asm) (by k_asm) (by k_asm) (by k_asm) rfl rfl (by walk_at "u dp") (by walk_at "u un") (by exact news_tled (by k_asm) (by with_reducible assumption) (fun p hp => by (repeat (first | exact hp | refine List.Mem.tail _ ?_)))) (by exact NInv.nd (by with_reducible assumption)) (by first | with_reducible assumption | omega | (simp only [List.length_append, List.length_set, List.length_cons, List.length_nil]; omega) | exact (by decide)) (by walk_at "u om") ?h4 ?h5 ?h6 ?h7 ?_; (case h4 => k_extra "lk"); (case h5 => first | exact rfl | with_reducible assumption); (case h6 => first | exact .inl rfl | exact .inr rfl); (case h7 => k_extra "kids"); k_whole; intro qp_q rp_q tp_q hp_q tkq_q rw_q hrw_q eH_q nd_q kp_q nw_q er_q; (obtain ⟨OL_q, F_q, N_q, I_q⟩ := nodes_after (by k_asm) (by k_asm) (by with_reducible assumption) (by (repeat' ((with_reducible show Sel _ _ _ _ _); (first | exact Sel.base | refine' Sel.keepT (by with_reducible rfl) ?_ | refine' Sel.keepN (by k_mem) ?_ | refine' Sel.drop ?_)))) (by (repeat (first | exact List.forall_mem_nil _ | refine List.forall_mem_cons.mpr ⟨⟨_, by k_mem⟩, ?_⟩))) eH_q nd_q kp_q nw_q); (have ti_q := NInv.ti I_q); (have tdi_q := NInv.tdi I_q); (try simp only [List.cons_append, List.nil_append] at N_q); (have len_q := lk_len hrw_q); (have ll_q := lk_last hrw_q er_q); (have ls_q := lk_set hrw_q (by k_extra "lk")); walk_at "u end")))
  k_with "ct" => ((with_reducible show wpAny _ _ (call (Value.ref 290) [Value.ref _, Value.int _ _, _, _, _, _]) _ _ _); k_dflt (first | (refine wpAny_call ?_; refine' set_attribute_U (by k_asm) (by k_asm) (by k_asm) (by k_asm) rfl rfl (by walk_at "u dp") (by walk_at "u un") (by exact news_tled (by k_asm) (by with_reducible assumption) (fun p hp => by (repeat (first | exact hp | refine List.Mem.tail _ ?_)))) (by exact NInv.nd (by with_reducible assumption)) (by first | with_reducible assumption | omega | (simp only [List.length_append, List.length_set, List.length_cons, List.length_nil]; omega) | exact (by decide)) (by walk_at "u om") ?h4 ?h5 ?h6 ?_; (case h4 => k_extra "lk"); (case h5 => first | exact rfl | with_reducible assumption); (case h6 => first | with_reducible assumption | exact rfl); k_whole; intro qp_q rp_q tp_q t3p_q hp_q tkq_q rw_q hrw_q eH_q nd_q kp_q nw_q er_q; (obtain ⟨OL_q, F_q, N_q, I_q⟩ := nodes_after (by k_asm) (by k_asm) (by with_reducible assumption) (by (repeat' ((with_reducible show Sel _ _ _ _ _); (first | exact Sel.base | refine' Sel.keepT (by with_reducible rfl) ?_ | refine' Sel.keepN (by k_mem) ?_ | refine' Sel.drop ?_)))) (by (repeat (first | exact List.forall_mem_nil _ | refine List.forall_mem_cons.mpr ⟨⟨_, by k_mem⟩, ?_⟩))) eH_q nd_q kp_q nw_q); (have ti_q := NInv.ti I_q); (have tdi_q := NInv.tdi I_q); (try simp only [List.cons_append, List.nil_append] at N_q); (have len_q := lk_len hrw_q); (have ll_q := lk_last hrw_q er_q); (have ls_q := lk_set hrw_q (by k_extra "lk")); walk_at "u end")))
  k_with "ct" => ((with_reducible show wpAny _ _ (call (Value.ref 227) [Value.ref _, _, _, _, _, _, _]) _ _ _); k_dflt (first | (refine wpAny_call ?_; refine' new_row_U (by k_asm) (by k_asm) (by k_asm) (by k_asm) rfl rfl (by walk_at "u dp") (by walk_at "u un") (by exact news_tled (by k_asm) (by with_reducible assumption) (fun p hp => by (repeat (first | exact hp | refine List.Mem.tail _ ?_)))) (by exact NInv.nd (by with_reducible assumption)) (by first | with_reducible assumption | omega | (simp only [List.length_append, List.length_set, List.length_cons, List.length_nil]; omega) | exact (by decide)) ?_; k_whole; intro qp_q rp_q tp_q hp_q tkq_q rw_q hrw_q eH_q nd_q kp_q nw_q er_q; (obtain ⟨OL_q, F_q, N_q, I_q⟩ := nodes_after (by k_asm) (by k_asm) (by with_reducible assumption) (by (repeat' ((with_reducible show Sel _ _ _ _ _); (first | exact Sel.base | refine' Sel.keepT (by with_reducible rfl) ?_ | refine' Sel.keepN (by k_mem) ?_ | refine' Sel.drop ?_)))) (by (repeat (first | exact List.forall_mem_nil _ | refine List.forall_mem_cons.mpr ⟨⟨_, by k_mem⟩, ?_⟩))) eH_q nd_q kp_q nw_q); (have ti_q := NInv.ti I_q); (have tdi_q := NInv.tdi I_q); (try simp only [List.cons_append, List.nil_append] at N_q); (have len_q := lk_len0 hrw_q); (have ll_q := lk_last0 hrw_q er_q); (try simp only [List.length_nil] at len_q er_q); walk_at "u end")))
  exact True.intro
theorem law_nodes_code {w : World} {mean : ExcName → Option Value} {mg mb : Str → Option Value} {A₀ : Around} {dp un : Nat} {gd : Option (List Code)} {s : Shared} {base h₀ : Heap} {outer : List Env} {L : Addr} {m : Str → Option Value} {env : Env} {R : Result → Shared → Prop}
  (B : Below A₀ base outer h₀) (F : Fr h₀ L s.heap m) (X : (heapK w.params).In h₀) (T : Top viewK lo mean mg mb h₀) (hf : env.frame = some L) (hke : env.scope.kind = .function) {tr td rl : Addr} {tk0 : Tok} {en : Nat} {OL : Led} {b : Addr} {x y : Int} {t1 t2 : Tok} {n : Nat}
  (hdep : dp + 20 < 1000) (hun : un + 400 < 9900)
  (N : News h₀ L s.heap ((b, W.listOf #[.int x t1, .int y t2] n) :: OL)) (I0 : NInv w.params tr td rl tk0 OL [] en [] [b])
  (hx : 0 ≤ x) (hy0 : 0 ≤ y) (hy: y < 2147483647)
  (ret : ∀ (fd : Addr) (x' y' : Int) (t1' t2' : Tok) (n' : Nat) (fs : List Value) (e : Nat) (OL' TL : Led) (en' : Nat) (rows : List RowD) (nn : Nat) (h' : Heap) (tk' : Nat), Holds h' ((b, W.listOf #[.int x' t1', .int y' t2'] n') :: (fd, W.listOf fs.toArray e) :: OL') →
     NInv w.params tr td rl tk0 OL' TL en' rows [fd, b] → (∀ p ∈ ((fd, W.listOf fs.toArray e) :: OL' : Led), p.1 ∈ Keys OL ∨ s.heap.get? p.1 = none) → Keeps (b :: Keys OL) s.heap h' → 0 ≤ x' → 0 ≤ y' → y' < 2147483647 → NeA b fd → 1 ≤ nn → nn ≤ 3 →
     rows.length ≤ 2 + 6 * nn → fs.length = 5 * nn → (∀ v ∈ fs, FndOk TL rows v) → R (.ok (.ret (.ref fd))) { s with heap := h', toks := tk' }) :
  codeAny (model PySem.Challenge.rw_xm0671_01.row.prog w) (Around.mk none dp (some (env :: outer)) gd un) (.call (.ref 437) ⟨[.ref b, .ref tr], []⟩) R s := by
  k_dflt (refine' code_defG ?k1 ?k2 ?k3 ?k4 ?k5 ?kA ?kF ?kK ?k6 ?k7 ?k8 ?k9 ?kB ?_ ?c2 ?c3 ?c4 ?c5; (case kA => exact rfl); (case kF => exact hf); (case kK => exact hke); (case k1 => k_asm); (case k2 => k_asm); (case k3 => k_asm); (case k4 => k_asm); (case k5 => k_asm); (case k6 => k_is); (case k7 => k_is); (case k8 => (simp only [recursionLimit]; first | walk_at "u room" | omega)); (case k9 => first | exact BindsTo.of_eq rfl | exact binds_K (by k_in) rfl (by k_is) rfl rfl rfl | fail "k_enter: no rule for these arguments"); (case c5 => decide); (case kB => exact locs rfl); (case c2 => exact rfl); (case c3 => exact rfl); (case c4 => exact rfl); k_whole)
  intro g' L' h' FG' F' N' B' X' T' kG'
  try dsimp only
  try k_fold
  have ti' := I0.ti
  have tdi' := I0.tdi
  k_with "lk" => first | with_reducible assumption | exact lk_other (by with_reducible assumption) (by with_reducible assumption) (by first | exact NeA.ne (by with_reducible assumption) | exact Ne.symm (NeA.ne (by with_reducible assumption)) | omega)
  k_with "kids" => ((try dsimp only [newRow]); (try simp only [List.nil_append, List.cons_append, List.length_append, List.length_cons, List.length_nil]); omega)
  k_with "my iter" => refine Hold.out ?_
  k_steps
  refine Hold.mk ?_
  refine' newList_K ?k1 ?k2 ?_
  (case k1 => k_asm)
  (case k2 => k_asm)
  k_whole
  intro l' h' F' N' l1
  have i2' := NInv.add (by with_reducible assumption) l1 (fun p hp => by (repeat (first | exact hp | refine List.Mem.tail _ ?_)))
  have ne2' := NeA_of_lt (l1 _ (by k_mem) : @LT.lt Nat _ b l')
  k_lt l1
  k_sweep
  k_steps
  refine Hold.mk ?_
  rename IsRange _ _ _ _ _ _ _ _ => rg'
  rename Fr _ _ _ _ => lF'
  rename News _ _ _ _ => lN'
  rename (_ < (3 : Int)) => hk3
  rename NInv _ _ _ _ _ _ _ _ _ _ => I1'
  rename (_[Int.toNat _]? = some _) => hq1
  clear hq1
  rename (_[Int.toNat _]? = some _) => hq2
  rename (_ = ((List.length _ : Nat) : Int)) => er1'
  obtain ⟨nn, e1', e2', e2a', e3', e4'⟩ := range_bd (by with_reducible assumption) hk3
  refine range_loop (NJ w.params tr td rl tk0 b _ _ _) rfl rg' e3' e4' lF' (news_two lN' (by k_mem) (by k_mem) (fun p hp => by (repeat (first | exact hp | refine List.Mem.tail _ ?_)))) (NJ_start I1' (by with_reducible assumption) (by with_reducible assumption) (by with_reducible assumption) ne2' ?ln hq2 rfl rfl) ?turn ?done
  case ln => omega
  case turn =>
    intro i I oI v m₁ news₁ h2 tk2 hin hJ hoff F1 N1
    obtain ⟨⟨u, rfl⟩, x1, y1, t1', t2', n1, fs, e1, OL1, TL1, en1, rows1, rt1, kt1, rfl, I2, hx1, hy01, hy1, hne1, hl1, hl2, hr1, hk1, hs1, hfs1, hfo1⟩ := hJ
    change Fr g' L' h2 _ at F1
    change News g' L' h2 _ at N1
    replace hoff := show NeA b I ∧ NeA l' I ∧ AllNe I OL1 from hoff
    obtain ⟨ho1, ho2, ho3⟩ := hoff
    obtain ⟨rt2', rt0'⟩ := rt_lt er1' (by omega)
    have hi3 : i < 3 := by omega
    replace I2 := I2.addA ho3
    repeat (rename Keeps _ _ _ => zz; clear zz)
    repeat (rename Holds _ _ => zz; clear zz)
    repeat (rename (∀ a, a ∈ Keys _ → _) => zz; clear zz)
    repeat (rename (Keys _).Nodup => zz; clear zz)
    repeat (rename (_ = _ ++ [newRow _ _ _ _ _ _ _]) => zz; clear zz)
    have ti1' := NInv.ti I2
    have tdi1' := NInv.tdi I2
    refine seqF F1 hr1 (fun m0 rtp s' => ∃ node tn one tone p q other tot, (one, p, q) ∈ wordsT ∧ other ∈ othersT ∧ Mid w.params g' L' s tr td rl tk0 b l' I oI n1
      (fun y => if y = Str.ofString "node" then some (.int node tn) else if y = Str.ofString "one" then some (.str one tone) else if y = Str.ofString "other" then some (.str other tot) else m0 y)
      (fun rows fs' TL => St1 TL1 fs node rows1 rtp i rows fs' TL) s') ?w0 ?k0
    case w0 =>
      k_steps
      rename Fr g' L' _ _ => zF
      rename News g' L' _ _ => zN
      rename NInv _ _ _ _ _ _ _ _ _ _ => zI
      rename ((_, _, _) ∈ wordsT) => zw
      rename ((_ : Str) ∈ [_, _, _, _]) => zo
      rename (_ = List.set _ _ _ ++ [_]) => zr
      rename (_ = ((List.length _ : Nat) : Int)) => ze
      refine ⟨rfl, _, _, _, _, _, _, _, _, zw, zo, _, _, _, _, _, _, _, _, _, _, _, _, zF, news_three zN (by k_mem) (by k_mem) (by k_mem) (fun p hp => by (repeat (first | exact hp | refine List.Mem.tail _ ?_))), zI, (by assumption), (by assumption), (by assumption), rfl, rfl, ze, Base.start _ hr1 hk1 hs1 rt2' zr rfl (by simp), Elm.last zr ze rfl rfl rfl⟩
    case k0 =>
      rintro s' ⟨node, tn, one, tone, p, q, other, tot, hone, hother, h3, tk3, x3, y3, t13, t23, fs3, e3, OL3, TL3, en3, rows3, F3, N3, I3, hx3, hy03, hy3, rfl, rfl, hnode, hB3, hE3⟩
      have ti2 := NInv.ti I3
      have tdi2 := NInv.tdi I3
      clear F1 N1 I2 ti1' tdi1' ho3 hk1 hs1 hx1 hy01 hy1
      have hlen3 := hB3.len
      have hn2 : 2 ≤ node := by omega
      have hn0 : 0 ≤ node := Int.le_trans (by decide) hn2
      have hrt1 := Nat.lt_of_lt_of_le rt2' (by with_reducible assumption : 2 ≤ rows1.length)
      have hnr0 : (rows1.length : Int) ≤ node := Int.le_of_eq hnode.symm
      refine seqF F3 hr1 (fun m0 rtp s' => ∃ a1, Mid w.params g' L' s tr td rl tk0 b l' I oI n1 m0 (fun rows fs' TL => St2 TL1 fs a1 node one other rows1 rtp i rows fs' TL) s') ?w1 ?k1
      case w1 =>
        k_steps
        rename Fr g' L' _ _ => zF
        rename News g' L' _ _ => zN
        rename NInv _ _ _ _ _ _ _ _ _ _ => zI
        obtain ⟨zN2, zI2, zP⟩ := close_push zN zI (by walk_at "u om") (by walk_at "u om") (by walk_at "u om") (by k_mem) (by k_mem) (by k_mem) (fun p hp => by (repeat (first | exact hp | refine List.Mem.tail _ ?_)))
        exact ⟨rfl, _, _, _, _, _, _, _, _, _, _, _, _, _, zF, zN2, zI2, (by assumption), (by assumption), (by assumption), sub_tail (fun _ h => h), rfl, zP, hB3, hE3⟩
      case k1 =>
      rintro s' ⟨a1, h4, tk4, x4, y4, t14, t24, fs4, e4, OL4, TL4, en4, rows4, F4, N4, I4, hx4, hy04, hy4, hs4, hfs4, hP4, hB4, hE4⟩
      clear F3 N3 I3 ti2 tdi2 hB3 hE3 hlen3 hx3 hy03 hy3
      have ti2 := NInv.ti I4
      have tdi2 := NInv.tdi I4
      have hlen4 := hB4.len
      have hfl4 : fs4.length = 5 * i + 1 := by rw [hfs4, List.length_append, hfs1]; rfl
      obtain ⟨nr, nkt, hnr, hnk, hnkids, hnat⟩ := hE4
      have hnl : nr.kids.length = 0 := by rw [hnkids]; rfl
      refine seqF F4 hr1 (fun m0 rtp s' => ∃ a2 i1 u1, Mid w.params g' L' s tr td rl tk0 b l' I oI n1 m0 (fun rows fs' TL => St3 TL1 fs a1 a2 node one other i1 rows1 rtp i u1 rows fs' TL) s') ?w2 ?k2
      case w2 =>
        k_steps
        rename Fr g' L' _ _ => zF
        rename News g' L' _ _ => zN
        rename NInv _ _ _ _ _ _ _ _ _ _ => zI
        rename (_ = List.set _ _ _ ++ [_]) => zr
        rename (_ = ((List.length _ : Nat) : Int)) => ze
        obtain ⟨zN2, zI2, zP⟩ := close_push zN zI (by walk_at "u om") (by walk_at "u om") (by walk_at "u om") (by k_mem) (by k_mem) (by k_mem) (fun p hp => by (repeat (first | exact hp | refine List.Mem.tail _ ?_)))
        exact ⟨rfl, _, _, _, _, _, _, _, _, _, _, _, _, _, _, _, zF, zN2, zI2, (by assumption), (by assumption), (by assumption), sub_tail hs4, by rw [hfs4, List.append_assoc]; rfl, hP4.more (sub_tail fun _ h => h), zP, by omega, Base.more hB4 (by first | with_reducible assumption | omega) (by first | with_reducible assumption | omega) (by first | with_reducible assumption | omega) zr, Elm.set zr hnr hnk (by rw [hnkids]; rfl) hnat, TextRow.last zr ze (by first | exact two_le ze (by with_reducible assumption) (by with_reducible assumption) | omega) rfl rfl rfl⟩
      case k2 =>
      rintro s' ⟨a2, i1, u1, h5, tk5, x5, y5, t15, t25, fs5, e5, OL5, TL5, en5, rows5, F5, N5, I5, hx5, hy05, hy5, hs5, hfs5, hP5, hQ5, hi1, hB5, hE5, hT5⟩
      have dn1 : NeA i1.toNat node.toNat := ix_next hnode hi1
      clear F4 N4 I4 ti2 tdi2 hB4 hlen4 hnr hnk hnkids hnat hnl hs4 hfl4 hfs4 hP4 hx4 hy04 hy4
      have ti2 := NInv.ti I5
      have tdi2 := NInv.tdi I5
      have hlen5 := hB5.len
      have hE5' := hE5
      obtain ⟨nr, nkt, hnr, hnk, hnkids, hnat⟩ := hE5
      have hnl : nr.kids.length = 1 := by rw [hnkids]; rfl
      refine seqF F5 hr1 (fun m0 rtp s' => ∃ inner tin kk, Mid w.params g' L' s tr td rl tk0 b l' I oI n1 (fun y => if y = Str.ofString "inner" then some (.int inner tin) else m0 y) (fun rows fs' TL => St4 TL5 fs5 kk rows1 rtp i i1 one node inner u1 rows fs' TL) s') ?w3 ?k3
      case w3 =>
        k_steps
        all_goals (rename Fr g' L' _ _ => zF; rename News g' L' _ _ => zN; rename NInv _ _ _ _ _ _ _ _ _ _ => zI)
        · rename (_ = List.set _ _ _ ++ [_]) => zr
          rename (_ = ((List.length _ : Nat) : Int)) => ze
          exact ⟨rfl, _, _, 3, _, _, _, _, _, _, _, _, _, _, _, _, zF, news_three zN (by k_mem) (by k_mem) (by k_mem) (fun p hp => by (repeat (first | exact hp | refine List.Mem.tail _ ?_))), zI, (by assumption), (by assumption), (by assumption), rfl, rfl, by decide, by decide, Base.more hB5 (by first | with_reducible assumption | omega) (by first | with_reducible assumption | omega) (by first | with_reducible assumption | omega) zr, TextRow.other hT5 (by first | k_ne | omega) zr, .inr ⟨by omega, Elm.last zr ze rfl rfl rfl, _, Elm.set zr hnr hnk (by rw [hnkids]; rfl) hnat⟩⟩
        · exact ⟨rfl, _, _, 2, _, _, _, _, _, _, _, _, _, _, _, _, zF, news_three zN (by k_mem) (by k_mem) (by k_mem) (fun p hp => by (repeat (first | exact hp | refine List.Mem.tail _ ?_))), zI, (by assumption), (by assumption), (by assumption), rfl, rfl, by decide, by decide, hB5, hT5, .inl ⟨rfl, hE5'⟩⟩
      case k3 =>
      rintro s' ⟨inner, tin, kk, h6, tk6, x6, y6, t16, t26, fs6, e6, OL6, TL6, en6, rows6, F6, N6, I6, hx6, hy06, hy6, rfl, rfl, hkk2, hkk3, hB6, hT6, hO6⟩
      clear F5 N5 I5 ti2 tdi2 hB5 hE5' hlen5 hnr hnk hnkids hnat hnl hT5 hx5 hy05 hy5
      have ti2 := NInv.ti I6
      have tdi2 := NInv.tdi I6
      have hlen6 := hB6.len
      have hfl5 : fs5.length = 5 * i + 2 := by rw [hfs5, List.length_append, hfs1]; rfl
      obtain ⟨nr, nkt, hnr, hnk, hnl⟩ := hO6.get
      have hin0 : node ≤ inner := by rcases hO6 with h | h; exact Int.le_of_eq h.1.symm; exact Int.le_of_lt h.1
      have hin1 : inner ≠ i1 := by
        rcases hO6 with h | ⟨_, h, _⟩
        · omega
        · rintro rfl
          obtain ⟨_, r, _, _, hr, hk, _⟩ := hT6
          obtain ⟨r2, _, hr2, hk2, _⟩ := h
          rw [hr] at hr2; cases hr2
          rw [hk] at hk2; cases hk2
      have hin : 0 ≤ inner := Int.le_trans hn0 hin0
      have hinr : (rows1.length : Int) ≤ inner := Int.le_trans hnr0 hin0
      have hi0 : 0 ≤ i1 := by rw [hi1]; omega
      have dn2 : NeA i1.toNat inner.toNat := ix_apart hi0 hin hin1
      refine seqF F6 hr1 (fun m0 rtp s' => ∃ a3 i2, Mid w.params g' L' s tr td rl tk0 b l' I oI n1 m0 (fun rows fs' TL => St5 TL1 fs a1 a2 a3 node one other i1 i2 rows1 rtp i kk rows fs' TL) s') ?w4 ?k4
      case w4 =>
        k_steps
        rename Fr g' L' _ _ => zF
        rename News g' L' _ _ => zN
        rename NInv _ _ _ _ _ _ _ _ _ _ => zI
        rename (_ = List.set _ _ _ ++ [_]) => zr
        rename (_ = ((List.length _ : Nat) : Int)) => ze
        obtain ⟨zN2, zI2, zP⟩ := close_push zN zI (by walk_at "u om") (by walk_at "u om") (by walk_at "u om") (by k_mem) (by k_mem) (by k_mem) (fun p hp => by (repeat (first | exact hp | refine List.Mem.tail _ ?_)))
        exact ⟨rfl, _, _, _, _, _, _, _, _, _, _, _, _, _, _, zF, zN2, zI2, (by assumption), (by assumption), (by assumption), sub_tail hs5, by rw [hfs5, List.append_assoc]; rfl, hP5.more (sub_tail fun _ h => h), hQ5.more (sub_tail fun _ h => h), zP, Base.more hB6 (by first | with_reducible assumption | omega) (by first | with_reducible assumption | omega) (by first | with_reducible assumption | omega) zr, TextRow.other hT6 (by first | k_ne | omega) zr, TextRow.last zr ze (by first | exact two_le ze (by with_reducible assumption) (by with_reducible assumption) | omega) rfl rfl rfl, by first | exact lt_rp hnode ze (by with_reducible assumption) (by omega) | omega, hO6.shape hn2 hnr zr⟩
      case k4 =>
      rintro s' ⟨a3, i2, h7, tk7, x7, y7, t17, t27, fs7, e7, OL7, TL7, en7, rows7, F7, N7, I7, hx7, hy07, hy7, hs7, hfs7, hP7, hQ7, hR7, hB7, hT7, hU7, hi2, hS7⟩
      clear F6 N6 I6 ti2 tdi2 hB6 hlen6 hnr hnk hnl hT6 hO6 hs5 hfs5 hfl5 hP5 hQ5 hin0 hin1 hin hinr dn2 hx6 hy06 hy6
      have ti2 := NInv.ti I7
      have tdi2 := NInv.tdi I7
      have hlen7 := hB7.len
      have hK7 : rows7.length < 1000 := len_ok hlen7 (by with_reducible assumption) hi3 hkk3 rfl
      have dn3 : NeA i2.toNat node.toNat := ix_above hn0 hi2
      refine seqF F7 hr1 (fun m0 rtp s' => ∃ told ttd tp tq, Mid w.params g' L' s tr td rl tk0 b l' I oI n1 (fun y => if y = Str.ofString "told" then some (.str told ttd) else m0 y) (fun rows fs' TL => St6 told tp tq TL7 fs7 rows7 rows fs' TL) s') ?w5 ?k5
      case w5 =>
        k_steps
        rename Fr g' L' _ _ => zF
        rename News g' L' _ _ => zN
        rename NInv _ _ _ _ _ _ _ _ _ _ => zI
        rename ((_, _, _) ∈ wordsT) => zw
        exact ⟨rfl, _, _, _, _, _, _, _, _, _, _, _, _, _, _, _, _, zF, news_three zN (by k_mem) (by k_mem) (by k_mem) (fun p hp => by (repeat (first | exact hp | refine List.Mem.tail _ ?_))), zI, (by assumption), (by assumption), (by assumption), zw, rfl, rfl, rfl⟩
      case k5 =>
      rintro s' ⟨told, ttd, tp, tq, h8, tk8, x8, y8, t18, t28, fs8, e8, OL8, TL8, en8, rows8, F8, N8, I8, hx8, hy08, hy8, hword, rfl, rfl, rfl⟩
      clear F7 N7 I7 ti2 tdi2 hx7 hy07 hy7
      have ti2 := NInv.ti I8
      have tdi2 := NInv.tdi I8
      have hfl7 : fs7.length = 5 * i + 3 := by rw [hfs7, List.length_append, hfs1]; rfl
      obtain ⟨nr, nkt, hnr, hnk, hnat⟩ := hS7.get
      refine seqF F8 hr1 (fun m0 rtp s' => ∃ a4 ia, Mid w.params g' L' s tr td rl tk0 b l' I oI n1 m0 (fun rows fs' TL => St7 TL1 fs a1 a2 a3 a4 node one other i1 i2 ia told rows1 rtp i kk rows fs' TL) s') ?w6 ?k6
      case w6 =>
        k_steps
        rename Fr g' L' _ _ => zF
        rename News g' L' _ _ => zN
        rename NInv _ _ _ _ _ _ _ _ _ _ => zI
        rename (_ = List.set _ _ _ ++ [_]) => zr
        rename (_ = ((List.length _ : Nat) : Int)) => ze
        obtain ⟨zN2, zI2, zP⟩ := close_push zN zI (by walk_at "u om") (by walk_at "u om") (by walk_at "u om") (by k_mem) (by k_mem) (by k_mem) (fun p hp => by (repeat (first | exact hp | refine List.Mem.tail _ ?_)))
        exact ⟨rfl, _, _, _, _, _, _, _, _, _, _, _, _, _, _, zF, zN2, zI2, (by assumption), (by assumption), (by assumption), sub_tail hs7, by rw [hfs7, List.append_assoc]; rfl, hP7.more (sub_tail fun _ h => h), hQ7.more (sub_tail fun _ h => h), hR7.more (sub_tail fun _ h => h), zP, Base.more hB7 (by first | with_reducible assumption | omega) (by first | with_reducible assumption | omega) (by first | with_reducible assumption | omega) zr, TextRow.other hT7 (by first | k_ne | omega) zr, TextRow.other hU7 (by first | k_ne | omega) zr, by omega, Lone.last zr ze (by first | exact two_le ze (by with_reducible assumption) (by with_reducible assumption) | omega) rfl (by simp) rfl, hS7.turn hn2 hnr zr rfl (by simp)⟩
      case k6 =>
      rintro s' ⟨a4, ia, h9, tk9, x9, y9, t19, t29, fs9, e9, OL9, TL9, en9, rows9, F9, N9, I9, hx9, hy09, hy9, hs9, hfs9, hP9, hQ9, hR9, hV9, hB9, hT9, hU9, hia, hL9, hS9⟩
      clear F8 N8 I8 ti2 tdi2 hB7 hlen7 hnr hnk hnat hT7 hU7 hS7 hs7 hfs7 hfl7 hP7 hQ7 hR7 hx8 hy08 hy8
      have ti2 := NInv.ti I9
      have tdi2 := NInv.tdi I9
      have hlen9 := hB9.len
      have hK9 : rows9.length < 1000 := len_ok hlen9 (by with_reducible assumption) hi3 hkk3 rfl
      have dn4 : NeA ia.toNat node.toNat := ix_above hn0 hia
      refine seqF F9 hr1 (fun m0 rtp s' => ∃ told2 ttd2 tp2 tq2, Mid w.params g' L' s tr td rl tk0 b l' I oI n1 (fun y => if y = Str.ofString "told" then some (.str told2 ttd2) else m0 y) (fun rows fs' TL => St8 told2 tp2 tq2 TL9 fs9 rows9 rows fs' TL) s') ?w7 ?k7
      case w7 =>
        k_steps
        rename Fr g' L' _ _ => zF
        rename News g' L' _ _ => zN
        rename NInv _ _ _ _ _ _ _ _ _ _ => zI
        rename ((_, _, _) ∈ wordsT) => zw
        exact ⟨rfl, _, _, _, _, _, _, _, _, _, _, _, _, _, _, _, _, zF, news_three zN (by k_mem) (by k_mem) (by k_mem) (fun p hp => by (repeat (first | exact hp | refine List.Mem.tail _ ?_))), zI, (by assumption), (by assumption), (by assumption), zw, rfl, rfl, rfl⟩
      case k7 =>
      rintro s' ⟨told2, ttd2, tp2, tq2, h10, tk10, x10, y10, t110, t210, fs10, e10, OL10, TL10, en10, rows10, F10, N10, I10, hx10, hy010, hy10, hword2, rfl, rfl, rfl⟩
      clear F9 N9 I9 ti2 tdi2 hx9 hy09 hy9
      have ti2 := NInv.ti I10
      have tdi2 := NInv.tdi I10
      have hfl9 : fs9.length = 5 * i + 4 := by rw [hfs9, List.length_append, hfs1]; rfl
      obtain ⟨nr, nkt, hnr, hnk, hnl⟩ := hS9.get2
      refine seqF F10 hr1 (fun m0 rtp s' => ∃ a5 ic uc, Mid w.params g' L' s tr td rl tk0 b l' I oI n1 m0 (fun rows fs' TL => St9 TL1 fs a1 a2 a3 a4 a5 node one other i1 i2 ia told ic told2 rows1 rtp i kk uc rows fs' TL) s') ?w8 ?k8
      case w8 =>
        k_steps
        rename Fr g' L' _ _ => zF
        rename News g' L' _ _ => zN
        rename NInv _ _ _ _ _ _ _ _ _ _ => zI
        rename (_ = List.set _ _ _ ++ [_]) => zr
        rename (_ = ((List.length _ : Nat) : Int)) => ze
        obtain ⟨zN2, zI2, zP⟩ := close_push zN zI (by walk_at "u om") (by walk_at "u om") (by walk_at "u om") (by k_mem) (by k_mem) (by k_mem) (fun p hp => by (repeat (first | exact hp | refine List.Mem.tail _ ?_)))
        exact ⟨rfl, _, _, _, _, _, _, _, _, _, _, _, _, _, _, _, zF, zN2, zI2, (by assumption), (by assumption), (by assumption), sub_tail hs9, by rw [hfs9, List.append_assoc]; rfl, hP9.more (sub_tail fun _ h => h), hQ9.more (sub_tail fun _ h => h), hR9.more (sub_tail fun _ h => h), hV9.more (sub_tail fun _ h => h), zP, Base.more hB9 (by first | with_reducible assumption | omega) (by first | with_reducible assumption | omega) (by first | with_reducible assumption | omega) zr, TextRow.other hT9 (by first | k_ne | omega) zr, TextRow.other hU9 (by first | k_ne | omega) zr, Lone.other hL9 (by first | k_ne | omega) zr, Lone.last zr ze (by first | exact two_le ze (by with_reducible assumption) (by with_reducible assumption) | omega) rfl (by simp) rfl, ComRow.last zr ze (by first | exact two_le ze (by with_reducible assumption) (by with_reducible assumption) | omega) rfl rfl, hS9.turn hn2 hnr zr rfl rfl⟩
      case k8 =>
      rintro s' ⟨a5, ic, uc, h11, tk11, x11, y11, t111, t211, fs11, e11, OL11, TL11, en11, rows11, F11, N11, I11, hx11, hy011, hy11, hs11, hfs11, hP11, hQ11, hR11, hV11, hW11, hB11, hT11, hU11, hL11, hM11, hC11, hS11⟩
      clear F10 N10 I10 ti2 tdi2 hx10 hy010 hy10
      refine wpAny_execs_nil ⟨rfl, h11, tk11, _, _, rfl, F11, N11, ⟨?ne1, ?ne2, I11.off _ (by k_mem)⟩, ?nj⟩
      case ne1 => exact ho1
      case ne2 => exact ho2
      case nj =>
        obtain ⟨rt2, kt2, hr2, hk2, hl2'⟩ := hB11.top
        refine ⟨names_end ?nm, x11, y11, t111, t211, n1, fs11, e11, OL11, TL11, en11, rows11, rt2, kt2, rfl, I11.fewer (fun a ha => .tail _ ha), hx11, hy011, hy11, hne1, ?l1, ?l2, hr2, hk2, hl2', ?l3, ?fo⟩
        case nm =>
          intro z hz
          simp only [turnNames, List.contains_cons, List.contains_nil, Bool.or_false, Bool.or_eq_false_iff, beq_eq_false_iff_ne, ne_eq] at hz
          obtain ⟨z1, z2, z3, z4, z5, z6⟩ := hz
          simp only [z1, z2, z3, z4, z5, z6, if_false, turnNames, List.contains_cons, List.contains_nil, Bool.or_false, beq_eq_false_iff_ne.mpr, ne_eq, not_false_eq_true, Bool.false_eq_true]
        case l1 => rw [hB11.len]; omega
        case l2 => rw [hB11.len]; omega
        case l3 => rw [hfs11, List.length_append, hfs1]; simp only [List.length_cons, List.length_nil]; omega
        case fo =>
          intro vv hvv
          rw [hfs11] at hvv
          rcases List.mem_append.mp hvv with hvv | hvv
          · exact (hfo1 vv hvv).more hs11 hB11.st
          · simp only [List.mem_cons, List.not_mem_nil, or_false] at hvv
            rcases hvv with rfl | rfl | rfl | rfl | rfl
            · exact hP11.ok (hS11.sv hn2 hT11 hU11 hC11) (text_cat hone hother)
            · exact hQ11.ok hT11.sv (text_word hone)
            · exact hR11.ok hU11.sv (text_other hother)
            · exact hV11.ok hL11.sv (text_word hword)
            · exact hW11.ok hM11.sv (text_word hword2)
  case done =>
    intro m₁ nx h2 tk2 hJ F1 N1
    change Fr g' L' h2 _ at F1
    change News g' L' h2 _ at N1
    obtain ⟨⟨u, rfl⟩, x1, y1, t1', t2', n1, fs, e1, OL1, TL1, en1, rows1, rt1, kt1, rfl, I2, hx1, hy01, hy1, hne1, hl1, hl2, hr1, hk1, hs1, hfs1, hfo1⟩ := hJ
    dsimp only
    k_steps
    rename Fr g' L' _ _ => zF
    rename News g' L' _ _ => zN
    exact ret l' x1 y1 _ _ n1 fs e1 OL1 TL1 en1 rows1 nn _ _ (fun p hp => (zN p hp).1) I2 (nodes_new kG' zN hne1 (I2.off _ (by k_mem))) (keeps_of kG' zF) hx1 hy01 hy1 hne1 e2a' e2' hl1 hfs1 hfo1

end
section

theorem notin_lt {d : Addr} : ∀ {l : Led}, AllLt d l → d ∉ l.map (·.1)
  | [], _, h => nomatch h
  | p :: r, h, e => by
    rcases List.mem_cons.mp e with e | e
    · exact Nat.lt_irrefl _ (e ▸ h.1)
    · exact notin_lt h.2 e
theorem notin_ne {d : Addr} {l : Led} (h : AllNe d l) : d ∉ l.map (·.1) := fun e => by
  obtain ⟨p, hp, e⟩ := List.mem_map.mp e
  exact h.all p hp e
theorem kind_U {w : World} {mean : ExcName → Option Value} {mg mb : Str → Option Value} {A₀ : Around} {dp un : Nat} {gd : Option (List Code)} {s : Shared} {base h₀ : Heap} {outer : List Env} {L : Addr} {m : Str → Option Value} {env : Env} {R : Result → Shared → Prop}
  (B : Below A₀ base outer h₀) (F : Fr h₀ L s.heap m) (X : (heapK w.params).In h₀) (T : Top viewK lo mean mg mb h₀) (hf : env.frame = some L) (hke : env.scope.kind = .function) {tr td rl : Addr} {tk0 : Tok} {en : Nat} {OL TL : Led} {rows : List RowD} {as : List Addr} {k : Int} {t : Tok} {r : RowD} {st : Str} {t2 : Tok}
  (hdep : dp + 6 < 1000) (hun : un + 48 < 9900)
  (I : NInv w.params tr td rl tk0 OL TL en rows as) (N : News h₀ L s.heap OL) (hl : rows.length < 1000) (hk : 0 ≤ k) (hkr : rows[k.toNat]? = some r) (hkind : r.kind = .str st t2)
  (ret : ∀ (h' : Heap) (tk' : Nat), Keeps [] s.heap h' → R (.ok (.ret (.str st t2))) { s with heap := h', toks := tk' }) :
  codeAny (model PySem.Challenge.rw_xm0671_01.row.prog w) (Around.mk none dp (some (env :: outer)) gd un) (.call (.ref 311) ⟨[.ref tr, .int k t], []⟩) R s :=
  kind_code B F X T hf hke hdep hun (news_of N fun p hp => I.tree p (sub8 (List.mem_of_getElem? hkr) p hp)) (by simpa using hl) hk (by rw [List.getElem?_map, hkr]; rfl) hkind ret
theorem value_U {w : World} {mean : ExcName → Option Value} {mg mb : Str → Option Value} {A₀ : Around} {dp un : Nat} {gd : Option (List Code)} {s : Shared} {base h₀ : Heap} {outer : List Env} {L : Addr} {m : Str → Option Value} {env : Env} {R : Result → Shared → Prop}
  (B : Below A₀ base outer h₀) (F : Fr h₀ L s.heap m) (X : (heapK w.params).In h₀) (T : Top viewK lo mean mg mb h₀) (hf : env.frame = some L) (hke : env.scope.kind = .function) {tr td rl : Addr} {tk0 : Tok} {en : Nat} {OL TL : Led} {rows : List RowD} {as : List Addr} {k : Int} {t : Tok} {r : RowD} {st : Str} {t2 : Tok}
  (hdep : dp + 6 < 1000) (hun : un + 48 < 9900)
  (I : NInv w.params tr td rl tk0 OL TL en rows as) (N : News h₀ L s.heap OL) (hl : rows.length < 1000) (hk : 0 ≤ k) (hkr : rows[k.toNat]? = some r) (hval : r.value = .str st t2)
  (ret : ∀ (h' : Heap) (tk' : Nat), Keeps [] s.heap h' → R (.ok (.ret (.str st t2))) { s with heap := h', toks := tk' }) :
  codeAny (model PySem.Challenge.rw_xm0671_01.row.prog w) (Around.mk none dp (some (env :: outer)) gd un) (.call (.ref 339) ⟨[.ref tr, .int k t], []⟩) R s :=
  value_code B F X T hf hke hdep hun (news_of N fun p hp => I.tree p (sub8 (List.mem_of_getElem? hkr) p hp)) (by simpa using hl) hk (by rw [List.getElem?_map, hkr]; rfl) hval ret
theorem children_U {w : World} {mean : ExcName → Option Value} {mg mb : Str → Option Value} {A₀ : Around} {dp un : Nat} {gd : Option (List Code)} {s : Shared} {base h₀ : Heap} {outer : List Env} {L : Addr} {m : Str → Option Value} {env : Env} {R : Result → Shared → Prop}
  (B : Below A₀ base outer h₀) (F : Fr h₀ L s.heap m) (X : (heapK w.params).In h₀) (T : Top viewK lo mean mg mb h₀) (hf : env.frame = some L) (hke : env.scope.kind = .function) {tr td rl : Addr} {tk0 : Tok} {en : Nat} {OL TL : Led} {rows : List RowD} {as : List Addr} {k : Int} {t : Tok} {r : RowD} {kids : List Value}
  (hdep : dp + 6 < 1000) (hun : un + 48 < 9900)
  (I : NInv w.params tr td rl tk0 OL TL en rows as) (N : News h₀ L s.heap OL) (hl : rows.length < 1000) (hk : 0 ≤ k) (hkr : rows[k.toNat]? = some r) (hkids : r.kids = kids) (hkl : kids.length < 1000)
  (ret : ∀ (l : Addr) (e : Nat) (h' : Heap) (tk' : Nat), h'.get? l = some (W.listOf kids.toArray e) → Keeps [] s.heap h' → s.heap.get? l = none → R (.ok (.ret (.ref l))) { s with heap := h', toks := tk' }) :
  codeAny (model PySem.Challenge.rw_xm0671_01.row.prog w) (Around.mk none dp (some (env :: outer)) gd un) (.call (.ref 353) ⟨[.ref tr, .int k t], []⟩) R s :=
  children_code B F X T hf hke hdep hun (news_of N fun p hp => I.tree p (sub8 (List.mem_of_getElem? hkr) p hp)) (by simpa using hl) hk (by rw [List.getElem?_map, hkr]; rfl) (by rw [hkids]; exact hkl) (by subst hkids; exact ret)

theorem wd1_V1 : True := by
  k_with_none
  k_with "u lt" => (with_reducible (first | assumption | exact cl0 ‹_› | exact cl1 ‹_› | exact cl2 ‹_› | exact cl3 ‹_› | exact cl4 ‹_› | exact cl5 ‹_› | exact cl6 ‹_› | exact cl7 ‹_› | exact cl8 ‹_› | exact cl9 ‹_› | exact cl10 ‹_› | exact cl11 ‹_› | exact cr1 ‹_› | exact cr2 ‹_› | exact cr3 ‹_› | exact cr4 ‹_› | exact cr5 ‹_› | exact cr6 ‹_› | exact cr7 ‹_› | exact cr8 ‹_› | exact cr9 ‹_› | exact cr10 ‹_› | exact cr11 ‹_›))
  k_with "u room" => (first | exact room3 (by with_reducible assumption) rfl | exact room2 (by with_reducible assumption) rfl | exact room4 (by with_reducible assumption) rfl | exact room1 (by with_reducible assumption) | exact roomc (by with_reducible assumption) rfl | exact roome (by with_reducible assumption) rfl | exact roomd (by with_reducible assumption) rfl | exact roomn rfl | exact Nat.le_of_ble_eq_true rfl)
  k_with "call ref" => ((k_here; k_extra "ct"))
  k_with "u dp" => (((try simp only [depth_deeper, depth_in1, depth_caller]); (try dsimp only); first | walk_at "u room" | omega))
  k_with "u un" => (((try simp only [units_deeper, units_in1, units_caller]); (try dsimp only); first | walk_at "u room" | omega))
  k_with "u end" => (((try k_sweep); (try dsimp only); (try ((fail_if_success (with_reducible show wpAny _ _ _ _ _ _)); refine peel ?_)); (try k_fold)))
  k_with "u om" => (first | walk_at "u lt" | walk_at "u room" | exact Nat.le_of_ble_eq_true rfl | omega)
  k_with "k_ne" => (first | exact NeA.ne (by with_reducible assumption) | exact Ne.symm (NeA.ne (by with_reducible assumption)) | exact Nat.ne_of_gt (by walk_at "u lt") | exact Nat.ne_of_lt (by walk_at "u lt"))
  k_with "k_room" => (((try simp only [depth_under_make, depth_under_kw, depth_in1, depth_deeper, depth_caller, recursionLimit]); (try dsimp only); first | walk_at "u room" | omega))
  k_with "k_units" => (first | ((try simp only [units_in1, units_deeper, Around.mark_units, units_caller]); (try dsimp only); walk_at "u room") | (have hcL9 := cLine_is; (try simp only [units_in1, units_deeper, Around.mark_units, units_caller]); (try dsimp only); omega))
  k_with "om" => (with_reducible ((fail_if_success exact True.intro); (fail_if_success exact not_false); first | decide | exact n_lt0 rfl | exact n_le0 rfl | exact n_ltlt ‹_› rfl | exact n_lelt ‹_› rfl | exact n_lele ‹_› rfl | exact n_ltle ‹_› rfl | exact n_eqlt ‹_› rfl | exact n_lelt2 ‹_› ‹_› rfl | exact n_lelt3 ‹_› ‹_› rfl | exact Int.natCast_nonneg _ | exact i_ngt rfl | exact i_ge ‹_› rfl | exact i_gt ‹_› rfl | exact i_gtn ‹_› rfl | exact i_gt64 ‹_› | exact i_lt ‹_› rfl | exact i_lt64 ‹_› rfl | exact i_lelt ‹_› rfl | exact i_le ‹_› rfl | exact i_ne ‹_› rfl | exact i_nlt ‹_› rfl | exact i_ltn ‹_› ‹_› rfl | exact i_ltn2 ‹_› ‹_› rfl | exact i_neg ‹_› | exact i_eqn ‹_› | exact i_succ ‹_› | exact Int.add_one_le_of_lt ‹_› | exact i_sub_less ‹_› ‹_› | exact i_sub_less2 ‹_› ‹_› ‹_› | exact n_sum ‹_› ‹_› ‹_› ‹_› rfl))
  k_with "k_mem" => (first | exact List.mem_cons_self | with_reducible assumption | (refine List.mem_cons_of_mem _ ?_; k_mem))
  k_with "k_all" => (exact AllNe.all (NInv.off (by with_reducible assumption) _ (by k_mem)))
  k_with "k_all" => (exact AllNe.all (by with_reducible assumption))
  k_with "ct" => ((with_reducible show wpAny _ _ (call (Value.ref 234) [Value.ref _, Value.int _ _]) _ _ _); k_dflt (first | (refine wpAny_call ?_; refine' row_code (by k_asm) (by k_asm) (by k_asm) (by k_asm) rfl rfl (by walk_at "u dp") (by walk_at "u un") (by exact List.forall_mem_cons.mpr ⟨(by k_asm : News _ _ _ _) _ (by k_mem), List.forall_mem_cons.mpr ⟨(by k_asm : News _ _ _ _) _ (by k_mem), List.forall_mem_cons.mpr ⟨(by k_asm : News _ _ _ _) _ (by k_mem), List.forall_mem_nil _⟩⟩⟩) (by walk_at "u om") (by walk_at "u om") (by with_reducible assumption) ?_; k_whole; intro hp_q tkq_q kpp_q; (have F_q := after_noneF (by k_asm) kpp_q); (have N_q := after_noneN (by k_asm) kpp_q); walk_at "u end")))
  k_with "ct" => ((with_reducible show wpAny _ _ (call (Value.ref 353) [Value.ref _, Value.int _ _]) _ _ _); k_dflt (first | (refine wpAny_call ?_; refine' children_U (by k_asm) (by k_asm) (by k_asm) (by k_asm) rfl rfl (by walk_at "u dp") (by walk_at "u un") (by with_reducible assumption) ?n ?h1 ?h2 ?h3 ?h4 ?h5 ?_; (case n => exact news_of (by k_asm) (fun p hp => by (repeat (first | exact hp | exact (by k_extra "sub") | refine List.Mem.tail _ ?_)))); (case h1 => first | with_reducible assumption | omega | (simp only [List.length_append, List.length_set, List.length_cons, List.length_nil]; omega) | exact (by decide)); (case h2 => walk_at "u om"); (case h3 => k_extra "lk"); (case h4 => with_reducible assumption); (case h5 => simp only [List.length_cons, List.length_nil]; omega); k_whole; intro lp_q ep_q hp_q tkq_q hep_q kpp_q hn1_q; (have F_q := after_noneF (by k_asm) kpp_q); (have N_q := after_noneN (by k_asm) kpp_q); (have ne1_q := allNe_of hn1_q (by k_asm : News _ _ _ _)); (replace N_q := new_entry (by k_asm) N_q hn1_q hep_q); (simp only [AllNe, and_true] at ne1_q); (repeat (have _ := And.left ne1_q; replace ne1_q := And.right ne1_q)); walk_at "u end")))
  exact True.intro
theorem beneath_A {w : World} {mean : ExcName → Option Value} {mg mb : Str → Option Value} {A₀ : Around} {dp un : Nat} {gd : Option (List Code)} {s : Shared} {base h₀ : Heap} {outer : List Env} {L : Addr} {m : Str → Option Value} {env : Env} {R : Result → Shared → Prop}
  (B : Below A₀ base outer h₀) (F : Fr h₀ L s.heap m) (X : (heapK w.params).In h₀) (T : Top viewK lo mean mg mb h₀) (hf : env.frame = some L) (hke : env.scope.kind = .function) {tr td rl : Addr} {tk0 : Tok} {en : Nat} {OL TL : Led} {rows : List RowD} {as : List Addr} {n : Int} {t : Tok} {r r1 r2 r3 : RowD} {i1 i2 i3 : Int} {u1 u2 u3 : Tok}
  (hdep : dp + 9 < 1000) (hun : un + 200 < 9900)
  (I : NInv w.params tr td rl tk0 OL TL en rows as) (N : News h₀ L s.heap OL) (hl : rows.length < 1000) (h0 : 0 ≤ n) (hr : rows[n.toNat]? = some r) (hk : r.kids = [.int i1 u1, .int i2 u2, .int i3 u3])
  (h1 : 0 ≤ i1) (hr1 : rows[i1.toNat]? = some r1) (hk1 : r1.kids = []) (h2 : 0 ≤ i2) (hr2 : rows[i2.toNat]? = some r2) (hk2 : r2.kids = []) (h3 : 0 ≤ i3) (hr3 : rows[i3.toNat]? = some r3) (hk3 : r3.kids = [])
  (ret : ∀ (l : Addr) (e : Nat) (h' : Heap) (tk' : Nat), h'.get? l = some (W.listOf #[.int i1 u1, .int i2 u2, .int i3 u3] e) → Keeps [] s.heap h' → s.heap.get? l = none → R (.ok (.ret (.ref l))) { s with heap := h', toks := tk' }) :
  codeAny (model PySem.Challenge.rw_xm0671_01.row.prog w) (Around.mk none dp (some (env :: outer)) gd un) (.call (.ref 109) ⟨[.ref tr, .int n t], []⟩) R s := by
  k_dflt (refine' code_defG ?k1 ?k2 ?k3 ?k4 ?k5 ?kA ?kF ?kK ?k6 ?k7 ?k8 ?k9 ?kB ?_ ?c2 ?c3 ?c4 ?c5; (case kA => exact rfl); (case kF => exact hf); (case kK => exact hke); (case k1 => k_asm); (case k2 => k_asm); (case k3 => k_asm); (case k4 => k_asm); (case k5 => k_asm); (case k6 => k_is); (case k7 => k_is); (case k8 => (simp only [recursionLimit]; first | walk_at "u room" | omega)); (case k9 => first | exact BindsTo.of_eq rfl | exact binds_K (by k_in) rfl (by k_is) rfl rfl rfl | fail "k_enter: no rule for these arguments"); (case c5 => decide); (case kB => exact locs rfl); (case c2 => exact rfl); (case c3 => exact rfl); (case c4 => exact rfl); k_whole)
  intro g' L' h' FG' F' N' B' X' T' kG'
  try dsimp only
  try k_fold
  have ti2 := I.ti
  have tdi2 := I.tdi
  k_with "lk" => with_reducible assumption
  k_steps
  rename Fr g' L' _ _ => zF
  rename News g' L' _ _ => zN
  exact ret _ _ _ _ (zN.get (by k_mem)) (keeps_but kG' N zF zN (fun p hp => .inr (by (repeat (first | exact hp | refine List.Mem.tail _ ?_))))) (fresh_of kG' zN (by k_mem) (notin_lt (allLt_of (by with_reducible assumption))))
theorem wd2_V1 : True := by
  k_with_none
  k_with "u lt" => (with_reducible (first | assumption | exact cl0 ‹_› | exact cl1 ‹_› | exact cl2 ‹_› | exact cl3 ‹_› | exact cl4 ‹_› | exact cl5 ‹_› | exact cl6 ‹_› | exact cl7 ‹_› | exact cl8 ‹_› | exact cl9 ‹_› | exact cl10 ‹_› | exact cl11 ‹_› | exact cr1 ‹_› | exact cr2 ‹_› | exact cr3 ‹_› | exact cr4 ‹_› | exact cr5 ‹_› | exact cr6 ‹_› | exact cr7 ‹_› | exact cr8 ‹_› | exact cr9 ‹_› | exact cr10 ‹_› | exact cr11 ‹_›))
  k_with "u room" => (first | exact room3 (by with_reducible assumption) rfl | exact room2 (by with_reducible assumption) rfl | exact room4 (by with_reducible assumption) rfl | exact room1 (by with_reducible assumption) | exact roomc (by with_reducible assumption) rfl | exact roome (by with_reducible assumption) rfl | exact roomd (by with_reducible assumption) rfl | exact roomn rfl | exact Nat.le_of_ble_eq_true rfl)
  k_with "call ref" => ((k_here; k_extra "ct"))
  k_with "u dp" => (((try simp only [depth_deeper, depth_in1, depth_caller]); (try dsimp only); first | walk_at "u room" | omega))
  k_with "u un" => (((try simp only [units_deeper, units_in1, units_caller]); (try dsimp only); first | walk_at "u room" | omega))
  k_with "u end" => (((try k_sweep); (try dsimp only); (try ((fail_if_success (with_reducible show wpAny _ _ _ _ _ _)); refine peel ?_)); (try k_fold)))
  k_with "u om" => (first | walk_at "u lt" | walk_at "u room" | exact Nat.le_of_ble_eq_true rfl | omega)
  k_with "k_ne" => (first | exact NeA.ne (by with_reducible assumption) | exact Ne.symm (NeA.ne (by with_reducible assumption)) | exact Nat.ne_of_gt (by walk_at "u lt") | exact Nat.ne_of_lt (by walk_at "u lt"))
  k_with "k_room" => (((try simp only [depth_under_make, depth_under_kw, depth_in1, depth_deeper, depth_caller, recursionLimit]); (try dsimp only); first | walk_at "u room" | omega))
  k_with "k_units" => (first | ((try simp only [units_in1, units_deeper, Around.mark_units, units_caller]); (try dsimp only); walk_at "u room") | (have hcL9 := cLine_is; (try simp only [units_in1, units_deeper, Around.mark_units, units_caller]); (try dsimp only); omega))
  k_with "om" => (with_reducible ((fail_if_success exact True.intro); (fail_if_success exact not_false); first | decide | exact n_lt0 rfl | exact n_le0 rfl | exact n_ltlt ‹_› rfl | exact n_lelt ‹_› rfl | exact n_lele ‹_› rfl | exact n_ltle ‹_› rfl | exact n_eqlt ‹_› rfl | exact n_lelt2 ‹_› ‹_› rfl | exact n_lelt3 ‹_› ‹_› rfl | exact Int.natCast_nonneg _ | exact i_ngt rfl | exact i_ge ‹_› rfl | exact i_gt ‹_› rfl | exact i_gtn ‹_› rfl | exact i_gt64 ‹_› | exact i_lt ‹_› rfl | exact i_lt64 ‹_› rfl | exact i_lelt ‹_› rfl | exact i_le ‹_› rfl | exact i_ne ‹_› rfl | exact i_nlt ‹_› rfl | exact i_ltn ‹_› ‹_› rfl | exact i_ltn2 ‹_› ‹_› rfl | exact i_neg ‹_› | exact i_eqn ‹_› | exact i_succ ‹_› | exact Int.add_one_le_of_lt ‹_› | exact i_sub_less ‹_› ‹_› | exact i_sub_less2 ‹_› ‹_› ‹_› | exact n_sum ‹_› ‹_› ‹_› ‹_› rfl))
  k_with "k_mem" => (first | exact List.mem_cons_self | with_reducible assumption | (refine List.mem_cons_of_mem _ ?_; k_mem))
  k_with "k_all" => (exact AllNe.all (NInv.off (by with_reducible assumption) _ (by k_mem)))
  k_with "k_all" => (exact AllNe.all (by with_reducible assumption))
  k_with "ct" => ((with_reducible show wpAny _ _ (call (Value.ref 234) [Value.ref _, Value.int _ _]) _ _ _); k_dflt (first | (refine wpAny_call ?_; refine' row_code (by k_asm) (by k_asm) (by k_asm) (by k_asm) rfl rfl (by walk_at "u dp") (by walk_at "u un") (by exact List.forall_mem_cons.mpr ⟨(by k_asm : News _ _ _ _) _ (by k_mem), List.forall_mem_cons.mpr ⟨(by k_asm : News _ _ _ _) _ (by k_mem), List.forall_mem_cons.mpr ⟨(by k_asm : News _ _ _ _) _ (by k_mem), List.forall_mem_nil _⟩⟩⟩) (by walk_at "u om") (by walk_at "u om") (by with_reducible assumption) ?_; k_whole; intro hp_q tkq_q kpp_q; (have F_q := after_noneF (by k_asm) kpp_q); (have N_q := after_noneN (by k_asm) kpp_q); walk_at "u end")))
  k_with "ct" => ((with_reducible show wpAny _ _ (call (Value.ref 353) [Value.ref _, Value.int _ _]) _ _ _); k_dflt (first | (refine wpAny_call ?_; refine' children_U (by k_asm) (by k_asm) (by k_asm) (by k_asm) rfl rfl (by walk_at "u dp") (by walk_at "u un") (by with_reducible assumption) ?n ?h1 ?h2 ?h3 ?h4 ?h5 ?_; (case n => exact news_of (by k_asm) (fun p hp => by (repeat (first | exact hp | exact (by k_extra "sub") | refine List.Mem.tail _ ?_)))); (case h1 => first | with_reducible assumption | omega | (simp only [List.length_append, List.length_set, List.length_cons, List.length_nil]; omega) | exact (by decide)); (case h2 => walk_at "u om"); (case h3 => k_extra "lk"); (case h4 => with_reducible assumption); (case h5 => simp only [List.length_cons, List.length_nil]; omega); k_whole; intro lp_q ep_q hp_q tkq_q hep_q kpp_q hn1_q; (have F_q := after_noneF (by k_asm) kpp_q); (have N_q := after_noneN (by k_asm) kpp_q); (have ne1_q := allNe_of hn1_q (by k_asm : News _ _ _ _)); (replace N_q := new_entry (by k_asm) N_q hn1_q hep_q); (simp only [AllNe, and_true] at ne1_q); (repeat (have _ := And.left ne1_q; replace ne1_q := And.right ne1_q)); walk_at "u end")))
  exact True.intro
theorem beneath_B {w : World} {mean : ExcName → Option Value} {mg mb : Str → Option Value} {A₀ : Around} {dp un : Nat} {gd : Option (List Code)} {s : Shared} {base h₀ : Heap} {outer : List Env} {L : Addr} {m : Str → Option Value} {env : Env} {R : Result → Shared → Prop}
  (B : Below A₀ base outer h₀) (F : Fr h₀ L s.heap m) (X : (heapK w.params).In h₀) (T : Top viewK lo mean mg mb h₀) (hf : env.frame = some L) (hke : env.scope.kind = .function) {tr td rl : Addr} {tk0 : Tok} {en : Nat} {OL TL : Led} {rows : List RowD} {as : List Addr} {n : Int} {t : Tok} {r r1 r2 r3 r4 : RowD} {i1 i2 i3 i4 : Int} {u1 u2 u3 u4 : Tok}
  (hdep : dp + 9 < 1000) (hun : un + 200 < 9900)
  (I : NInv w.params tr td rl tk0 OL TL en rows as) (N : News h₀ L s.heap OL) (hl : rows.length < 1000) (h0 : 0 ≤ n) (hr : rows[n.toNat]? = some r) (hk : r.kids = [.int i1 u1, .int i2 u2, .int i3 u3])
  (h1 : 0 ≤ i1) (hr1 : rows[i1.toNat]? = some r1) (hk1 : r1.kids = []) (h2 : 0 ≤ i2) (hr2 : rows[i2.toNat]? = some r2) (hk2 : r2.kids = [.int i4 u4]) (h3 : 0 ≤ i3) (hr3 : rows[i3.toNat]? = some r3) (hk3 : r3.kids = []) (h4 : 0 ≤ i4) (hr4 : rows[i4.toNat]? = some r4) (hk4 : r4.kids = [])
  (ret : ∀ (l : Addr) (e : Nat) (h' : Heap) (tk' : Nat), h'.get? l = some (W.listOf #[.int i1 u1, .int i2 u2, .int i4 u4, .int i3 u3] e) → Keeps [] s.heap h' → s.heap.get? l = none → R (.ok (.ret (.ref l))) { s with heap := h', toks := tk' }) :
  codeAny (model PySem.Challenge.rw_xm0671_01.row.prog w) (Around.mk none dp (some (env :: outer)) gd un) (.call (.ref 109) ⟨[.ref tr, .int n t], []⟩) R s := by
  k_dflt (refine' code_defG ?k1 ?k2 ?k3 ?k4 ?k5 ?kA ?kF ?kK ?k6 ?k7 ?k8 ?k9 ?kB ?_ ?c2 ?c3 ?c4 ?c5; (case kA => exact rfl); (case kF => exact hf); (case kK => exact hke); (case k1 => k_asm); (case k2 => k_asm); (case k3 => k_asm); (case k4 => k_asm); (case k5 => k_asm); (case k6 => k_is); (case k7 => k_is); (case k8 => (simp only [recursionLimit]; first | walk_at "u room" | omega)); (case k9 => first | exact BindsTo.of_eq rfl | exact binds_K (by k_in) rfl (by k_is) rfl rfl rfl | fail "k_enter: no rule for these arguments"); (case c5 => decide); (case kB => exact locs rfl); (case c2 => exact rfl); (case c3 => exact rfl); (case c4 => exact rfl); k_whole)
  intro g' L' h' FG' F' N' B' X' T' kG'
  try dsimp only
  try k_fold
  have ti2 := I.ti
  have tdi2 := I.tdi
  k_with "lk" => with_reducible assumption
  k_steps
  rename Fr g' L' _ _ => zF
  rename News g' L' _ _ => zN
  exact ret _ _ _ _ (zN.get (by k_mem)) (keeps_but kG' N zF zN (fun p hp => .inr (by (repeat (first | exact hp | refine List.Mem.tail _ ?_))))) (fresh_of kG' zN (by k_mem) (notin_lt (allLt_of (by with_reducible assumption))))

end
section

theorem notin_two {prog : Program} {w : World} {A : Around} {E : Value → Shared → Prop} {s : Shared} {h₀ : Heap} {L t : Addr} {news : Led} {x a b : Str} {u u1 u2 : Tok} {k : Nat} {d : Option Addr} {sl : Array (Option Value)} {c : Bool} {Q : Value → Shared → Prop} (N : News h₀ L s.heap news)
    (hm : (t, { cls := .type "tuple", dict := d, data := .seq #[Value.str a u1, Value.str b u2] k, slots := sl }) ∈ news) (hb : (!([a, b].any (· == x))) = c) (h : Q (.bool c) s) : wpAny (model prog w) A (compareOp .NotIn (.str x u) (.ref t)) Q E s :=
  notin_tuple_strs (N.isTup hm) (.cons _ _ (.cons _ _ .nil)) (by rw [hb]; exact h)
theorem kinds_plain {ks : Str} (h : ks ∈ [Str.ofString "text", Str.ofString "comment", Str.ofString "attribute"]) : (!([Str.ofString "root", Str.ofString "element"].any (· == ks))) = true := by
  simp only [List.mem_cons, List.not_mem_nil, or_false] at h
  rcases h with rfl | rfl | rfl <;> decide +kernel
theorem wd1_V2 : True := by
  k_with_none
  k_with "u lt" => (with_reducible (first | assumption | exact cl0 ‹_› | exact cl1 ‹_› | exact cl2 ‹_› | exact cl3 ‹_› | exact cl4 ‹_› | exact cl5 ‹_› | exact cl6 ‹_› | exact cl7 ‹_› | exact cl8 ‹_› | exact cl9 ‹_› | exact cl10 ‹_› | exact cl11 ‹_› | exact cr1 ‹_› | exact cr2 ‹_› | exact cr3 ‹_› | exact cr4 ‹_› | exact cr5 ‹_› | exact cr6 ‹_› | exact cr7 ‹_› | exact cr8 ‹_› | exact cr9 ‹_› | exact cr10 ‹_› | exact cr11 ‹_›))
  k_with "u room" => (first | exact room3 (by with_reducible assumption) rfl | exact room2 (by with_reducible assumption) rfl | exact room4 (by with_reducible assumption) rfl | exact room1 (by with_reducible assumption) | exact roomc (by with_reducible assumption) rfl | exact roome (by with_reducible assumption) rfl | exact roomd (by with_reducible assumption) rfl | exact roomn rfl | exact Nat.le_of_ble_eq_true rfl)
  k_with "call ref" => ((k_here; k_extra "ct"))
  k_with "u dp" => (((try simp only [depth_deeper, depth_in1, depth_caller]); (try dsimp only); first | walk_at "u room" | omega))
  k_with "u un" => (((try simp only [units_deeper, units_in1, units_caller]); (try dsimp only); first | walk_at "u room" | omega))
  k_with "u end" => (((try k_sweep); (try dsimp only); (try ((fail_if_success (with_reducible show wpAny _ _ _ _ _ _)); refine peel ?_)); (try k_fold)))
  k_with "u om" => (first | walk_at "u lt" | walk_at "u room" | exact Nat.le_of_ble_eq_true rfl | omega)
  k_with "k_ne" => (first | exact NeA.ne (by with_reducible assumption) | exact Ne.symm (NeA.ne (by with_reducible assumption)) | exact Nat.ne_of_gt (by walk_at "u lt") | exact Nat.ne_of_lt (by walk_at "u lt"))
  k_with "k_room" => (((try simp only [depth_under_make, depth_under_kw, depth_in1, depth_deeper, depth_caller, recursionLimit]); (try dsimp only); first | walk_at "u room" | omega))
  k_with "k_units" => (first | ((try simp only [units_in1, units_deeper, Around.mark_units, units_caller]); (try dsimp only); walk_at "u room") | (have hcL9 := cLine_is; (try simp only [units_in1, units_deeper, Around.mark_units, units_caller]); (try dsimp only); omega))
  k_with "om" => (with_reducible ((fail_if_success exact True.intro); (fail_if_success exact not_false); first | decide | exact n_lt0 rfl | exact n_le0 rfl | exact n_ltlt ‹_› rfl | exact n_lelt ‹_› rfl | exact n_lele ‹_› rfl | exact n_ltle ‹_› rfl | exact n_eqlt ‹_› rfl | exact n_lelt2 ‹_› ‹_› rfl | exact n_lelt3 ‹_› ‹_› rfl | exact Int.natCast_nonneg _ | exact i_ngt rfl | exact i_ge ‹_› rfl | exact i_gt ‹_› rfl | exact i_gtn ‹_› rfl | exact i_gt64 ‹_› | exact i_lt ‹_› rfl | exact i_lt64 ‹_› rfl | exact i_lelt ‹_› rfl | exact i_le ‹_› rfl | exact i_ne ‹_› rfl | exact i_nlt ‹_› rfl | exact i_ltn ‹_› ‹_› rfl | exact i_ltn2 ‹_› ‹_› rfl | exact i_neg ‹_› | exact i_eqn ‹_› | exact i_succ ‹_› | exact Int.add_one_le_of_lt ‹_› | exact i_sub_less ‹_› ‹_› | exact i_sub_less2 ‹_› ‹_› ‹_› | exact n_sum ‹_› ‹_› ‹_› ‹_› rfl))
  k_with "k_mem" => (first | exact List.mem_cons_self | with_reducible assumption | (refine List.mem_cons_of_mem _ ?_; k_mem))
  k_with "k_all" => (exact AllNe.all (NInv.off (by with_reducible assumption) _ (by k_mem)))
  k_with "k_all" => (exact AllNe.all (by with_reducible assumption))
  k_with "compareOp NotIn str ref" => ((k_here; k_dflt (refine' notin_two ?n_w3 ?m_w3 ?b_w3 ?_; (case n_w3 => k_asm); (case m_w3 => k_mem); (case b_w3 => k_extra "notin"))))
  k_with "ct" => ((with_reducible show wpAny _ _ (call (Value.ref 311) [Value.ref _, Value.int _ _]) _ _ _); k_dflt (first | (refine wpAny_call ?_; refine' kind_U (by k_asm) (by k_asm) (by k_asm) (by k_asm) rfl rfl (by walk_at "u dp") (by walk_at "u un") (by with_reducible assumption) ?n ?h1 ?h2 ?h3 ?h4 ?_; (case n => exact news_of (by k_asm) (fun p hp => by (repeat (first | exact hp | exact (by k_extra "sub") | refine List.Mem.tail _ ?_)))); (case h1 => first | with_reducible assumption | omega | (simp only [List.length_append, List.length_set, List.length_cons, List.length_nil]; omega) | exact (by decide)); (case h2 => walk_at "u om"); (case h3 => k_extra "lk"); (case h4 => with_reducible assumption); k_whole; intro hp_q tkq_q kpp_q; (have F_q := after_noneF (by k_asm) kpp_q); (have N_q := after_noneN (by k_asm) kpp_q); walk_at "u end")))
  k_with "ct" => ((with_reducible show wpAny _ _ (call (Value.ref 339) [Value.ref _, Value.int _ _]) _ _ _); k_dflt (first | (refine wpAny_call ?_; refine' value_U (by k_asm) (by k_asm) (by k_asm) (by k_asm) rfl rfl (by walk_at "u dp") (by walk_at "u un") (by with_reducible assumption) ?n ?h1 ?h2 ?h3 ?h4 ?_; (case n => exact news_of (by k_asm) (fun p hp => by (repeat (first | exact hp | exact (by k_extra "sub") | refine List.Mem.tail _ ?_)))); (case h1 => first | with_reducible assumption | omega | (simp only [List.length_append, List.length_set, List.length_cons, List.length_nil]; omega) | exact (by decide)); (case h2 => walk_at "u om"); (case h3 => k_extra "lk"); (case h4 => with_reducible assumption); k_whole; intro hp_q tkq_q kpp_q; (have F_q := after_noneF (by k_asm) kpp_q); (have N_q := after_noneN (by k_asm) kpp_q); walk_at "u end")))
  exact True.intro
theorem sv_plain {w : World} {mean : ExcName → Option Value} {mg mb : Str → Option Value} {A₀ : Around} {dp un : Nat} {gd : Option (List Code)} {s : Shared} {base h₀ : Heap} {outer : List Env} {L : Addr} {m : Str → Option Value} {env : Env} {R : Result → Shared → Prop}
  (B : Below A₀ base outer h₀) (F : Fr h₀ L s.heap m) (X : (heapK w.params).In h₀) (T : Top viewK lo mean mg mb h₀) (hf : env.frame = some L) (hke : env.scope.kind = .function) {tr td rl : Addr} {tk0 : Tok} {en : Nat} {OL TL news : Led} {rows : List RowD} {as : List Addr} {n : Int} {t kt vt : Tok} {r : RowD} {ks st : Str}
  (hdep : dp + 9 < 1000) (hun : un + 200 < 9900)
  (I : NInv w.params tr td rl tk0 OL TL en rows as) (N : News h₀ L s.heap news) (hsub : ∀ p ∈ OL, p ∈ news) (hl : rows.length < 1000) (h0 : 0 ≤ n) (hr : rows[n.toNat]? = some r) (hk : r.kind = .str ks kt) (hks : ks ∈ [Str.ofString "text", Str.ofString "comment", Str.ofString "attribute"]) (hv : r.value = .str st vt)
  (ret : ∀ (h' : Heap) (tk' : Nat), Fr h₀ L h' m → News h₀ L h' news → R (.ok (.ret (.str st vt))) { s with heap := h', toks := tk' }) :
  codeAny (model PySem.Challenge.rw_xm0671_01.row.prog w) (Around.mk none dp (some (env :: outer)) gd un) (.call (.ref 114) ⟨[.ref tr, .int n t], []⟩) R s := by
  k_dflt (refine' code_defC ?k1 ?k2 ?k3 ?k4 ?k5 ?kA ?kF ?kK ?k6 ?k7 ?k8 ?k9 ?kB ?kD ?_ ?c2 ?c3 ?c4; (case kA => exact rfl); (case kF => exact hf); (case kK => exact hke); (case k1 => k_asm); (case k2 => k_asm); (case k3 => k_asm); (case k4 => k_asm); (case k5 => k_asm); (case k6 => k_is); (case k7 => k_is); (case k8 => (simp only [recursionLimit]; first | walk_at "u room" | omega)); (case k9 => first | exact BindsTo.of_eq rfl | exact binds_K (by k_in) rfl (by k_is) rfl rfl rfl | fail "k_enter: no rule for these arguments"); (case kB => exact rfl); (case kD => decide +kernel); (case c2 => exact rfl); (case c3 => exact rfl); (case c4 => exact rfl); k_whole)
  intro g' L' h' tk' cells' FG' F' N' Y' B' X' T' l1
  replace l1 := allLt_of l1
  k_cells Y'
  try simp only [List.cons_append, List.nil_append] at N'
  try dsimp only
  try k_fold
  have ti2 := hsub _ I.ti
  have tdi2 := hsub _ I.tdi
  k_with "lk" => with_reducible assumption
  k_with "sub" => exact hsub _ (by assumption)
  k_with "notin" => exact kinds_plain (by with_reducible assumption)
  k_steps
  rename Fr h₀ L _ _ => zF
  rename News h₀ L _ _ => zN
  exact ret _ _ zF (news_of zN (fun p hp => by (repeat (first | exact hp | refine List.Mem.tail _ ?_))))
theorem join_two (a b : Str) : Txt.join (Str.ofString "") [a, b] = a ++ b := by
  show a ++ Str.ofString "" ++ b = a ++ b
  have e0 : Str.ofString "" = ⟨#[]⟩ := by decide +kernel
  have e : a ++ Str.ofString "" = a := by
    rw [e0]
    cases a
    show Str.mk (_ ++ #[]) = _
    rw [Array.append_empty]
  rw [e]
theorem wd2_V2 : True := by
  k_with_none
  k_with "u lt" => (with_reducible (first | assumption | exact cl0 ‹_› | exact cl1 ‹_› | exact cl2 ‹_› | exact cl3 ‹_› | exact cl4 ‹_› | exact cl5 ‹_› | exact cl6 ‹_› | exact cl7 ‹_› | exact cl8 ‹_› | exact cl9 ‹_› | exact cl10 ‹_› | exact cl11 ‹_› | exact cr1 ‹_› | exact cr2 ‹_› | exact cr3 ‹_› | exact cr4 ‹_› | exact cr5 ‹_› | exact cr6 ‹_› | exact cr7 ‹_› | exact cr8 ‹_› | exact cr9 ‹_› | exact cr10 ‹_› | exact cr11 ‹_›))
  k_with "u room" => (first | exact room3 (by with_reducible assumption) rfl | exact room2 (by with_reducible assumption) rfl | exact room4 (by with_reducible assumption) rfl | exact room1 (by with_reducible assumption) | exact roomc (by with_reducible assumption) rfl | exact roome (by with_reducible assumption) rfl | exact roomd (by with_reducible assumption) rfl | exact roomn rfl | exact Nat.le_of_ble_eq_true rfl)
  k_with "call ref" => ((k_here; k_extra "ct"))
  k_with "u dp" => (((try simp only [depth_deeper, depth_in1, depth_caller]); (try dsimp only); first | walk_at "u room" | omega))
  k_with "u un" => (((try simp only [units_deeper, units_in1, units_caller]); (try dsimp only); first | walk_at "u room" | omega))
  k_with "u end" => (((try k_sweep); (try dsimp only); (try ((fail_if_success (with_reducible show wpAny _ _ _ _ _ _)); refine peel ?_)); (try k_fold)))
  k_with "u om" => (first | walk_at "u lt" | walk_at "u room" | exact Nat.le_of_ble_eq_true rfl | omega)
  k_with "k_ne" => (first | exact NeA.ne (by with_reducible assumption) | exact Ne.symm (NeA.ne (by with_reducible assumption)) | exact Nat.ne_of_gt (by walk_at "u lt") | exact Nat.ne_of_lt (by walk_at "u lt"))
  k_with "k_room" => (((try simp only [depth_under_make, depth_under_kw, depth_in1, depth_deeper, depth_caller, recursionLimit]); (try dsimp only); first | walk_at "u room" | omega))
  k_with "k_units" => (first | ((try simp only [units_in1, units_deeper, Around.mark_units, units_caller]); (try dsimp only); walk_at "u room") | (have hcL9 := cLine_is; (try simp only [units_in1, units_deeper, Around.mark_units, units_caller]); (try dsimp only); omega))
  k_with "om" => (with_reducible ((fail_if_success exact True.intro); (fail_if_success exact not_false); first | decide | exact n_lt0 rfl | exact n_le0 rfl | exact n_ltlt ‹_› rfl | exact n_lelt ‹_› rfl | exact n_lele ‹_› rfl | exact n_ltle ‹_› rfl | exact n_eqlt ‹_› rfl | exact n_lelt2 ‹_› ‹_› rfl | exact n_lelt3 ‹_› ‹_› rfl | exact Int.natCast_nonneg _ | exact i_ngt rfl | exact i_ge ‹_› rfl | exact i_gt ‹_› rfl | exact i_gtn ‹_› rfl | exact i_gt64 ‹_› | exact i_lt ‹_› rfl | exact i_lt64 ‹_› rfl | exact i_lelt ‹_› rfl | exact i_le ‹_› rfl | exact i_ne ‹_› rfl | exact i_nlt ‹_› rfl | exact i_ltn ‹_› ‹_› rfl | exact i_ltn2 ‹_› ‹_› rfl | exact i_neg ‹_› | exact i_eqn ‹_› | exact i_succ ‹_› | exact Int.add_one_le_of_lt ‹_› | exact i_sub_less ‹_› ‹_› | exact i_sub_less2 ‹_› ‹_› ‹_› | exact n_sum ‹_› ‹_› ‹_› ‹_› rfl))
  k_with "k_mem" => (first | exact List.mem_cons_self | with_reducible assumption | (refine List.mem_cons_of_mem _ ?_; k_mem))
  k_with "k_all" => (exact AllNe.all (NInv.off (by with_reducible assumption) _ (by k_mem)))
  k_with "k_all" => (exact AllNe.all (by with_reducible assumption))
  k_with "compareOp NotIn str ref" => ((k_here; k_dflt (refine' notin_two ?n_w3 ?m_w3 ?b_w3 ?_; (case n_w3 => k_asm); (case m_w3 => k_mem); (case b_w3 => k_extra "notin"))))
  k_with "ct" => ((with_reducible show wpAny _ _ (call (Value.ref 311) [Value.ref _, Value.int _ _]) _ _ _); k_dflt (first | (refine wpAny_call ?_; refine' kind_U (by k_asm) (by k_asm) (by k_asm) (by k_asm) rfl rfl (by walk_at "u dp") (by walk_at "u un") (by with_reducible assumption) ?n ?h1 ?h2 ?h3 ?h4 ?_; (case n => exact news_of (by k_asm) (fun p hp => by (repeat (first | exact hp | exact (by k_extra "sub") | refine List.Mem.tail _ ?_)))); (case h1 => first | with_reducible assumption | omega | (simp only [List.length_append, List.length_set, List.length_cons, List.length_nil]; omega) | exact (by decide)); (case h2 => walk_at "u om"); (case h3 => k_extra "lk"); (case h4 => with_reducible assumption); k_whole; intro hp_q tkq_q kpp_q; (have F_q := after_noneF (by k_asm) kpp_q); (have N_q := after_noneN (by k_asm) kpp_q); walk_at "u end")))
  k_with "ct" => ((with_reducible show wpAny _ _ (call (Value.ref 339) [Value.ref _, Value.int _ _]) _ _ _); k_dflt (first | (refine wpAny_call ?_; refine' value_U (by k_asm) (by k_asm) (by k_asm) (by k_asm) rfl rfl (by walk_at "u dp") (by walk_at "u un") (by with_reducible assumption) ?n ?h1 ?h2 ?h3 ?h4 ?_; (case n => exact news_of (by k_asm) (fun p hp => by (repeat (first | exact hp | exact (by k_extra "sub") | refine List.Mem.tail _ ?_)))); (case h1 => first | with_reducible assumption | omega | (simp only [List.length_append, List.length_set, List.length_cons, List.length_nil]; omega) | exact (by decide)); (case h2 => walk_at "u om"); (case h3 => k_extra "lk"); (case h4 => with_reducible assumption); k_whole; intro hp_q tkq_q kpp_q; (have F_q := after_noneF (by k_asm) kpp_q); (have N_q := after_noneN (by k_asm) kpp_q); walk_at "u end")))
  exact True.intro
theorem len_cat (a b : Str) : (a ++ b).length = a.length + b.length := by
  cases a; cases b
  show Array.size (_ ++ _) = _
  exact Array.size_append

theorem wd3_V2 : True := by
  k_with_none
  k_with "u lt" => (with_reducible (first | assumption | exact cl0 ‹_› | exact cl1 ‹_› | exact cl2 ‹_› | exact cl3 ‹_› | exact cl4 ‹_› | exact cl5 ‹_› | exact cl6 ‹_› | exact cl7 ‹_› | exact cl8 ‹_› | exact cl9 ‹_› | exact cl10 ‹_› | exact cl11 ‹_› | exact cr1 ‹_› | exact cr2 ‹_› | exact cr3 ‹_› | exact cr4 ‹_› | exact cr5 ‹_› | exact cr6 ‹_› | exact cr7 ‹_› | exact cr8 ‹_› | exact cr9 ‹_› | exact cr10 ‹_› | exact cr11 ‹_›))
  k_with "u room" => (first | exact room3 (by with_reducible assumption) rfl | exact room2 (by with_reducible assumption) rfl | exact room4 (by with_reducible assumption) rfl | exact room1 (by with_reducible assumption) | exact roomc (by with_reducible assumption) rfl | exact roome (by with_reducible assumption) rfl | exact roomd (by with_reducible assumption) rfl | exact roomn rfl | exact Nat.le_of_ble_eq_true rfl)
  k_with "call ref" => ((k_here; k_extra "ct"))
  k_with "u dp" => (((try simp only [depth_deeper, depth_in1, depth_caller]); (try dsimp only); first | walk_at "u room" | omega))
  k_with "u un" => (((try simp only [units_deeper, units_in1, units_caller]); (try dsimp only); first | walk_at "u room" | omega))
  k_with "u end" => (((try k_sweep); (try dsimp only); (try ((fail_if_success (with_reducible show wpAny _ _ _ _ _ _)); refine peel ?_)); (try k_fold)))
  k_with "u om" => (first | walk_at "u lt" | walk_at "u room" | exact Nat.le_of_ble_eq_true rfl | omega)
  k_with "k_ne" => (first | exact NeA.ne (by with_reducible assumption) | exact Ne.symm (NeA.ne (by with_reducible assumption)) | exact Nat.ne_of_gt (by walk_at "u lt") | exact Nat.ne_of_lt (by walk_at "u lt"))
  k_with "k_room" => (((try simp only [depth_under_make, depth_under_kw, depth_in1, depth_deeper, depth_caller, recursionLimit]); (try dsimp only); first | walk_at "u room" | omega))
  k_with "k_units" => (first | ((try simp only [units_in1, units_deeper, Around.mark_units, units_caller]); (try dsimp only); walk_at "u room") | (have hcL9 := cLine_is; (try simp only [units_in1, units_deeper, Around.mark_units, units_caller]); (try dsimp only); omega))
  k_with "om" => (with_reducible ((fail_if_success exact True.intro); (fail_if_success exact not_false); first | decide | exact n_lt0 rfl | exact n_le0 rfl | exact n_ltlt ‹_› rfl | exact n_lelt ‹_› rfl | exact n_lele ‹_› rfl | exact n_ltle ‹_› rfl | exact n_eqlt ‹_› rfl | exact n_lelt2 ‹_› ‹_› rfl | exact n_lelt3 ‹_› ‹_› rfl | exact Int.natCast_nonneg _ | exact i_ngt rfl | exact i_ge ‹_› rfl | exact i_gt ‹_› rfl | exact i_gtn ‹_› rfl | exact i_gt64 ‹_› | exact i_lt ‹_› rfl | exact i_lt64 ‹_› rfl | exact i_lelt ‹_› rfl | exact i_le ‹_› rfl | exact i_ne ‹_› rfl | exact i_nlt ‹_› rfl | exact i_ltn ‹_› ‹_› rfl | exact i_ltn2 ‹_› ‹_› rfl | exact i_neg ‹_› | exact i_eqn ‹_› | exact i_succ ‹_› | exact Int.add_one_le_of_lt ‹_› | exact i_sub_less ‹_› ‹_› | exact i_sub_less2 ‹_› ‹_› ‹_› | exact n_sum ‹_› ‹_› ‹_› ‹_› rfl))
  k_with "k_mem" => (first | exact List.mem_cons_self | with_reducible assumption | (refine List.mem_cons_of_mem _ ?_; k_mem))
  k_with "k_all" => (exact AllNe.all (NInv.off (by with_reducible assumption) _ (by k_mem)))
  k_with "k_all" => (exact AllNe.all (by with_reducible assumption))
  k_with "compareOp NotIn str ref" => ((k_here; k_dflt (refine' notin_two ?n_w3 ?m_w3 ?b_w3 ?_; (case n_w3 => k_asm); (case m_w3 => k_mem); (case b_w3 => k_extra "notin"))))
  k_with "CompEnd" => ((k_here; k_dflt (refine LCg.CompEnd.intro (by with_reducible assumption) (by k_asm) _ (fun p hp => hp) (by first | with_reducible assumption | assumption) (by first | exact True.intro | exact Or.inr ⟨_, by k_mem, rfl, _, rfl⟩) ?_)))
  k_with "ct" => ((with_reducible show wpAny _ _ (call (Value.ref 311) [Value.ref _, Value.int _ _]) _ _ _); k_dflt (first | (refine wpAny_call ?_; refine' kind_U (by k_asm) (by k_asm) (by k_asm) (by k_asm) rfl rfl (by walk_at "u dp") (by walk_at "u un") (by with_reducible assumption) ?n ?h1 ?h2 ?h3 ?h4 ?_; (case n => exact news_of (by k_asm) (fun p hp => by (repeat (first | exact hp | exact (by k_extra "sub") | refine List.Mem.tail _ ?_)))); (case h1 => first | with_reducible assumption | omega | (simp only [List.length_append, List.length_set, List.length_cons, List.length_nil]; omega) | exact (by decide)); (case h2 => walk_at "u om"); (case h3 => k_extra "lk"); (case h4 => with_reducible assumption); k_whole; intro hp_q tkq_q kpp_q; (have F_q := after_noneF (by k_asm) kpp_q); (have N_q := after_noneN (by k_asm) kpp_q); walk_at "u end")))
  k_with "ct" => ((with_reducible show wpAny _ _ (call (Value.ref 339) [Value.ref _, Value.int _ _]) _ _ _); k_dflt (first | (refine wpAny_call ?_; refine' value_U (by k_asm) (by k_asm) (by k_asm) (by k_asm) rfl rfl (by walk_at "u dp") (by walk_at "u un") (by with_reducible assumption) ?n ?h1 ?h2 ?h3 ?h4 ?_; (case n => exact news_of (by k_asm) (fun p hp => by (repeat (first | exact hp | exact (by k_extra "sub") | refine List.Mem.tail _ ?_)))); (case h1 => first | with_reducible assumption | omega | (simp only [List.length_append, List.length_set, List.length_cons, List.length_nil]; omega) | exact (by decide)); (case h2 => walk_at "u om"); (case h3 => k_extra "lk"); (case h4 => with_reducible assumption); k_whole; intro hp_q tkq_q kpp_q; (have F_q := after_noneF (by k_asm) kpp_q); (have N_q := after_noneN (by k_asm) kpp_q); walk_at "u end")))
  k_with "ct" => ((with_reducible show wpAny _ _ (call (Value.ref 109) [Value.ref _, Value.int _ _]) _ _ _); k_dflt (first | (refine wpAny_call ?_; refine' beneath_A (by k_asm) (by k_asm) (by k_asm) (by k_asm) rfl rfl (by walk_at "u dp") (by walk_at "u un") (by with_reducible assumption) ?n ?hl ?h0 ?hr ?hk ?h1 ?hr1 ?hk1 ?h2 ?hr2 ?hk2 ?h3 ?hr3 ?hk3 ?_; (case n => exact news_of (by k_asm) (fun p hp => by (repeat (first | exact hp | exact (by k_extra "sub") | refine List.Mem.tail _ ?_)))); (case hl => first | with_reducible assumption | omega | (simp only [List.length_append, List.length_set, List.length_cons, List.length_nil]; omega) | exact (by decide)); (case h0 => walk_at "u om"); (case hr => with_reducible assumption); (case hk => with_reducible assumption); (case h1 => walk_at "u om"); (case hr1 => with_reducible assumption); (case hk1 => with_reducible assumption); (case h2 => walk_at "u om"); (case hr2 => with_reducible assumption); (case hk2 => with_reducible assumption); (case h3 => walk_at "u om"); (case hr3 => with_reducible assumption); (case hk3 => with_reducible assumption); k_whole; intro lp_q ep_q hp_q tkq_q hep_q kpp_q hn1_q; (have F_q := after_noneF (by k_asm) kpp_q); (have N_q := after_noneN (by k_asm) kpp_q); (have ne1_q := allNe_of hn1_q (by k_asm : News _ _ _ _)); (replace N_q := new_entry (by k_asm) N_q hn1_q hep_q); (simp only [AllNe, and_true] at ne1_q); (repeat (have _ := And.left ne1_q; replace ne1_q := And.right ne1_q)); walk_at "u end")))
  exact True.intro
theorem sv_A {w : World} {mean : ExcName → Option Value} {mg mb : Str → Option Value} {A₀ : Around} {dp un : Nat} {gd : Option (List Code)} {s : Shared} {base h₀ : Heap} {outer : List Env} {L : Addr} {m : Str → Option Value} {env : Env} {R : Result → Shared → Prop}
  (B : Below A₀ base outer h₀) (F : Fr h₀ L s.heap m) (X : (heapK w.params).In h₀) (T : Top viewK lo mean mg mb h₀) (hf : env.frame = some L) (hke : env.scope.kind = .function) {tr td rl : Addr} {tk0 : Tok} {en : Nat} {OL TL news : Led} {rows : List RowD} {as : List Addr} {n : Int} {t kt kt1 kt2 kt3 vt1 vt2 : Tok} {r r1 r2 r3 : RowD} {s1 s2 : Str} {i1 i2 i3 : Int} {u1 u2 u3 : Tok}
  (hdep : dp + 12 < 1000) (hun : un + 400 < 9900)
  (I : NInv w.params tr td rl tk0 OL TL en rows as) (N : News h₀ L s.heap news) (hsub : ∀ p ∈ OL, p ∈ news) (hl : rows.length < 1000) (h0 : 0 ≤ n) (hr : rows[n.toNat]? = some r) (hk : r.kind = .str (Str.ofString "element") kt) (hd : r.kids = [.int i1 u1, .int i2 u2, .int i3 u3])
  (h1 : 0 ≤ i1) (hr1 : rows[i1.toNat]? = some r1) (hd1 : r1.kids = []) (hk1 : r1.kind = .str (Str.ofString "text") kt1) (hv1 : r1.value = .str s1 vt1)
  (h2 : 0 ≤ i2) (hr2 : rows[i2.toNat]? = some r2) (hd2 : r2.kids = []) (hk2 : r2.kind = .str (Str.ofString "text") kt2) (hv2 : r2.value = .str s2 vt2)
  (h3 : 0 ≤ i3) (hr3 : rows[i3.toNat]? = some r3) (hd3 : r3.kids = []) (hk3 : r3.kind = .str (Str.ofString "comment") kt3) (hs : s1.length + s2.length ≤ 100)
  (ret : ∀ (h' : Heap) (tk' : Nat) (vt : Tok), Fr h₀ L h' m → News h₀ L h' news → R (.ok (.ret (.str (s1 ++ s2) vt))) { s with heap := h', toks := tk' }) :
  codeAny (model PySem.Challenge.rw_xm0671_01.row.prog w) (Around.mk none dp (some (env :: outer)) gd un) (.call (.ref 114) ⟨[.ref tr, .int n t], []⟩) R s := by
  k_dflt (refine' code_defC ?k1 ?k2 ?k3 ?k4 ?k5 ?kA ?kF ?kK ?k6 ?k7 ?k8 ?k9 ?kB ?kD ?_ ?c2 ?c3 ?c4; (case kA => exact rfl); (case kF => exact hf); (case kK => exact hke); (case k1 => k_asm); (case k2 => k_asm); (case k3 => k_asm); (case k4 => k_asm); (case k5 => k_asm); (case k6 => k_is); (case k7 => k_is); (case k8 => (simp only [recursionLimit]; first | walk_at "u room" | omega)); (case k9 => first | exact BindsTo.of_eq rfl | exact binds_K (by k_in) rfl (by k_is) rfl rfl rfl | fail "k_enter: no rule for these arguments"); (case kB => exact rfl); (case kD => decide +kernel); (case c2 => exact rfl); (case c3 => exact rfl); (case c4 => exact rfl); k_whole)
  intro g' L' h' tk' cells' FG' F' N' Y' B' X' T' l1
  replace l1 := allLt_of l1
  k_cells Y'
  try simp only [List.cons_append, List.nil_append] at N'
  try dsimp only
  try k_fold
  have ti2 := hsub _ I.ti
  have tdi2 := hsub _ I.tdi
  k_with "lk" => with_reducible assumption
  k_with "sub" => exact hsub _ (by assumption)
  k_with "notin" => exact (by decide +kernel : _ = false)
  k_steps
  rename Fr h₀ L _ _ => zF
  rename News h₀ L _ _ => zN
  rw [join_two]
  exact ret _ _ _ zF (news_of zN (fun p hp => by (repeat (first | exact hp | refine List.Mem.tail _ ?_))))

theorem wd4_V2 : True := by
  k_with_none
  k_with "u lt" => (with_reducible (first | assumption | exact cl0 ‹_› | exact cl1 ‹_› | exact cl2 ‹_› | exact cl3 ‹_› | exact cl4 ‹_› | exact cl5 ‹_› | exact cl6 ‹_› | exact cl7 ‹_› | exact cl8 ‹_› | exact cl9 ‹_› | exact cl10 ‹_› | exact cl11 ‹_› | exact cr1 ‹_› | exact cr2 ‹_› | exact cr3 ‹_› | exact cr4 ‹_› | exact cr5 ‹_› | exact cr6 ‹_› | exact cr7 ‹_› | exact cr8 ‹_› | exact cr9 ‹_› | exact cr10 ‹_› | exact cr11 ‹_›))
  k_with "u room" => (first | exact room3 (by with_reducible assumption) rfl | exact room2 (by with_reducible assumption) rfl | exact room4 (by with_reducible assumption) rfl | exact room1 (by with_reducible assumption) | exact roomc (by with_reducible assumption) rfl | exact roome (by with_reducible assumption) rfl | exact roomd (by with_reducible assumption) rfl | exact roomn rfl | exact Nat.le_of_ble_eq_true rfl)
  k_with "call ref" => ((k_here; k_extra "ct"))
  k_with "u dp" => (((try simp only [depth_deeper, depth_in1, depth_caller]); (try dsimp only); first | walk_at "u room" | omega))
  k_with "u un" => (((try simp only [units_deeper, units_in1, units_caller]); (try dsimp only); first | walk_at "u room" | omega))
  k_with "u end" => (((try k_sweep); (try dsimp only); (try ((fail_if_success (with_reducible show wpAny _ _ _ _ _ _)); refine peel ?_)); (try k_fold)))
  k_with "u om" => (first | walk_at "u lt" | walk_at "u room" | exact Nat.le_of_ble_eq_true rfl | omega)
  k_with "k_ne" => (first | exact NeA.ne (by with_reducible assumption) | exact Ne.symm (NeA.ne (by with_reducible assumption)) | exact Nat.ne_of_gt (by walk_at "u lt") | exact Nat.ne_of_lt (by walk_at "u lt"))
  k_with "k_room" => (((try simp only [depth_under_make, depth_under_kw, depth_in1, depth_deeper, depth_caller, recursionLimit]); (try dsimp only); first | walk_at "u room" | omega))
  k_with "k_units" => (first | ((try simp only [units_in1, units_deeper, Around.mark_units, units_caller]); (try dsimp only); walk_at "u room") | (have hcL9 := cLine_is; (try simp only [units_in1, units_deeper, Around.mark_units, units_caller]); (try dsimp only); omega))
  k_with "om" => (with_reducible ((fail_if_success exact True.intro); (fail_if_success exact not_false); first | decide | exact n_lt0 rfl | exact n_le0 rfl | exact n_ltlt ‹_› rfl | exact n_lelt ‹_› rfl | exact n_lele ‹_› rfl | exact n_ltle ‹_› rfl | exact n_eqlt ‹_› rfl | exact n_lelt2 ‹_› ‹_› rfl | exact n_lelt3 ‹_› ‹_› rfl | exact Int.natCast_nonneg _ | exact i_ngt rfl | exact i_ge ‹_› rfl | exact i_gt ‹_› rfl | exact i_gtn ‹_› rfl | exact i_gt64 ‹_› | exact i_lt ‹_› rfl | exact i_lt64 ‹_› rfl | exact i_lelt ‹_› rfl | exact i_le ‹_› rfl | exact i_ne ‹_› rfl | exact i_nlt ‹_› rfl | exact i_ltn ‹_› ‹_› rfl | exact i_ltn2 ‹_› ‹_› rfl | exact i_neg ‹_› | exact i_eqn ‹_› | exact i_succ ‹_› | exact Int.add_one_le_of_lt ‹_› | exact i_sub_less ‹_› ‹_› | exact i_sub_less2 ‹_› ‹_› ‹_› | exact n_sum ‹_› ‹_› ‹_› ‹_› rfl))
  k_with "k_mem" => (first | exact List.mem_cons_self | with_reducible assumption | (refine List.mem_cons_of_mem _ ?_; k_mem))
  k_with "k_all" => (exact AllNe.all (NInv.off (by with_reducible assumption) _ (by k_mem)))
  k_with "k_all" => (exact AllNe.all (by with_reducible assumption))
  k_with "compareOp NotIn str ref" => ((k_here; k_dflt (refine' notin_two ?n_w3 ?m_w3 ?b_w3 ?_; (case n_w3 => k_asm); (case m_w3 => k_mem); (case b_w3 => k_extra "notin"))))
  k_with "CompEnd" => ((k_here; k_dflt (refine LCg.CompEnd.intro (by with_reducible assumption) (by k_asm) _ (fun p hp => hp) (by first | with_reducible assumption | assumption) (by first | exact True.intro | exact Or.inr ⟨_, by k_mem, rfl, _, rfl⟩) ?_)))
  k_with "CompSrcT" => ((k_here; k_dflt (refine LCt.CompSrcT.ledger (by rfl) (by k_asm) (by k_asm) (by k_mem) (by first | size_fits | exact Nat.le_of_ble_eq_true rfl) ?_; intro g_q; (with_unfolding_all show LCt.CompRestT _ _ _ _ _ _ _ _ _ _ _ _ _ _ _ _ 4 _ _ _))))
  k_with "ct" => ((with_reducible show wpAny _ _ (call (Value.ref 311) [Value.ref _, Value.int _ _]) _ _ _); k_dflt (first | (refine wpAny_call ?_; refine' kind_U (by k_asm) (by k_asm) (by k_asm) (by k_asm) rfl rfl (by walk_at "u dp") (by walk_at "u un") (by with_reducible assumption) ?n ?h1 ?h2 ?h3 ?h4 ?_; (case n => exact news_of (by k_asm) (fun p hp => by (repeat (first | exact hp | exact (by k_extra "sub") | refine List.Mem.tail _ ?_)))); (case h1 => first | with_reducible assumption | omega | (simp only [List.length_append, List.length_set, List.length_cons, List.length_nil]; omega) | exact (by decide)); (case h2 => walk_at "u om"); (case h3 => k_extra "lk"); (case h4 => with_reducible assumption); k_whole; intro hp_q tkq_q kpp_q; (have F_q := after_noneF (by k_asm) kpp_q); (have N_q := after_noneN (by k_asm) kpp_q); walk_at "u end")))
  k_with "ct" => ((with_reducible show wpAny _ _ (call (Value.ref 339) [Value.ref _, Value.int _ _]) _ _ _); k_dflt (first | (refine wpAny_call ?_; refine' value_U (by k_asm) (by k_asm) (by k_asm) (by k_asm) rfl rfl (by walk_at "u dp") (by walk_at "u un") (by with_reducible assumption) ?n ?h1 ?h2 ?h3 ?h4 ?_; (case n => exact news_of (by k_asm) (fun p hp => by (repeat (first | exact hp | exact (by k_extra "sub") | refine List.Mem.tail _ ?_)))); (case h1 => first | with_reducible assumption | omega | (simp only [List.length_append, List.length_set, List.length_cons, List.length_nil]; omega) | exact (by decide)); (case h2 => walk_at "u om"); (case h3 => k_extra "lk"); (case h4 => with_reducible assumption); k_whole; intro hp_q tkq_q kpp_q; (have F_q := after_noneF (by k_asm) kpp_q); (have N_q := after_noneN (by k_asm) kpp_q); walk_at "u end")))
  k_with "ct" => ((with_reducible show wpAny _ _ (call (Value.ref 109) [Value.ref _, Value.int _ _]) _ _ _); k_dflt (first | (refine wpAny_call ?_; refine' beneath_A (by k_asm) (by k_asm) (by k_asm) (by k_asm) rfl rfl (by walk_at "u dp") (by walk_at "u un") (by with_reducible assumption) ?n ?hl ?h0 ?hr ?hk ?h1 ?hr1 ?hk1 ?h2 ?hr2 ?hk2 ?h3 ?hr3 ?hk3 ?_; (case n => exact news_of (by k_asm) (fun p hp => by (repeat (first | exact hp | exact (by k_extra "sub") | refine List.Mem.tail _ ?_)))); (case hl => first | with_reducible assumption | omega | (simp only [List.length_append, List.length_set, List.length_cons, List.length_nil]; omega) | exact (by decide)); (case h0 => walk_at "u om"); (case hr => with_reducible assumption); (case hk => with_reducible assumption); (case h1 => walk_at "u om"); (case hr1 => with_reducible assumption); (case hk1 => with_reducible assumption); (case h2 => walk_at "u om"); (case hr2 => with_reducible assumption); (case hk2 => with_reducible assumption); (case h3 => walk_at "u om"); (case hr3 => with_reducible assumption); (case hk3 => with_reducible assumption); k_whole; intro lp_q ep_q hp_q tkq_q hep_q kpp_q hn1_q; (have F_q := after_noneF (by k_asm) kpp_q); (have N_q := after_noneN (by k_asm) kpp_q); (have ne1_q := allNe_of hn1_q (by k_asm : News _ _ _ _)); (replace N_q := new_entry (by k_asm) N_q hn1_q hep_q); (simp only [AllNe, and_true] at ne1_q); (repeat (have _ := And.left ne1_q; replace ne1_q := And.right ne1_q)); walk_at "u end")))
  k_with "ct" => ((with_reducible show wpAny _ _ (call (Value.ref 109) [Value.ref _, Value.int _ _]) _ _ _); k_dflt (first | (refine wpAny_call ?_; refine' beneath_B (by k_asm) (by k_asm) (by k_asm) (by k_asm) rfl rfl (by walk_at "u dp") (by walk_at "u un") (by with_reducible assumption) ?n ?hl ?h0 ?hr ?hk ?h1 ?hr1 ?hk1 ?h2 ?hr2 ?hk2 ?h3 ?hr3 ?hk3 ?h4 ?hr4 ?hk4 ?_; (case n => exact news_of (by k_asm) (fun p hp => by (repeat (first | exact hp | exact (by k_extra "sub") | refine List.Mem.tail _ ?_)))); (case hl => first | with_reducible assumption | omega | (simp only [List.length_append, List.length_set, List.length_cons, List.length_nil]; omega) | exact (by decide)); (case h0 => walk_at "u om"); (case hr => with_reducible assumption); (case hk => with_reducible assumption); (case h1 => walk_at "u om"); (case hr1 => with_reducible assumption); (case hk1 => with_reducible assumption); (case h2 => walk_at "u om"); (case hr2 => with_reducible assumption); (case hk2 => with_reducible assumption); (case h3 => walk_at "u om"); (case hr3 => with_reducible assumption); (case hk3 => with_reducible assumption); (case h4 => walk_at "u om"); (case hr4 => with_reducible assumption); (case hk4 => with_reducible assumption); k_whole; intro lp_q ep_q hp_q tkq_q hep_q kpp_q hn1_q; (have F_q := after_noneF (by k_asm) kpp_q); (have N_q := after_noneN (by k_asm) kpp_q); (have ne1_q := allNe_of hn1_q (by k_asm : News _ _ _ _)); (replace N_q := new_entry (by k_asm) N_q hn1_q hep_q); (simp only [AllNe, and_true] at ne1_q); (repeat (have _ := And.left ne1_q; replace ne1_q := And.right ne1_q)); walk_at "u end")))
  exact True.intro
theorem sv_B {w : World} {mean : ExcName → Option Value} {mg mb : Str → Option Value} {A₀ : Around} {dp un : Nat} {gd : Option (List Code)} {s : Shared} {base h₀ : Heap} {outer : List Env} {L : Addr} {m : Str → Option Value} {env : Env} {R : Result → Shared → Prop}
  (B : Below A₀ base outer h₀) (F : Fr h₀ L s.heap m) (X : (heapK w.params).In h₀) (T : Top viewK lo mean mg mb h₀) (hf : env.frame = some L) (hke : env.scope.kind = .function) {tr td rl : Addr} {tk0 : Tok} {en : Nat} {OL TL news : Led} {rows : List RowD} {as : List Addr} {n : Int} {t kt kt1 kt2 kt3 ktg vt1 vt2 : Tok} {r r1 r2 r3 rg : RowD} {s1 s2 : Str} {i1 i2 i3 ig : Int} {u1 u2 u3 ug : Tok}
  (hdep : dp + 12 < 1000) (hun : un + 400 < 9900)
  (I : NInv w.params tr td rl tk0 OL TL en rows as) (N : News h₀ L s.heap news) (hsub : ∀ p ∈ OL, p ∈ news) (hl : rows.length < 1000) (h0 : 0 ≤ n) (hr : rows[n.toNat]? = some r) (hk : r.kind = .str (Str.ofString "element") kt) (hd : r.kids = [.int i1 u1, .int ig ug, .int i3 u3])
  (h1 : 0 ≤ i1) (hr1 : rows[i1.toNat]? = some r1) (hd1 : r1.kids = []) (hk1 : r1.kind = .str (Str.ofString "text") kt1) (hv1 : r1.value = .str s1 vt1)
  (h2 : 0 ≤ i2) (hr2 : rows[i2.toNat]? = some r2) (hd2 : r2.kids = []) (hk2 : r2.kind = .str (Str.ofString "text") kt2) (hv2 : r2.value = .str s2 vt2)
  (hg : 0 ≤ ig) (hrg : rows[ig.toNat]? = some rg) (hdg : rg.kids = [.int i2 u2]) (hkg : rg.kind = .str (Str.ofString "element") ktg)
  (h3 : 0 ≤ i3) (hr3 : rows[i3.toNat]? = some r3) (hd3 : r3.kids = []) (hk3 : r3.kind = .str (Str.ofString "comment") kt3) (hs : s1.length + s2.length ≤ 100)
  (ret : ∀ (h' : Heap) (tk' : Nat) (vt : Tok), Fr h₀ L h' m → News h₀ L h' news → R (.ok (.ret (.str (s1 ++ s2) vt))) { s with heap := h', toks := tk' }) :
  codeAny (model PySem.Challenge.rw_xm0671_01.row.prog w) (Around.mk none dp (some (env :: outer)) gd un) (.call (.ref 114) ⟨[.ref tr, .int n t], []⟩) R s := by
  k_dflt (refine' code_defC ?k1 ?k2 ?k3 ?k4 ?k5 ?kA ?kF ?kK ?k6 ?k7 ?k8 ?k9 ?kB ?kD ?_ ?c2 ?c3 ?c4; (case kA => exact rfl); (case kF => exact hf); (case kK => exact hke); (case k1 => k_asm); (case k2 => k_asm); (case k3 => k_asm); (case k4 => k_asm); (case k5 => k_asm); (case k6 => k_is); (case k7 => k_is); (case k8 => (simp only [recursionLimit]; first | walk_at "u room" | omega)); (case k9 => first | exact BindsTo.of_eq rfl | exact binds_K (by k_in) rfl (by k_is) rfl rfl rfl | fail "k_enter: no rule for these arguments"); (case kB => exact rfl); (case kD => decide +kernel); (case c2 => exact rfl); (case c3 => exact rfl); (case c4 => exact rfl); k_whole)
  intro g' L' h' tk' cells' FG' F' N' Y' B' X' T' l1
  replace l1 := allLt_of l1
  k_cells Y'
  try simp only [List.cons_append, List.nil_append] at N'
  try dsimp only
  try k_fold
  have ti2 := hsub _ I.ti
  have tdi2 := hsub _ I.tdi
  k_with "lk" => with_reducible assumption
  k_with "sub" => exact hsub _ (by assumption)
  k_with "notin" => exact (by decide +kernel : _ = false)
  k_steps
  rename Fr h₀ L _ _ => zF
  rename News h₀ L _ _ => zN
  rw [join_two]
  exact ret _ _ _ zF (news_of zN (fun p hp => by (repeat (first | exact hp | refine List.Mem.tail _ ?_))))
theorem small_text {st : Str} (h : st ∈ textsT) : st.length ≤ 40 := by
  have : textsT.all (fun z => decide (z.length ≤ 40)) = true := by decide +kernel
  have := List.all_eq_true.mp this st h
  simpa using this
/-- what string_value gives of a node of the law's -/
theorem wd5_V2 : True := by
  k_with_none
  k_with "u lt" => (with_reducible (first | assumption | exact cl0 ‹_› | exact cl1 ‹_› | exact cl2 ‹_› | exact cl3 ‹_› | exact cl4 ‹_› | exact cl5 ‹_› | exact cl6 ‹_› | exact cl7 ‹_› | exact cl8 ‹_› | exact cl9 ‹_› | exact cl10 ‹_› | exact cl11 ‹_› | exact cr1 ‹_› | exact cr2 ‹_› | exact cr3 ‹_› | exact cr4 ‹_› | exact cr5 ‹_› | exact cr6 ‹_› | exact cr7 ‹_› | exact cr8 ‹_› | exact cr9 ‹_› | exact cr10 ‹_› | exact cr11 ‹_›))
  k_with "u room" => (first | exact room3 (by with_reducible assumption) rfl | exact room2 (by with_reducible assumption) rfl | exact room4 (by with_reducible assumption) rfl | exact room1 (by with_reducible assumption) | exact roomc (by with_reducible assumption) rfl | exact roome (by with_reducible assumption) rfl | exact roomd (by with_reducible assumption) rfl | exact roomn rfl | exact Nat.le_of_ble_eq_true rfl)
  k_with "call ref" => ((k_here; k_extra "ct"))
  k_with "u dp" => (((try simp only [depth_deeper, depth_in1, depth_caller]); (try dsimp only); first | walk_at "u room" | omega))
  k_with "u un" => (((try simp only [units_deeper, units_in1, units_caller]); (try dsimp only); first | walk_at "u room" | omega))
  k_with "u end" => (((try k_sweep); (try dsimp only); (try ((fail_if_success (with_reducible show wpAny _ _ _ _ _ _)); refine peel ?_)); (try k_fold)))
  k_with "u om" => (first | walk_at "u lt" | walk_at "u room" | exact Nat.le_of_ble_eq_true rfl | omega)
  k_with "k_ne" => (first | exact NeA.ne (by with_reducible assumption) | exact Ne.symm (NeA.ne (by with_reducible assumption)) | exact Nat.ne_of_gt (by walk_at "u lt") | exact Nat.ne_of_lt (by walk_at "u lt"))
  k_with "k_room" => (((try simp only [depth_under_make, depth_under_kw, depth_in1, depth_deeper, depth_caller, recursionLimit]); (try dsimp only); first | walk_at "u room" | omega))
  k_with "k_units" => (first | ((try simp only [units_in1, units_deeper, Around.mark_units, units_caller]); (try dsimp only); walk_at "u room") | (have hcL9 := cLine_is; (try simp only [units_in1, units_deeper, Around.mark_units, units_caller]); (try dsimp only); omega))
  k_with "om" => (with_reducible ((fail_if_success exact True.intro); (fail_if_success exact not_false); first | decide | exact n_lt0 rfl | exact n_le0 rfl | exact n_ltlt ‹_› rfl | exact n_lelt ‹_› rfl | exact n_lele ‹_› rfl | exact n_ltle ‹_› rfl | exact n_eqlt ‹_› rfl | exact n_lelt2 ‹_› ‹_› rfl | exact n_lelt3 ‹_› ‹_› rfl | exact Int.natCast_nonneg _ | exact i_ngt rfl | exact i_ge ‹_› rfl | exact i_gt ‹_› rfl | exact i_gtn ‹_› rfl | exact i_gt64 ‹_› | exact i_lt ‹_› rfl | exact i_lt64 ‹_› rfl | exact i_lelt ‹_› rfl | exact i_le ‹_› rfl | exact i_ne ‹_› rfl | exact i_nlt ‹_› rfl | exact i_ltn ‹_› ‹_› rfl | exact i_ltn2 ‹_› ‹_› rfl | exact i_neg ‹_› | exact i_eqn ‹_› | exact i_succ ‹_› | exact Int.add_one_le_of_lt ‹_› | exact i_sub_less ‹_› ‹_› | exact i_sub_less2 ‹_› ‹_› ‹_› | exact n_sum ‹_› ‹_› ‹_› ‹_› rfl))
  k_with "k_mem" => (first | exact List.mem_cons_self | with_reducible assumption | (refine List.mem_cons_of_mem _ ?_; k_mem))
  k_with "k_all" => (exact AllNe.all (NInv.off (by with_reducible assumption) _ (by k_mem)))
  k_with "k_all" => (exact AllNe.all (by with_reducible assumption))
  k_with "compareOp NotIn str ref" => ((k_here; k_dflt (refine' notin_two ?n_w3 ?m_w3 ?b_w3 ?_; (case n_w3 => k_asm); (case m_w3 => k_mem); (case b_w3 => k_extra "notin"))))
  k_with "CompEnd" => ((k_here; k_dflt (refine LCg.CompEnd.intro (by with_reducible assumption) (by k_asm) _ (fun p hp => hp) (by first | with_reducible assumption | assumption) (by first | exact True.intro | exact Or.inr ⟨_, by k_mem, rfl, _, rfl⟩) ?_)))
  k_with "CompSrcT" => ((k_here; k_dflt (refine LCt.CompSrcT.ledger (by rfl) (by k_asm) (by k_asm) (by k_mem) (by first | size_fits | exact Nat.le_of_ble_eq_true rfl) ?_; intro g_q; (with_unfolding_all show LCt.CompRestT _ _ _ _ _ _ _ _ _ _ _ _ _ _ _ _ 4 _ _ _))))
  k_with "ct" => ((with_reducible show wpAny _ _ (call (Value.ref 311) [Value.ref _, Value.int _ _]) _ _ _); k_dflt (first | (refine wpAny_call ?_; refine' kind_U (by k_asm) (by k_asm) (by k_asm) (by k_asm) rfl rfl (by walk_at "u dp") (by walk_at "u un") (by with_reducible assumption) ?n ?h1 ?h2 ?h3 ?h4 ?_; (case n => exact news_of (by k_asm) (fun p hp => by (repeat (first | exact hp | exact (by k_extra "sub") | refine List.Mem.tail _ ?_)))); (case h1 => first | with_reducible assumption | omega | (simp only [List.length_append, List.length_set, List.length_cons, List.length_nil]; omega) | exact (by decide)); (case h2 => walk_at "u om"); (case h3 => k_extra "lk"); (case h4 => with_reducible assumption); k_whole; intro hp_q tkq_q kpp_q; (have F_q := after_noneF (by k_asm) kpp_q); (have N_q := after_noneN (by k_asm) kpp_q); walk_at "u end")))
  k_with "ct" => ((with_reducible show wpAny _ _ (call (Value.ref 339) [Value.ref _, Value.int _ _]) _ _ _); k_dflt (first | (refine wpAny_call ?_; refine' value_U (by k_asm) (by k_asm) (by k_asm) (by k_asm) rfl rfl (by walk_at "u dp") (by walk_at "u un") (by with_reducible assumption) ?n ?h1 ?h2 ?h3 ?h4 ?_; (case n => exact news_of (by k_asm) (fun p hp => by (repeat (first | exact hp | exact (by k_extra "sub") | refine List.Mem.tail _ ?_)))); (case h1 => first | with_reducible assumption | omega | (simp only [List.length_append, List.length_set, List.length_cons, List.length_nil]; omega) | exact (by decide)); (case h2 => walk_at "u om"); (case h3 => k_extra "lk"); (case h4 => with_reducible assumption); k_whole; intro hp_q tkq_q kpp_q; (have F_q := after_noneF (by k_asm) kpp_q); (have N_q := after_noneN (by k_asm) kpp_q); walk_at "u end")))
  k_with "ct" => ((with_reducible show wpAny _ _ (call (Value.ref 109) [Value.ref _, Value.int _ _]) _ _ _); k_dflt (first | (refine wpAny_call ?_; refine' beneath_A (by k_asm) (by k_asm) (by k_asm) (by k_asm) rfl rfl (by walk_at "u dp") (by walk_at "u un") (by with_reducible assumption) ?n ?hl ?h0 ?hr ?hk ?h1 ?hr1 ?hk1 ?h2 ?hr2 ?hk2 ?h3 ?hr3 ?hk3 ?_; (case n => exact news_of (by k_asm) (fun p hp => by (repeat (first | exact hp | exact (by k_extra "sub") | refine List.Mem.tail _ ?_)))); (case hl => first | with_reducible assumption | omega | (simp only [List.length_append, List.length_set, List.length_cons, List.length_nil]; omega) | exact (by decide)); (case h0 => walk_at "u om"); (case hr => with_reducible assumption); (case hk => with_reducible assumption); (case h1 => walk_at "u om"); (case hr1 => with_reducible assumption); (case hk1 => with_reducible assumption); (case h2 => walk_at "u om"); (case hr2 => with_reducible assumption); (case hk2 => with_reducible assumption); (case h3 => walk_at "u om"); (case hr3 => with_reducible assumption); (case hk3 => with_reducible assumption); k_whole; intro lp_q ep_q hp_q tkq_q hep_q kpp_q hn1_q; (have F_q := after_noneF (by k_asm) kpp_q); (have N_q := after_noneN (by k_asm) kpp_q); (have ne1_q := allNe_of hn1_q (by k_asm : News _ _ _ _)); (replace N_q := new_entry (by k_asm) N_q hn1_q hep_q); (simp only [AllNe, and_true] at ne1_q); (repeat (have _ := And.left ne1_q; replace ne1_q := And.right ne1_q)); walk_at "u end")))
  k_with "ct" => ((with_reducible show wpAny _ _ (call (Value.ref 109) [Value.ref _, Value.int _ _]) _ _ _); k_dflt (first | (refine wpAny_call ?_; refine' beneath_B (by k_asm) (by k_asm) (by k_asm) (by k_asm) rfl rfl (by walk_at "u dp") (by walk_at "u un") (by with_reducible assumption) ?n ?hl ?h0 ?hr ?hk ?h1 ?hr1 ?hk1 ?h2 ?hr2 ?hk2 ?h3 ?hr3 ?hk3 ?h4 ?hr4 ?hk4 ?_; (case n => exact news_of (by k_asm) (fun p hp => by (repeat (first | exact hp | exact (by k_extra "sub") | refine List.Mem.tail _ ?_)))); (case hl => first | with_reducible assumption | omega | (simp only [List.length_append, List.length_set, List.length_cons, List.length_nil]; omega) | exact (by decide)); (case h0 => walk_at "u om"); (case hr => with_reducible assumption); (case hk => with_reducible assumption); (case h1 => walk_at "u om"); (case hr1 => with_reducible assumption); (case hk1 => with_reducible assumption); (case h2 => walk_at "u om"); (case hr2 => with_reducible assumption); (case hk2 => with_reducible assumption); (case h3 => walk_at "u om"); (case hr3 => with_reducible assumption); (case hk3 => with_reducible assumption); (case h4 => walk_at "u om"); (case hr4 => with_reducible assumption); (case hk4 => with_reducible assumption); k_whole; intro lp_q ep_q hp_q tkq_q hep_q kpp_q hn1_q; (have F_q := after_noneF (by k_asm) kpp_q); (have N_q := after_noneN (by k_asm) kpp_q); (have ne1_q := allNe_of hn1_q (by k_asm : News _ _ _ _)); (replace N_q := new_entry (by k_asm) N_q hn1_q hep_q); (simp only [AllNe, and_true] at ne1_q); (repeat (have _ := And.left ne1_q; replace ne1_q := And.right ne1_q)); walk_at "u end")))
  exact True.intro
theorem string_value_code {w : World} {mean : ExcName → Option Value} {mg mb : Str → Option Value} {A₀ : Around} {dp un : Nat} {gd : Option (List Code)} {s : Shared} {base h₀ : Heap} {outer : List Env} {L : Addr} {m : Str → Option Value} {env : Env} {R : Result → Shared → Prop}
  (B : Below A₀ base outer h₀) (F : Fr h₀ L s.heap m) (X : (heapK w.params).In h₀) (T : Top viewK lo mean mg mb h₀) (hf : env.frame = some L) (hke : env.scope.kind = .function) {tr td rl : Addr} {tk0 : Tok} {en : Nat} {OL TL news : Led} {rows : List RowD} {as : List Addr} {n : Int} {t : Tok} {st : Str}
  (hdep : dp + 12 < 1000) (hun : un + 400 < 9900)
  (I : NInv w.params tr td rl tk0 OL TL en rows as) (N : News h₀ L s.heap news) (hsub : ∀ p ∈ OL, p ∈ news) (hl : rows.length < 1000) (hv : SV rows n st) (ht : st.length ≤ 100)
  (ret : ∀ (h' : Heap) (tk' : Nat) (vt : Tok), Fr h₀ L h' m → News h₀ L h' news → R (.ok (.ret (.str st vt))) { s with heap := h', toks := tk' }) :
  codeAny (model PySem.Challenge.rw_xm0671_01.row.prog w) (Around.mk none dp (some (env :: outer)) gd un) (.call (.ref 114) ⟨[.ref tr, .int n t], []⟩) R s := by
  cases hv with
  | plain h2 hr hk hm hv => exact sv_plain B F X T hf hke (by omega) (by omega) I N hsub hl (by omega) hr hk hm hv fun h' tk' F' N' => ret h' tk' _ F' N'
  | elA h2 hr hk hd a b c e =>
    obtain ⟨a2, r1, kt1, vt1, hr1, hk1, hv1, hd1⟩ := a
    obtain ⟨b2, r2, kt2, vt2, hr2, hk2, hv2, hd2⟩ := b
    obtain ⟨c2, r3, kt3, hr3, hk3, hd3⟩ := c
    subst e
    exact sv_A B F X T hf hke hdep hun I N hsub hl (by omega) hr hk hd (by omega) hr1 hd1 hk1 hv1 (by omega) hr2 hd2 hk2 hv2 (by omega) hr3 hd3 hk3 (by rw [← len_cat]; exact ht) ret
  | elB h2 hr hk hd a g2 hg gk gd b c e =>
    obtain ⟨a2, r1, kt1, vt1, hr1, hk1, hv1, hd1⟩ := a
    obtain ⟨b2, r2, kt2, vt2, hr2, hk2, hv2, hd2⟩ := b
    obtain ⟨c2, r3, kt3, hr3, hk3, hd3⟩ := c
    subst e
    exact sv_B B F X T hf hke hdep hun I N hsub hl (by omega) hr hk hd (by omega) hr1 hd1 hk1 hv1 (by omega) hr2 hd2 hk2 hv2 (by omega) hg gd gk (by omega) hr3 hd3 hk3 (by rw [← len_cat]; exact ht) ret

end
section
open LCg in
/-- what a block over two lists abreast is to do with the made zip -/
def ZGo (prog : Program) (w : World) (A : Around) (env : Env) (c elt iter : PySem.Expr) (a b : Str) (pa pb tp : Pos) (kk : Nat) (scope : Scope) (cl : List (Str × Addr)) (pos : Pos) (use : Option (Value → Sem Unit)) (Q : Value → Shared → Prop) (E : Value → Shared → Prop) (x : Value) (s₁ : Shared) : Prop :=
  wpAny (model prog w) A (pyIter x) (fun it s₂ => wpAny (model prog w) A (newList []) (fun acc s₃ => wpAny (model prog w) A (newFunctionEnv scope env.globals cl [] env.qual none .none (some env)) (fun cenv s₄ =>
    codeAny (model prog w) A (.compStart (.ListComp elt [⟨.Tuple [.Name a pa, .Name b pb] kk tp, iter, [c], 0⟩] scope pos) 0 it acc { cenv with scope := relabel scope env }) (compPost (model prog w) A E use Q acc cenv.locals) s₄) E s₃) E s₂) E s₁
def ZGoA (prog : Program) (w : World) (A : Around) (env : Env) (c elt iter : PySem.Expr) (a b y : Str) (pa pb tp py : Pos) (kk : Nat) (scope : Scope) (cl : List (Str × Addr)) (pos : Pos) (Q : Flow → Shared → Prop) (E : Value → Shared → Prop) (x : Value) (s₁ : Shared) : Prop :=
  ZGo prog w A env c elt iter a b pa pb tp kk scope cl pos (some (assign (.Name y py) env)) (fun _ s' => Q .next s') E x s₁
section
variable {prog : Program} {w : World} {A : Around} {E : Value → Shared → Prop} {s : Shared} {h₀ : Heap} {L : Addr} {m : Str → Option Value} {env : Env}
theorem zip_comp {elt iter c : PySem.Expr} {a b : Str} {pa pb tp : Pos} {kk : Nat} {scope : Scope} {cl : List (Str × Addr)} {pos : Pos} {Q : Value → Shared → Prop}
    (hclos : closureFor scope env = pure cl) (hkind : scope.kind = .function) (hnames : ∀ y ∈ scope.names, y.2 = .local → scope.names.lookup y.1 = some .local)
    (h : wpAny (model prog w) A (eval iter env) (ZGo prog w A env c elt iter a b pa pb tp kk scope cl pos none Q E) E s)
    (hs : ∀ x, foldedSetIterable iter env x = pure x := by intro _; rfl) :
    wpAny (model prog w) A (eval (.ListComp elt [⟨.Tuple [.Name a pa, .Name b pb] kk tp, iter, [c], 0⟩] scope pos) env) Q E s := by
  rw [eval_ListComp]
  exact wpAny_comprehension_free (use := none) rfl hs hclos hkind hnames h
theorem zip_assign {elt iter c : PySem.Expr} {a b y : Str} {pa pb tp py : Pos} {kk : Nat} {scope : Scope} {cl : List (Str × Addr)} {pos spos : Pos} {Q : Flow → Shared → Prop}
    (hsw : swapsWith (.ListComp elt [⟨.Tuple [.Name a pa, .Name b pb] kk tp, iter, [c], 0⟩] scope pos) (some (.Name y py)) spos.line env = pure true)
    (hclos : closureFor scope env = pure cl) (hkind : scope.kind = .function) (hnames : ∀ y ∈ scope.names, y.2 = .local → scope.names.lookup y.1 = some .local)
    (h : wpAny (model prog w) A (eval iter env) (ZGoA prog w A env c elt iter a b y pa pb tp py kk scope cl pos Q E) E s)
    (hs : ∀ x, foldedSetIterable iter env x = pure x := by intro _; rfl) :
    wpAny (model prog w) A (exec (.Assign [.Name y py] (.ListComp elt [⟨.Tuple [.Name a pa, .Name b pb] kk tp, iter, [c], 0⟩] scope pos) spos) env) Q E s := by
  rw [exec_Assign_Name_used _ _ _ _ hsw]
  refine wpAny_bind (wpAny_standAt (wpAny_bind ?_))
  show wpAny _ A (do let _ ← comprehension (.ListComp elt [⟨.Tuple [.Name a pa, .Name b pb] kk tp, iter, [c], 0⟩] scope pos) scope env _ (newList []) false (eval iter env) (some (assign (.Name y py) env))) _ _ s
  exact wpAny_bind (wpAny_mono (wpAny_comprehension_free (use := some (assign (.Name y py) env)) (Q := fun _ s' => Q .next s') rfl hs hclos hkind hnames h) (fun _ s' hq => wpAny_pure (wpAny_pure hq)) fun _ _ e => e)
/-- where no pair passes the test the block's list is empty -/
theorem zip_gen {use : Option (Value → Sem Unit)} {elt iter c : PySem.Expr} {a b : Str} {pa pb tp : Pos} {kk : Nat} {scope : Scope} {cl : List (Str × Addr)} {pos : Pos} {Q : Value → Shared → Prop} {news : Led} {l1 l2 : Addr} {xs ys : List Value}
    (hh : A.handled = none) (hcell : ∀ y ∈ scope.names, y.2 ≠ .cell) (hkind : scope.kind = .function) (hxa : scope.names.lookup a = some .local) (hxb : scope.names.lookup b = some .local) (hab : ¬ a = b)
    (F : Fr h₀ L s.heap m) (N : News h₀ L s.heap news) (hl1 : s.heap.IsList l1 xs.toArray) (hl2 : s.heap.IsList l2 ys.toArray)
    (test : ∀ (i : Nat) x y C oC m₂ h tk (E' : Value → Shared → Prop), xs[i]? = some x → ys[i]? = some y → LCg.NsObj oC m₂ → m₂ a = some x → m₂ b = some y → Fr h₀ L h m → News h₀ L h ((C, oC) :: news) →
      wpAny (model prog w) A (isTrue c (compEnvC scope cl C env) (eval c (compEnvC scope cl C env))) (fun ok s₃ => ok = false ∧ ∃ tk', s₃ = { s with heap := h, toks := tk' }) E' { s with heap := h, toks := tk })
    (fin : ∀ D C m' h tk, Fr h₀ L h m → News h₀ L h ((D, W.listOf #[] 0) :: news) → (∀ p ∈ news, p.1 < D) → h.Ns C m' → h₀.get? C = none → C ≠ L → (∀ p ∈ ((D, W.listOf #[] 0) :: news : Led), p.1 ≠ C) → compPost (model prog w) A E use Q (.ref D) C (.ok .next) { s with heap := h, toks := tk }) :
    wpAny (model prog w) A (call (.type "zip") [.ref l1, .ref l2]) (ZGo prog w A env c elt iter a b pa pb tp kk scope cl pos use Q E) E s := by
  have hlt1 : l1 < s.heap.objs.size := by obtain ⟨o, e, _⟩ := hl1; exact Heap.lt_size e
  have hlt2 : l2 < s.heap.objs.size := by obtain ⟨o, e, _⟩ := hl2; exact Heap.lt_size e
  refine call_zip_2 hl1 hl2 fun h₁ hz hTI hTO hi1 hi2 hsz hk => ?_
  unfold ZGo
  refine wpAny_pyIter_zip hz ?_
  generalize hz0 : s.heap.objs.size = z at hz hTI hTO hi1 hi2 hsz hlt1 hlt2
  have D : ZipApart (z + 4) (z + 2) (z + 3) z (z + 1) l1 l2 := ktu_apart _ _ _ hlt1 hlt2
  have Wz := WalksT.zip2 (prog := prog) (w := w) (A := A) hh (z + 4) (z + 2) (z + 3) z (z + 1) l1 l2 D xs.toArray ys.toArray
  generalize hn : min xs.toArray.size ys.toArray.size = n at Wz
  refine wpAny_newObj_type (wpAny_newFunctionEnv hcell (by intro y hy; simp at hy) (fun h₂ hns hsb => ?_) hkind)
  dsimp only at hns hsb ⊢
  generalize hH : h₁.push { cls := .type "list", dict := none, data := .seq ([] : List Value).toArray } = H at hns hsb ⊢
  have hHs : H.objs.size = z + 6 := by rw [← hH, Heap.size_push, hsz]
  have hD : h₁.objs.size = z + 5 := hsz
  have acc₀ : H.get? (z + 5) = some (W.listOf #[] 0) := by rw [← hH, ← hD]; exact Heap.get?_push_size _ rfl
  have up₁ : ∀ b o, h₁.get? b = some o → H.get? b = some o := fun b o e => hH ▸ Heap.get?_push_of_some _ e
  have up₂ : ∀ b o, H.get? b = some o → h₂.get? b = some o := fun b o e => hsb.extBut b o (Nat.ne_of_lt (Heap.lt_size e)) (Heap.get?_push_of_some _ e)
  rw [hHs] at hns
  have old : ∀ b o, s.heap.get? b = some o → h₂.get? b = some o := fun b o e => up₂ b o (up₁ b o (hk b o e))
  have mono : ∀ b o, h₁.get? b = some o → h₂.get? b = some o := fun b o e => up₂ b o (up₁ b o e)
  have st₀ : IsZip h₂ (z + 4) (z + 2) (z + 3) .none ∧ IsPair h₂ (z + 2) (.ref z) (.ref (z + 1)) ∧ (∃ a b, IsPair h₂ (z + 3) a b) ∧ h₂.IsListIter z l1 0 ∧ h₂.IsListIter (z + 1) l2 0 ∧ h₂.IsList l1 xs.toArray ∧ h₂.IsList l2 ys.toArray :=
    ⟨mono _ _ hz, mono _ _ hTI, ⟨_, _, mono _ _ hTO⟩, hi1.at fun o e => mono _ o e, hi2.at fun o e => mono _ o e, hl1.at fun o e => old _ o e, hl2.at fun o e => old _ o e⟩
  rw [hD, hHs]
  have ltz : ∀ b o, s.heap.get? b = some o → b < z := fun b o e => hz0 ▸ Heap.lt_size e
  have low : ∀ b, b < z → b ∉ [z + 4, z + 3, z, z + 1] ∧ b ≠ z + 6 := fun b hb => by
    refine ⟨fun q => ?_, ?_⟩
    · simp only [List.mem_cons, List.not_mem_nil, or_false] at q
      rcases q with q | q | q | q <;> (refine absurd hb ?_; rw [q]; omega)
    · exact Nat.ne_of_lt (Nat.lt_of_lt_of_le hb (Nat.le_add_right _ _))
  have acc₁ : (z + 5) ∉ [z + 4, z + 3, z, z + 1] := by simp
  have c₁ : (z + 6) ∉ [z + 4, z + 3, z, z + 1] := by simp
  have new₀ : ∀ b, z ≤ b → h₀.get? b = none := fun b hb => ktu_new F (hz0 ▸ hb)
  have hLz : L < z := hz0 ▸ F.ns.lt
  have loop : ∀ s₃ : Shared, s₃ = { s with heap := h₂, toks := s.toks + ([] : List (Str × Value)).length } →
      codeAny (model prog w) A (.compLoop (.ListComp elt [⟨.Tuple [.Name a pa, .Name b pb] kk tp, iter, [c], 0⟩] scope pos) 0 (.ref (z + 4)) (.ref (z + 5)) (compEnvC scope cl (z + 6) env)) (compPost (model prog w) A E use Q (.ref (z + 5)) (z + 6)) s₃ := by
    rintro s₃ rfl
    refine kct_loop (fun k s' => ∃ h' tk i m', s' = { s with heap := h', toks := tk } ∧ i ≤ n ∧ k = n + 1 - i ∧ (IsZip h' (z + 4) (z + 2) (z + 3) .none ∧ IsPair h' (z + 2) (.ref z) (.ref (z + 1)) ∧ (∃ a b, IsPair h' (z + 3) a b) ∧ h'.IsListIter z l1 i ∧ h'.IsListIter (z + 1) l2 i ∧ h'.IsList l1 xs.toArray ∧ h'.IsList l2 ys.toArray) ∧
      (∀ b o, s.heap.get? b = some o → h'.get? b = some o) ∧ h'.get? (z + 5) = some (W.listOf #[] 0) ∧ h'.Ns (z + 6) m') ?_ (n + 1) ⟨h₂, _, 0, _, rfl, Nat.zero_le _, rfl, st₀, old, up₂ _ _ acc₀, hns⟩
    rintro k s' ⟨h', tk, i, m', rfl, hi, rfl, hst, hold, hacc, hn'⟩
    by_cases hlt : i < n
    · refine Wz.item i _ _ _ hlt hst fun T vals h₃ tk₃ hP _ hT hM hk₃ => ?_
      refine Wz.go _ _ _ i T _ _ _ hM fun h₄ hst₄ hk₄ => ?_
      obtain ⟨x, y, hx, hy, rfl⟩ := hP
      have hT4 : h₄.IsTuple T #[x, y] := hT.at fun o e => hk₄ T o (Wz.apart i T _ hM) e
      have up₄ : ∀ b o, b ∉ [z + 4, z + 3, z, z + 1] → h'.get? b = some o → h₄.get? b = some o := fun b o hb e => hk₄ b o hb (hk₃ b o hb e)
      refine kcp_assign (env := compEnvC scope cl (z + 6) env) hh hT4 (lookup_relabel_local hxa) (lookup_relabel_local hxb) (by simp [compEnvC, relabel, hkind]) (hn'.at' fun o e => up₄ _ o c₁ e) fun h₅ tk₅ hn₅ hs₅ => ?_
      have up₅ : ∀ b o, b ∉ [z + 4, z + 3, z, z + 1] → b ≠ z + 6 → h'.get? b = some o → h₅.get? b = some o := fun b o hb hc e => hs₅ b o hc (up₄ b o hb e)
      have old₅ : ∀ b o, s.heap.get? b = some o → h₅.get? b = some o := fun b o e => up₅ b o (low b (ltz b o e)).1 (low b (ltz b o e)).2 (hold b o e)
      obtain ⟨oC, heC, hoC⟩ := LCg.ns_obj hn₅
      have N₅ : News h₀ L h₅ ((z + 6, oC) :: news) := fun q hq => by
        rcases List.mem_cons.mp hq with rfl | hq
        · exact ⟨heC, Ne.symm (Nat.ne_of_lt (Nat.lt_of_lt_of_le hLz (Nat.le_add_right _ _))), new₀ _ (Nat.le_add_right _ _)⟩
        · exact ⟨old₅ _ _ (N q hq).1, (N q hq).2⟩
      refine wpAny_mono (test i x y (z + 6) oC _ h₅ tk₅ _ (by simpa using hx) (by simpa using hy) hoC (by simp [hab]) (by simp) (F.keeps old₅) N₅) (fun okb s₅ h₅' => ?_) fun _ _ e => e
      obtain ⟨rfl, tk₆, rfl⟩ := h₅'
      simp only [Bool.false_eq_true, if_false]
      obtain ⟨sz1, sz2, ⟨ta, tb, sz3⟩, sz4, sz5, _, _⟩ := hst₄
      have cz : ∀ d : Nat, d < 6 → z + d ≠ z + 6 := fun d hd e => by omega
      refine ⟨n + 1 - (i + 1), by omega, h₅, tk₆, i + 1, _, rfl, hlt, rfl, ⟨hs₅ _ _ (cz 4 (by decide)) sz1, hs₅ _ _ (cz 2 (by decide)) sz2, ⟨ta, tb, hs₅ _ _ (cz 3 (by decide)) sz3⟩, sz4.at fun o e => hs₅ _ o (cz 0 (by decide)) e, sz5.at fun o e => hs₅ _ o (cz 1 (by decide)) e, hl1.at fun o e => old₅ _ o e, hl2.at fun o e => old₅ _ o e⟩,
        old₅, up₅ _ _ acc₁ (cz 5 (by decide)) hacc, hn₅⟩
    · have hin : i = n := Nat.le_antisymm hi (Nat.not_lt.mp hlt)
      subst hin
      refine Wz.done _ _ _ hst fun h₃ tk₃ hk₃ => ?_
      have old₃ : ∀ b o, s.heap.get? b = some o → h₃.get? b = some o := fun b o e => hk₃ b o (low b (ltz b o e)).1 (hold b o e)
      refine fin (z + 5) (z + 6) m' h₃ tk₃ (F.keeps old₃) (fun q hq => ?_) (fun p hp => Nat.lt_of_lt_of_le (ltz _ _ (N p hp).1) (Nat.le_add_right _ _)) (hn'.at' fun o e => hk₃ _ o c₁ e) (new₀ _ (Nat.le_add_right _ _)) (Ne.symm (Nat.ne_of_lt (Nat.lt_of_lt_of_le hLz (Nat.le_add_right _ _)))) (fun q hq => ?_)
      · rcases List.mem_cons.mp hq with rfl | hq
        · exact ⟨hk₃ _ _ acc₁ hacc, Ne.symm (Nat.ne_of_lt (Nat.lt_of_lt_of_le hLz (Nat.le_add_right _ _))), new₀ _ (Nat.le_add_right _ _)⟩
        · exact ⟨old₃ _ _ (N q hq).1, (N q hq).2⟩
      · rcases List.mem_cons.mp hq with rfl | hq
        · exact Nat.ne_of_lt (Nat.lt_succ_self (z + 5))
        · exact (low _ (ltz _ _ (N q hq).1)).2
  refine codeAny_compStart_list (loop _ rfl) (Wz.self 0 _ _ _ st₀ (loop _ rfl))
theorem zip_none {elt iter c : PySem.Expr} {a b : Str} {pa pb tp : Pos} {kk : Nat} {scope : Scope} {cl : List (Str × Addr)} {pos : Pos} {Q : Value → Shared → Prop} {news : Led} {l1 l2 : Addr} {xs ys : List Value}
    (hh : A.handled = none) (hcell : ∀ y ∈ scope.names, y.2 ≠ .cell) (hkind : scope.kind = .function) (hxa : scope.names.lookup a = some .local) (hxb : scope.names.lookup b = some .local) (hab : ¬ a = b)
    (F : Fr h₀ L s.heap m) (N : News h₀ L s.heap news) (hl1 : s.heap.IsList l1 xs.toArray) (hl2 : s.heap.IsList l2 ys.toArray)
    (test : ∀ (i : Nat) x y C oC m₂ h tk (E' : Value → Shared → Prop), xs[i]? = some x → ys[i]? = some y → LCg.NsObj oC m₂ → m₂ a = some x → m₂ b = some y → Fr h₀ L h m → News h₀ L h ((C, oC) :: news) →
      wpAny (model prog w) A (isTrue c (compEnvC scope cl C env) (eval c (compEnvC scope cl C env))) (fun ok s₃ => ok = false ∧ ∃ tk', s₃ = { s with heap := h, toks := tk' }) E' { s with heap := h, toks := tk })
    (fin : ∀ D h tk, Fr h₀ L h m → News h₀ L h ((D, W.listOf #[] 0) :: news) → (∀ p ∈ news, p.1 < D) → Q (.ref D) { s with heap := h, toks := tk }) :
    wpAny (model prog w) A (call (.type "zip") [.ref l1, .ref l2]) (ZGo prog w A env c elt iter a b pa pb tp kk scope cl pos none Q E) E s := by
  refine zip_gen hh hcell hkind hxa hxb hab F N hl1 hl2 test fun D C m' h tk F' N' lt hn hC₀ hCL offC => ⟨m', hn, fun h'' hs'' => fin D h'' tk (F'.change hs'' hCL hC₀) (fun p hp => ?_) lt⟩
  exact ⟨hs''.extBut _ _ (offC p hp) (N' p hp).1, (N' p hp).2⟩
theorem zip_none_as {elt iter c : PySem.Expr} {a b y : Str} {pa pb tp py : Pos} {kk : Nat} {scope : Scope} {cl : List (Str × Addr)} {pos : Pos} {Q : Flow → Shared → Prop} {news : Led} {l1 l2 : Addr} {xs ys : List Value}
    (hh : A.handled = none) (hcell : ∀ y ∈ scope.names, y.2 ≠ .cell) (hkind : scope.kind = .function) (hxa : scope.names.lookup a = some .local) (hxb : scope.names.lookup b = some .local) (hab : ¬ a = b)
    (hy : env.kindOf y = some .local) (hp : (env.scope.kind == .class || (env.scope.kind == .module && env.locals != env.globals)) = false)
    (F : Fr h₀ env.locals s.heap m) (N : News h₀ env.locals s.heap news) (hl1 : s.heap.IsList l1 xs.toArray) (hl2 : s.heap.IsList l2 ys.toArray)
    (test : ∀ (i : Nat) x y C oC m₂ h tk (E' : Value → Shared → Prop), xs[i]? = some x → ys[i]? = some y → LCg.NsObj oC m₂ → m₂ a = some x → m₂ b = some y → Fr h₀ env.locals h m → News h₀ env.locals h ((C, oC) :: news) →
      wpAny (model prog w) A (isTrue c (compEnvC scope cl C env) (eval c (compEnvC scope cl C env))) (fun ok s₃ => ok = false ∧ ∃ tk', s₃ = { s with heap := h, toks := tk' }) E' { s with heap := h, toks := tk })
    (fin : ∀ D h tk, Fr h₀ env.locals h (fun z => if z = y then some (.ref D) else m z) → News h₀ env.locals h ((D, W.listOf #[] 0) :: news) → (∀ p ∈ news, p.1 < D) → Q .next { s with heap := h, toks := tk }) :
    wpAny (model prog w) A (call (.type "zip") [.ref l1, .ref l2]) (ZGoA prog w A env c elt iter a b y pa pb tp py kk scope cl pos Q E) E s := by
  refine zip_gen hh hcell hkind hxa hxb hab F N hl1 hl2 test fun D C m' h tk F' N' lt hn hC₀ hCL offC => ?_
  show wpAny _ A (assign (.Name y py) env (.ref D)) _ _ _
  refine wpAny_assign_Name (wpAny_storeName_local hy F'.ns (fun h₂ hn₂ hs₂ => ?_) hp)
  have hL₀ : h₀.get? env.locals = none := Heap.get?_none_of_le F'.above
  have F₂ : Fr h₀ env.locals h₂ (fun z => if z = y then some (.ref D) else m z) := ⟨hn₂, fun b o e => hs₂.extBut b o (fun q => by rw [q, hL₀] at e; cases e) (F'.keep b o e), F'.above⟩
  refine ⟨m', hn.sameBut hs₂ hCL, fun h'' hs'' => fin D h'' _ (F₂.change hs'' hCL hC₀) (fun p hp => ?_) lt⟩
  have z : h₂.get? p.1 = some p.2 := hs₂.extBut _ _ (N' p hp).2.1 (N' p hp).1
  exact ⟨hs''.extBut _ _ (offC p hp) z, (N' p hp).2⟩
end

end
section
/-- a tuple of two numbers, made by the call or the top's NAN -/
def TupAt (news : Led) (v : Value) (p q : Int) : Prop := (∃ a t1 t2, v = .ref a ∧ (a, tupO [.int p t1, .int q t2]) ∈ news) ∨ (v = .ref 22 ∧ p = 0 ∧ q = 0)
theorem TupAt.obj {news : Led} {v : Value} {p q : Int} {h₀ h : Heap} {L : Addr} {P : Params} (t : TupAt news v p q) (N : News h₀ L h news) (X : (heapK P).In h) : ∃ a o t1 t2 n, v = .ref a ∧ h.get? a = some o ∧ o.cls = .type "tuple" ∧ o.data = .seq #[.int p t1, .int q t2] n := by
  rcases t with ⟨a, t1, t2, rfl, hm⟩ | ⟨rfl, rfl, rfl⟩
  · exact ⟨a, _, t1, t2, _, rfl, (N _ hm).1, rfl, rfl⟩
  · have e := X _ _ (by k_is : List.lookup 22 (heapK P) = some _)
    exact ⟨22, _, _, _, _, rfl, e, rfl, rfl⟩
theorem TupAt.ref {news : Led} {v : Value} {p q : Int} (t : TupAt news v p q) : ∃ a, v = .ref a := by
  rcases t with ⟨a, t1, t2, rfl, hm⟩ | ⟨rfl, rfl, rfl⟩
  · exact ⟨_, rfl⟩
  · exact ⟨_, rfl⟩
theorem TupAt.more {news news' : Led} {v : Value} {p q : Int} (t : TupAt news v p q) (h : ∀ x ∈ news, x ∈ news') : TupAt news' v p q := by
  rcases t with ⟨a, t1, t2, rfl, hm⟩ | ⟨rfl, rfl, rfl⟩
  · exact .inl ⟨a, t1, t2, rfl, h _ hm⟩
  · exact .inr ⟨rfl, rfl, rfl⟩
theorem TupAt.reads {news : Led} {v : Value} {p q : Int} {h₀ h : Heap} {L : Addr} {P : Params} (t : TupAt news v p q) (N : News h₀ L h news) (X : (heapK P).In h) : Reads h v (.tuple [.int p, .int q]) [] := by
  obtain ⟨a, o, t1, t2, n, rfl, e, hc, hd⟩ := t.obj N X
  exact reads_tuple_at e hc hd (.cons (.int _ _) (.cons (.int _ _) .nil))
theorem TupAt.kit {news : Led} {a : Addr} {p q : Int} {h₀ h : Heap} {L : Addr} {P : Params} (t : TupAt news (.ref a) p q) (N : News h₀ L h news) (X : (heapK P).In h) : KitAt a "tuple" h := by
  obtain ⟨b, o, t1, t2, n, e0, e, hc, _⟩ := t.obj N X
  cases e0
  exact ⟨o, e, hc⟩
theorem ne_tup {prog : Program} {w : World} {A : Around} {E : Value → Shared → Prop} {s : Shared} {x y : Value} {p q : Int} {Q : Value → Shared → Prop} (ha : Reads s.heap x (.tuple [.int p, .int q]) []) (hb : Reads s.heap y (.tuple [.int p, .int q]) []) (hu : A.units + 64 < cLine) (h : Q (.bool false) s) :
    wpAny (model prog w) A (compareOp .NotEq x y) Q E s := by
  refine ne_dataH ha hb rfl rfl hu ?_
  have e : (!PyData.eqv (.tuple [.int p, .int q]) (.tuple [.int p, .int q])) = false := by simp [PyData.eqv, PyData.eqvAll]
  rw [e]; exact h
inductive Same (news : Led) : Value → Value → Prop
  | str (st : Str) (t t' : Tok) : Same news (.str st t) (.str st t')
  | bool (b : Bool) : Same news (.bool b) (.bool b)
  | num {x y : Value} {p q : Int} : TupAt news x p q → TupAt news y p q → Same news x y
theorem len_k {prog : Program} {w : World} {A : Around} {E : Value → Shared → Prop} {s : Shared} {h₀ : Heap} {L : Addr} {news : Led} {l : Addr} {vs : List Value} {n k : Nat} {Q : Value → Shared → Prop} (N : News h₀ L s.heap news) (hm : (l, W.listOf vs.toArray n) ∈ news) (hk : vs.length = k) (hfit : k < 1000000)
    (h : Q (.int k (s.toks + 1)) { s with toks := s.toks + 1 + 1 }) : wpAny (model prog w) A (call (.builtin "len") [.ref l]) Q E s := len_L N hm (hk ▸ hfit) (by rw [hk]; exact h)
theorem wd1_W1 : True := by
  k_with_none
  k_with "u lt" => (with_reducible (first | assumption | exact cl0 ‹_› | exact cl1 ‹_› | exact cl2 ‹_› | exact cl3 ‹_› | exact cl4 ‹_› | exact cl5 ‹_› | exact cl6 ‹_› | exact cl7 ‹_› | exact cl8 ‹_› | exact cl9 ‹_› | exact cl10 ‹_› | exact cl11 ‹_› | exact cr1 ‹_› | exact cr2 ‹_› | exact cr3 ‹_› | exact cr4 ‹_› | exact cr5 ‹_› | exact cr6 ‹_› | exact cr7 ‹_› | exact cr8 ‹_› | exact cr9 ‹_› | exact cr10 ‹_› | exact cr11 ‹_›))
  k_with "u room" => (first | exact room3 (by with_reducible assumption) rfl | exact room2 (by with_reducible assumption) rfl | exact room4 (by with_reducible assumption) rfl | exact room1 (by with_reducible assumption) | exact roomc (by with_reducible assumption) rfl | exact roome (by with_reducible assumption) rfl | exact roomd (by with_reducible assumption) rfl | exact roomn rfl | exact Nat.le_of_ble_eq_true rfl)
  k_with "call ref" => ((k_here; k_extra "ct"))
  k_with "u dp" => (((try simp only [depth_deeper, depth_in1, depth_caller]); (try dsimp only); first | walk_at "u room" | omega))
  k_with "u un" => (((try simp only [units_deeper, units_in1, units_caller]); (try dsimp only); first | walk_at "u room" | omega))
  k_with "u end" => (((try k_sweep); (try dsimp only); (try ((fail_if_success (with_reducible show wpAny _ _ _ _ _ _)); refine peel ?_)); (try k_fold)))
  k_with "u om" => (first | walk_at "u lt" | walk_at "u room" | exact Nat.le_of_ble_eq_true rfl | omega)
  k_with "k_ne" => (first | exact NeA.ne (by with_reducible assumption) | exact Ne.symm (NeA.ne (by with_reducible assumption)) | exact Nat.ne_of_gt (by walk_at "u lt") | exact Nat.ne_of_lt (by walk_at "u lt"))
  k_with "k_room" => (((try simp only [depth_under_make, depth_under_kw, depth_in1, depth_deeper, depth_caller, recursionLimit]); (try dsimp only); first | walk_at "u room" | omega))
  k_with "k_units" => (first | ((try simp only [units_in1, units_deeper, Around.mark_units, units_caller]); (try dsimp only); walk_at "u room") | (have hcL9 := cLine_is; (try simp only [units_in1, units_deeper, Around.mark_units, units_caller]); (try dsimp only); omega))
  k_with "om" => (with_reducible ((fail_if_success exact True.intro); (fail_if_success exact not_false); first | decide | exact n_lt0 rfl | exact n_le0 rfl | exact n_ltlt ‹_› rfl | exact n_lelt ‹_› rfl | exact n_lele ‹_› rfl | exact n_ltle ‹_› rfl | exact n_eqlt ‹_› rfl | exact n_lelt2 ‹_› ‹_› rfl | exact n_lelt3 ‹_› ‹_› rfl | exact Int.natCast_nonneg _ | exact i_ngt rfl | exact i_ge ‹_› rfl | exact i_gt ‹_› rfl | exact i_gtn ‹_› rfl | exact i_gt64 ‹_› | exact i_lt ‹_› rfl | exact i_lt64 ‹_› rfl | exact i_lelt ‹_› rfl | exact i_le ‹_› rfl | exact i_ne ‹_› rfl | exact i_nlt ‹_› rfl | exact i_ltn ‹_› ‹_› rfl | exact i_ltn2 ‹_› ‹_› rfl | exact i_neg ‹_› | exact i_eqn ‹_› | exact i_succ ‹_› | exact Int.add_one_le_of_lt ‹_› | exact i_sub_less ‹_› ‹_› | exact i_sub_less2 ‹_› ‹_› ‹_› | exact n_sum ‹_› ‹_› ‹_› ‹_› rfl))
  k_with "k_mem" => (first | exact List.mem_cons_self | with_reducible assumption | (refine List.mem_cons_of_mem _ ?_; k_mem))
  k_with "exec Assign cons ListComp" => ((k_here; k_dflt (refine zip_assign (by with_unfolding_all rfl) (by rfl) (by rfl) (by decide) ?_)))
  k_with "call type:zip" => ((k_here; k_dflt (refine' zip_none_as (by rfl) (by decide) (by rfl) (by rfl) (by rfl) (by decide) (by rfl) (by rfl) ?F_w2 ?N_w2 ?l1_w2 ?l2_w2 ?_ ?_; (case F_w2 => k_asm); (case N_w2 => k_asm); (case l1_w2 => exact (News.isList (by k_asm) (by k_mem))); (case l2_w2 => exact (News.isList (by k_asm) (by k_mem))); (all_goals first | (intro i_q x_q y_q C_q oC_q m_q h_q tk_q E_q hx_q hy_q hC_q ha_q hb_q F_q N_q; k_extra "cases") | (intro D_q h_q tk_q F_q N_q l1_q; (try dsimp only))))))
  k_with "compareOp NotEq ref ref" => ((k_here; k_dflt (refine ne_tup (TupAt.reads (by with_reducible assumption) (news_of (by k_asm) (fun p hp => by (repeat (first | exact hp | refine List.Mem.tail _ ?_)))) (by k_in)) (TupAt.reads (by with_reducible assumption) (news_of (by k_asm) (fun p hp => by (repeat (first | exact hp | refine List.Mem.tail _ ?_)))) (by k_in)) (by ke_room) ?_)))
  k_with "call builtin:isinstance" => ((k_here; (with_reducible show wpAny _ _ (call _ [Value.ref _, Value.type _]) _ _ _); k_dflt (refine' kia_one kitx_tuple ?X_w4 ?p_w4 ?ee_w4 ?nb_w4 ?_; (case X_w4 => k_in); (case p_w4 => exact TupAt.kit (by with_reducible assumption) (news_of (by k_asm) (fun p hp => by (repeat (first | exact hp | refine List.Mem.tail _ ?_)))) (by k_in)); (case ee_w4 => kit_is); (case nb_w4 => kit_nb); k_whole; intro _)))
  k_with "call builtin:len" => ((k_here; (with_reducible show wpAny _ _ (call (Value.builtin "len") [Value.ref _]) _ _ _); k_dflt (refine' len_k ?n_w5 ?m_w5 ?h_w5 ?f_w5 ?_; (case n_w5 => k_asm); (case m_w5 => k_mem); (case h_w5 => with_reducible assumption); (case f_w5 => omega); k_whole)))
  exact True.intro
theorem is_same_code {w : World} {mean : ExcName → Option Value} {mg mb : Str → Option Value} {A₀ : Around} {dp un : Nat} {gd : Option (List Code)} {s : Shared} {base h₀ : Heap} {outer : List Env} {L : Addr} {m : Str → Option Value} {env : Env} {R : Result → Shared → Prop}
  (B : Below A₀ base outer h₀) (F : Fr h₀ L s.heap m) (X : (heapK w.params).In h₀) (T : Top viewK lo mean mg mb h₀) (hf : env.frame = some L) (hke : env.scope.kind = .function) {news : Led} {l1 l2 : Addr} {xs ys : List Value} {n1 n2 : Nat}
  (hdep : dp + 3 < 1000) (hun : un + 100 < 9900)
  (N : News h₀ L s.heap news) (hm1 : (l1, W.listOf xs.toArray n1) ∈ news) (hm2 : (l2, W.listOf ys.toArray n2) ∈ news) {k : Nat} (hlen1 : xs.length = k) (hlen2 : ys.length = k) (hl : k < 1000)
  (same : ∀ (i : Nat) x y, xs[i]? = some x → ys[i]? = some y → Same news x y)
  (ret : ∀ (h' : Heap) (tk' : Nat), Fr h₀ L h' m → News h₀ L h' news → R (.ok (.ret (.bool true))) { s with heap := h', toks := tk' }) :
  codeAny (model PySem.Challenge.rw_xm0671_01.row.prog w) (Around.mk none dp (some (env :: outer)) gd un) (.call (.ref 449) ⟨[.ref l1, .ref l2], []⟩) R s := by
  k_dflt (refine' code_defG ?k1 ?k2 ?k3 ?k4 ?k5 ?kA ?kF ?kK ?k6 ?k7 ?k8 ?k9 ?kB ?_ ?c2 ?c3 ?c4 ?c5; (case kA => exact rfl); (case kF => exact hf); (case kK => exact hke); (case k1 => k_asm); (case k2 => k_asm); (case k3 => k_asm); (case k4 => k_asm); (case k5 => k_asm); (case k6 => k_is); (case k7 => k_is); (case k8 => (simp only [recursionLimit]; first | walk_at "u room" | omega)); (case k9 => first | exact BindsTo.of_eq rfl | exact binds_K (by k_in) rfl (by k_is) rfl rfl rfl | fail "k_enter: no rule for these arguments"); (case c5 => decide); (case kB => exact locs rfl); (case c2 => exact rfl); (case c3 => exact rfl); (case c4 => exact rfl); k_whole)
  intro g' L' h' FG' F' N' B' X' T' kG'
  try dsimp only
  try k_fold
  k_with "cases" => (rename (xs[_]? = some _) => hx; rename (ys[_]? = some _) => hy; rcases same _ _ _ hx hy with ⟨st, t, t'⟩ | ⟨bb⟩ | ⟨ta1, ta2⟩ <;> (try (have zr1 := ta1.ref; have zr2 := ta2.ref; obtain ⟨a1, rfl⟩ := zr1; obtain ⟨a2, rfl⟩ := zr2)))
  k_steps
  all_goals (first | (exact bne_self_eq_false _) | (exact Bool.bne_self_eq_false _) | skip)
  · exfalso
    first
      | omega
      | (rename (_ = true) => hz; exact absurd hz (by simp))
      | simp_all
  · rename Fr h₀ L _ _ => zF
    rename News h₀ L _ _ => zN
    exact ret _ _ zF (news_of zN (fun p hp => by (repeat (first | exact hp | refine List.Mem.tail _ ?_))))

end
section
def eqb (st : Str) : Bool := (st == Str.ofString "=") || (st == Str.ofString "!=")
theorem is_equality_code {w : World} {mean : ExcName → Option Value} {mg mb : Str → Option Value} {A₀ : Around} {dp un : Nat} {gd : Option (List Code)} {s : Shared} {base h₀ : Heap} {outer : List Env} {L : Addr} {m : Str → Option Value} {env : Env} {R : Result → Shared → Prop}
  (B : Below A₀ base outer h₀) (F : Fr h₀ L s.heap m) (X : (heapK w.params).In h₀) (T : Top viewK lo mean mg mb h₀) (hf : env.frame = some L) (hke : env.scope.kind = .function) {st : Str} {t : Tok}
  (hdep : dp + 3 < 1000) (hun : un + 24 < 9900)
  (ret : ∀ (h' : Heap) (tk' : Nat), Keeps [] s.heap h' → R (.ok (.ret (.bool (eqb st)))) { s with heap := h', toks := tk' }) :
  codeAny (model PySem.Challenge.rw_xm0671_01.row.prog w) (Around.mk none dp (some (env :: outer)) gd un) (.call (.ref 135) ⟨[.str st t], []⟩) R s := by
  have N : News h₀ L s.heap [] := News.nil
  k_dflt (refine' code_defG ?k1 ?k2 ?k3 ?k4 ?k5 ?kA ?kF ?kK ?k6 ?k7 ?k8 ?k9 ?kB ?_ ?c2 ?c3 ?c4 ?c5; (case kA => exact rfl); (case kF => exact hf); (case kK => exact hke); (case k1 => k_asm); (case k2 => k_asm); (case k3 => k_asm); (case k4 => k_asm); (case k5 => k_asm); (case k6 => k_is); (case k7 => k_is); (case k8 => (simp only [recursionLimit]; first | walk_at "u room" | omega)); (case k9 => first | exact BindsTo.of_eq rfl | exact binds_K (by k_in) rfl (by k_is) rfl rfl rfl | fail "k_enter: no rule for these arguments"); (case c5 => decide); (case kB => exact locs rfl); (case c2 => exact rfl); (case c3 => exact rfl); (case c4 => exact rfl); k_whole)
  intro g' L' h' FG' F' N' B' X' T' kG'
  try dsimp only
  try k_fold
  k_steps
  all_goals (rename Fr g' L' _ _ => zF; rename News g' L' _ _ => zN)
  · rename ((st == Str.ofString "=") = true) => hz
    have e : eqb st = (st == Str.ofString "=") := by unfold eqb; rw [hz]; rfl
    rw [← e]
    exact ret _ _ (keeps_of kG' zF)
  · rename ((st == Str.ofString "=") = false) => hz
    have e : eqb st = (st == Str.ofString "!=") := by unfold eqb; rw [hz]; rfl
    rw [← e]
    exact ret _ _ (keeps_of kG' zF)

theorem wd1_W2 : True := by
  k_with_none
  k_with "u lt" => (with_reducible (first | assumption | exact cl0 ‹_› | exact cl1 ‹_› | exact cl2 ‹_› | exact cl3 ‹_› | exact cl4 ‹_› | exact cl5 ‹_› | exact cl6 ‹_› | exact cl7 ‹_› | exact cl8 ‹_› | exact cl9 ‹_› | exact cl10 ‹_› | exact cl11 ‹_› | exact cr1 ‹_› | exact cr2 ‹_› | exact cr3 ‹_› | exact cr4 ‹_› | exact cr5 ‹_› | exact cr6 ‹_› | exact cr7 ‹_› | exact cr8 ‹_› | exact cr9 ‹_› | exact cr10 ‹_› | exact cr11 ‹_›))
  k_with "u room" => (first | exact room3 (by with_reducible assumption) rfl | exact room2 (by with_reducible assumption) rfl | exact room4 (by with_reducible assumption) rfl | exact room1 (by with_reducible assumption) | exact roomc (by with_reducible assumption) rfl | exact roome (by with_reducible assumption) rfl | exact roomd (by with_reducible assumption) rfl | exact roomn rfl | exact Nat.le_of_ble_eq_true rfl)
  k_with "call ref" => ((k_here; k_extra "ct"))
  k_with "u dp" => (((try simp only [depth_deeper, depth_in1, depth_caller]); (try dsimp only); first | walk_at "u room" | omega))
  k_with "u un" => (((try simp only [units_deeper, units_in1, units_caller]); (try dsimp only); first | walk_at "u room" | omega))
  k_with "u end" => (((try k_sweep); (try dsimp only); (try ((fail_if_success (with_reducible show wpAny _ _ _ _ _ _)); refine peel ?_)); (try k_fold)))
  k_with "u om" => (first | walk_at "u lt" | walk_at "u room" | exact Nat.le_of_ble_eq_true rfl | omega)
  k_with "k_ne" => (first | exact NeA.ne (by with_reducible assumption) | exact Ne.symm (NeA.ne (by with_reducible assumption)) | exact Nat.ne_of_gt (by walk_at "u lt") | exact Nat.ne_of_lt (by walk_at "u lt"))
  k_with "k_room" => (((try simp only [depth_under_make, depth_under_kw, depth_in1, depth_deeper, depth_caller, recursionLimit]); (try dsimp only); first | walk_at "u room" | omega))
  k_with "k_units" => (first | ((try simp only [units_in1, units_deeper, Around.mark_units, units_caller]); (try dsimp only); walk_at "u room") | (have hcL9 := cLine_is; (try simp only [units_in1, units_deeper, Around.mark_units, units_caller]); (try dsimp only); omega))
  k_with "om" => (with_reducible ((fail_if_success exact True.intro); (fail_if_success exact not_false); first | decide | exact n_lt0 rfl | exact n_le0 rfl | exact n_ltlt ‹_› rfl | exact n_lelt ‹_› rfl | exact n_lele ‹_› rfl | exact n_ltle ‹_› rfl | exact n_eqlt ‹_› rfl | exact n_lelt2 ‹_› ‹_› rfl | exact n_lelt3 ‹_› ‹_› rfl | exact Int.natCast_nonneg _ | exact i_ngt rfl | exact i_ge ‹_› rfl | exact i_gt ‹_› rfl | exact i_gtn ‹_› rfl | exact i_gt64 ‹_› | exact i_lt ‹_› rfl | exact i_lt64 ‹_› rfl | exact i_lelt ‹_› rfl | exact i_le ‹_› rfl | exact i_ne ‹_› rfl | exact i_nlt ‹_› rfl | exact i_ltn ‹_› ‹_› rfl | exact i_ltn2 ‹_› ‹_› rfl | exact i_neg ‹_› | exact i_eqn ‹_› | exact i_succ ‹_› | exact Int.add_one_le_of_lt ‹_› | exact i_sub_less ‹_› ‹_› | exact i_sub_less2 ‹_› ‹_› ‹_› | exact n_sum ‹_› ‹_› ‹_› ‹_› rfl))
  k_with "ct" => ((with_reducible show wpAny _ _ (call (Value.ref 135) [Value.str _ _]) _ _ _); k_dflt (first | (refine wpAny_call ?_; refine' is_equality_code (by k_asm) (by k_asm) (by k_asm) (by k_asm) rfl rfl (by walk_at "u dp") (by walk_at "u un")  ?_; k_whole; intro hp_q tkq_q kpp_q; (have F_q := after_noneF (by k_asm) kpp_q); (have N_q := after_noneN (by k_asm) kpp_q); walk_at "u end")))
  exact True.intro
theorem read_number_U {w : World} {mean : ExcName → Option Value} {mg mb : Str → Option Value} {A₀ : Around} {dp un : Nat} {gd : Option (List Code)} {s : Shared} {base h₀ : Heap} {outer : List Env} {L : Addr} {m : Str → Option Value} {env : Env} {R : Result → Shared → Prop}
  (B : Below A₀ base outer h₀) (F : Fr h₀ L s.heap m) (X : (heapK w.params).In h₀) (T : Top viewK lo mean mg mb h₀) (hf : env.frame = some L) (hke : env.scope.kind = .function) {t : Tok} {st : Str}
  (hdep : dp + 12 < 1000) (hun : un + 144 < 9900) (h1 : st ∈ textsT)
  (ret : ∀ (v : Value) (T' : Led) (h' : Heap) (tk' : Nat), Keeps [] s.heap h' → Holds h' T' → Fresh s.heap T' → TupAt T' v (numbered st).1 (numbered st).2 → R (.ok (.ret v)) { s with heap := h', toks := tk' }) :
  codeAny (model PySem.Challenge.rw_xm0671_01.row.prog w) (Around.mk none dp (some (env :: outer)) gd un) (.call (.ref 87) ⟨[.str st t], []⟩) R s := by
  have K := text_ok h1
  refine read_number_code B F X T hf hke hdep hun (by have := K.len; omega) K.clean K.h1 K.h0 (fun h' tk' kp e => ?_) fun ar p q t' t2' h' tk' e kp fr eq => ?_
  · refine ret _ [] h' tk' kp (fun _ hp => nomatch hp) (fun _ hp => nomatch hp) (.inr ⟨rfl, ?_, ?_⟩)
    · rw [← K.num, e]
    · rw [← K.num, e]
  · refine ret _ [(ar, tupO [.int p t', .int q t2'])] h' tk' kp (fun x hp => ?_) (fun x hp => ?_) (.inl ⟨ar, t', t2', rfl, ?_⟩)
    · rw [List.mem_singleton.mp hp]; exact e
    · rw [List.mem_singleton.mp hp]; exact fr
    · rw [← K.num, eq]; exact .head _
theorem numbered_U {w : World} {mean : ExcName → Option Value} {mg mb : Str → Option Value} {A₀ : Around} {dp un : Nat} {gd : Option (List Code)} {s : Shared} {base h₀ : Heap} {outer : List Env} {L : Addr} {m : Str → Option Value} {env : Env} {R : Result → Shared → Prop}
  (B : Below A₀ base outer h₀) (F : Fr h₀ L s.heap m) (X : (heapK w.params).In h₀) (T : Top viewK lo mean mg mb h₀) (hf : env.frame = some L) (hke : env.scope.kind = .function) {t : Tok} {st : Str}
  (hdep : dp + 3 < 1000) (hun : un + 24 < 9900)
  (ret : ∀ (v : Value) (T' : Led) (h' : Heap) (tk' : Nat), Keeps [] s.heap h' → Holds h' T' → Fresh s.heap T' → TupAt T' v (numbered st).1 (numbered st).2 → R (.ok (.ret v)) { s with heap := h', toks := tk' }) :
  codeAny (model PySem.Challenge.rw_xm0671_01.row.prog w) (Around.mk none dp (some (env :: outer)) gd un) (.call (.ref 430) ⟨[.str st t], []⟩) R s := by
  refine numbered_code B F X T hf hke hdep hun fun ar p q t' t2' h' tk' e kp fr eq => ?_
  refine ret _ [(ar, tupO [.int p t', .int q t2'])] h' tk' kp (fun x hp => ?_) (fun x hp => ?_) (.inl ⟨ar, t', t2', rfl, ?_⟩)
  · rw [List.mem_singleton.mp hp]; exact e
  · rw [List.mem_singleton.mp hp]; exact fr
  · rw [eq]; exact .head _
/-- what stands on the other side: is it a tuple? -/
inductive Oth (news : Led) : Value → Bool → Prop
  | bool (b : Bool) : Oth news (.bool b) false
  | str (st : Str) (t : Tok) : Oth news (.str st t) false
  | lst {a : Addr} {vs : List Value} {e : Nat} : (a, W.listOf vs.toArray e) ∈ news → Oth news (.ref a) false
  | tup {v : Value} {p q : Int} : TupAt news v p q → Oth news v true
theorem Oth.more {news news' : Led} {v : Value} {b : Bool} (o : Oth news v b) (h : ∀ x ∈ news, x ∈ news') : Oth news' v b := by
  cases o with
  | bool b => exact .bool b
  | str st t => exact .str st t
  | lst m => exact .lst (h _ m)
  | tup t => exact .tup (t.more h)
theorem isi_tup {w : World} {A : Around} {E : Value → Shared → Prop} {s : Shared} {h₀ : Heap} {L : Addr} {news : Led} {v : Value} {b : Bool} {Q : Value → Shared → Prop} (o : Oth news v b) (N : News h₀ L s.heap news) (X : (heapK w.params).In s.heap) (h : ∀ tk, Q (.bool b) { s with toks := tk }) :
    wpAny (model PySem.Challenge.rw_xm0671_01.row.prog w) A (call (.builtin "isinstance") [v, .type "tuple"]) Q E s := by
  cases o with
  | bool b => exact kia_one kitx_bool X trivial (by kit_is) (by kit_nb) h
  | str st t => exact kia_one kitx_str X trivial (by kit_is) (by kit_nb) h
  | lst m => exact kia_one kitx_list X (kitAt_N N m rfl) (by kit_is) (by kit_nb) h
  | tup t =>
    obtain ⟨a, rfl⟩ := t.ref
    exact kia_one kitx_tuple X (t.kit N X) (by kit_is) (by kit_nb) h

def ToldAt (k : Bool) (T : Led) (sts : List Str) (j : Nat) (y : Value) : Prop := ∃ st, sts[j]? = some st ∧ (if k = true then ∃ t, y = .str st t else TupAt T y (numbered st).1 (numbered st).2)
theorem wd2_W2 : True := by
  k_with_none
  k_with "u lt" => (with_reducible (first | assumption | exact cl0 ‹_› | exact cl1 ‹_› | exact cl2 ‹_› | exact cl3 ‹_› | exact cl4 ‹_› | exact cl5 ‹_› | exact cl6 ‹_› | exact cl7 ‹_› | exact cl8 ‹_› | exact cl9 ‹_› | exact cl10 ‹_› | exact cl11 ‹_› | exact cr1 ‹_› | exact cr2 ‹_› | exact cr3 ‹_› | exact cr4 ‹_› | exact cr5 ‹_› | exact cr6 ‹_› | exact cr7 ‹_› | exact cr8 ‹_› | exact cr9 ‹_› | exact cr10 ‹_› | exact cr11 ‹_›))
  k_with "u room" => (first | exact room3 (by with_reducible assumption) rfl | exact room2 (by with_reducible assumption) rfl | exact room4 (by with_reducible assumption) rfl | exact room1 (by with_reducible assumption) | exact roomc (by with_reducible assumption) rfl | exact roome (by with_reducible assumption) rfl | exact roomd (by with_reducible assumption) rfl | exact roomn rfl | exact Nat.le_of_ble_eq_true rfl)
  k_with "call ref" => ((k_here; k_extra "ct"))
  k_with "u dp" => (((try simp only [depth_deeper, depth_in1, depth_caller]); (try dsimp only); first | walk_at "u room" | omega))
  k_with "u un" => (((try simp only [units_deeper, units_in1, units_caller]); (try dsimp only); first | walk_at "u room" | omega))
  k_with "u end" => (((try k_sweep); (try dsimp only); (try ((fail_if_success (with_reducible show wpAny _ _ _ _ _ _)); refine peel ?_)); (try k_fold)))
  k_with "u om" => (first | walk_at "u lt" | walk_at "u room" | exact Nat.le_of_ble_eq_true rfl | omega)
  k_with "k_ne" => (first | exact NeA.ne (by with_reducible assumption) | exact Ne.symm (NeA.ne (by with_reducible assumption)) | exact Nat.ne_of_gt (by walk_at "u lt") | exact Nat.ne_of_lt (by walk_at "u lt"))
  k_with "k_room" => (((try simp only [depth_under_make, depth_under_kw, depth_in1, depth_deeper, depth_caller, recursionLimit]); (try dsimp only); first | walk_at "u room" | omega))
  k_with "k_units" => (first | ((try simp only [units_in1, units_deeper, Around.mark_units, units_caller]); (try dsimp only); walk_at "u room") | (have hcL9 := cLine_is; (try simp only [units_in1, units_deeper, Around.mark_units, units_caller]); (try dsimp only); omega))
  k_with "om" => (with_reducible ((fail_if_success exact True.intro); (fail_if_success exact not_false); first | decide | exact n_lt0 rfl | exact n_le0 rfl | exact n_ltlt ‹_› rfl | exact n_lelt ‹_› rfl | exact n_lele ‹_› rfl | exact n_ltle ‹_› rfl | exact n_eqlt ‹_› rfl | exact n_lelt2 ‹_› ‹_› rfl | exact n_lelt3 ‹_› ‹_› rfl | exact Int.natCast_nonneg _ | exact i_ngt rfl | exact i_ge ‹_› rfl | exact i_gt ‹_› rfl | exact i_gtn ‹_› rfl | exact i_gt64 ‹_› | exact i_lt ‹_› rfl | exact i_lt64 ‹_› rfl | exact i_lelt ‹_› rfl | exact i_le ‹_› rfl | exact i_ne ‹_› rfl | exact i_nlt ‹_› rfl | exact i_ltn ‹_› ‹_› rfl | exact i_ltn2 ‹_› ‹_› rfl | exact i_neg ‹_› | exact i_eqn ‹_› | exact i_succ ‹_› | exact Int.add_one_le_of_lt ‹_› | exact i_sub_less ‹_› ‹_› | exact i_sub_less2 ‹_› ‹_› ‹_› | exact n_sum ‹_› ‹_› ‹_› ‹_› rfl))
  k_with "k_mem" => (first | exact List.mem_cons_self | with_reducible assumption | (refine List.mem_cons_of_mem _ ?_; k_mem))
  k_with "call builtin:isinstance" => ((k_here; k_dflt (refine isi_tup (by with_reducible assumption) (by k_asm) (by k_in) ?_; intro _)))
  k_with "CompSrc" => ((k_here; k_dflt (refine LCg.CompSrc.ledger (by rfl) (by k_asm) (by k_asm) (by k_mem) (by k_extra "size") ?_; intro g_q; k_extra "comp")))
  k_with "eval ListComp" => ((k_here; k_dflt (refine LCg.ListComp_U (F₀ := by k_asm) (by with_unfolding_all rfl) (by decide) (by rfl) (by decide) (by rfl) ?_)))
  k_with "exec Assign cons ListComp" => ((k_here; k_dflt (refine LCg.Assign_ListComp_U (F₀ := by k_asm) (by rfl) (by with_unfolding_all rfl) (by with_unfolding_all rfl) (by decide) (by rfl) (by decide) (by rfl) (by rfl) (by rfl) ?_)))
  k_with "ct" => ((with_reducible show wpAny _ _ (call (Value.ref 135) [Value.str _ _]) _ _ _); k_dflt (first | (refine wpAny_call ?_; refine' is_equality_code (by k_asm) (by k_asm) (by k_asm) (by k_asm) rfl rfl (by walk_at "u dp") (by walk_at "u un")  ?_; k_whole; intro hp_q tkq_q kpp_q; (have F_q := after_noneF (by k_asm) kpp_q); (have N_q := after_noneN (by k_asm) kpp_q); walk_at "u end")))
  k_with "ct" => ((with_reducible show wpAny _ _ (call (Value.ref 87) [Value.str _ _]) _ _ _); k_dflt (first | (refine wpAny_call ?_; refine' read_number_U (by k_asm) (by k_asm) (by k_asm) (by k_asm) rfl rfl (by walk_at "u dp") (by walk_at "u un") ?h1 ?_; (case h1 => k_extra "text"); k_whole; intro vp_q Tp_q hp_q tkq_q kpp_q hh_q fr_q tu_q;  (have ap_q := fresh_apart fr_q (by k_asm : News _ _ _ _)); (have F_q := after_noneF (by k_asm) kpp_q); (have N_q := after_noneN (by k_asm) kpp_q); (replace N_q := new_entries (by k_asm) N_q fr_q hh_q); walk_at "u end")))
  exact True.intro
theorem as_compared_code {w : World} {mean : ExcName → Option Value} {mg mb : Str → Option Value} {A₀ : Around} {dp un : Nat} {gd : Option (List Code)} {s : Shared} {base h₀ : Heap} {outer : List Env} {L : Addr} {m : Str → Option Value} {env : Env} {R : Result → Shared → Prop}
  (B : Below A₀ base outer h₀) (F : Fr h₀ L s.heap m) (X : (heapK w.params).In h₀) (T : Top viewK lo mean mg mb h₀) (hf : env.frame = some L) (hke : env.scope.kind = .function) {news : Led} {l : Addr} {e : Nat} {vs : List Value} {sts : List Str} {op : Str} {t : Tok} {other : Value} {tp : Bool} {k : Nat}
  (hdep : dp + 15 < 1000) (hun : un + 300 < 9900)
  (N : News h₀ L s.heap news) (hm : (l, W.listOf vs.toArray e) ∈ news) (hlen : vs.length = k) (hk : k < 1000) (hvs : ∀ (j : Nat) (v : Value), vs[j]? = some v → ∃ st t, sts[j]? = some st ∧ v = Value.str st t ∧ st ∈ textsT) (ho : Oth news other tp)
  (ret : ∀ (l' : Addr) (ys : List Value) (e' : Nat) (T : Led) (h' : Heap) (tk' : Nat), ys.length = k → (∀ (j : Nat) (y : Value), ys[j]? = some y → ToldAt (eqb op && !tp) T sts j y) → Fr h₀ L h' m → News h₀ L h' ((l', W.listOf ys.toArray e') :: (T ++ news)) → R (.ok (.ret (.ref l'))) { s with heap := h', toks := tk' }) :
  codeAny (model PySem.Challenge.rw_xm0671_01.row.prog w) (Around.mk none dp (some (env :: outer)) gd un) (.call (.ref 140) ⟨[.str op t, .ref l, other], []⟩) R s := by
  k_dflt (refine' code_defG ?k1 ?k2 ?k3 ?k4 ?k5 ?kA ?kF ?kK ?k6 ?k7 ?k8 ?k9 ?kB ?_ ?c2 ?c3 ?c4 ?c5; (case kA => exact rfl); (case kF => exact hf); (case kK => exact hke); (case k1 => k_asm); (case k2 => k_asm); (case k3 => k_asm); (case k4 => k_asm); (case k5 => k_asm); (case k6 => k_is); (case k7 => k_is); (case k8 => (simp only [recursionLimit]; first | walk_at "u room" | omega)); (case k9 => first | exact BindsTo.of_eq rfl | exact binds_K (by k_in) rfl (by k_is) rfl rfl rfl | fail "k_enter: no rule for these arguments"); (case c5 => decide); (case kB => exact locs rfl); (case c2 => exact rfl); (case c3 => exact rfl); (case c4 => exact rfl); k_whole)
  intro g' L' h' FG' F' N' B' X' T' kG'
  try dsimp only
  try k_fold
  k_with "size" => exact size_ok (by omega)
  k_with "text" => with_reducible assumption
  k_with "comp" => refine comp_map (fun T j y => ∃ st, sts[j]? = some st ∧ TupAt T y (numbered st).1 (numbered st).2) (fun A B j y h r => by obtain ⟨st, e, t⟩ := r; exact ⟨st, e, t.more h⟩) (fun T => .inr ⟨_, List.mem_append_right _ (by k_mem), rfl, _, rfl⟩) ?_ ?_
  k_steps
  · rename (eqb op = true) => q1
    rename (tp = true) => q2
    refine HoldC.mk ?_
    intro i T1 ys v I1 oI C1 oC D1 m₂ h1 tk1 E' hi hv hC hx F2 N2
    obtain ⟨st, t2, e1, rfl, ht⟩ := hvs i v (by simpa using hv)
    k_steps
    rename Fr g' L' _ _ => zF
    rename News g' L' _ _ => zN
    rename TupAt _ _ _ _ => zt
    rename Apt _ _ => za
    exact ⟨_, _, _, rfl, zF, zN, za, st, e1, zt⟩
  · rename (eqb op = true) => q1
    rename (tp = true) => q2
    refine HoldC.mk ?_
    intro T1 ys hl hr
    k_steps
    rename Fr h₀ L _ _ => zF
    rename News h₀ L _ _ => zN
    refine ret _ ys _ T1 _ _ (by rw [hl, List.size_toArray, hlen]) (fun j y e => ?_) zF zN
    obtain ⟨st, e1, zt⟩ := hr j y e
    refine ⟨st, e1, ?_⟩
    rw [if_neg (by simp [q1, q2])]
    exact zt
  · rename (eqb op = true) => q1
    rename (tp = false) => q2
    rename Fr h₀ L _ _ => zF
    rename News h₀ L _ _ => zN
    refine ret _ vs _ [] _ _ hlen (fun j y e => ?_) zF (fun p hp => by
      rcases List.mem_cons.mp hp with rfl | hp
      · exact zN _ (by k_mem)
      · exact zN _ (by first | exact hp | exact List.mem_cons_of_mem _ hp))
    obtain ⟨st, t2, e1, rfl, ht⟩ := hvs j y e
    refine ⟨st, e1, ?_⟩
    rw [if_pos (by simp [q1, q2])]
    exact ⟨_, rfl⟩
  · rename (eqb op = false) => q1
    refine HoldC.mk ?_
    intro i T1 ys v I1 oI C1 oC D1 m₂ h1 tk1 E' hi hv hC hx F2 N2
    obtain ⟨st, t2, e1, rfl, ht⟩ := hvs i v (by simpa using hv)
    k_steps
    rename Fr g' L' _ _ => zF
    rename News g' L' _ _ => zN
    rename TupAt _ _ _ _ => zt
    rename Apt _ _ => za
    exact ⟨_, _, _, rfl, zF, zN, za, st, e1, zt⟩
  · rename (eqb op = false) => q1
    refine HoldC.mk ?_
    intro T1 ys hl hr
    k_steps
    rename Fr h₀ L _ _ => zF
    rename News h₀ L _ _ => zN
    refine ret _ ys _ T1 _ _ (by rw [hl, List.size_toArray, hlen]) (fun j y e => ?_) zF zN
    obtain ⟨st, e1, zt⟩ := hr j y e
    refine ⟨st, e1, ?_⟩
    rw [if_neg (by simp [q1])]
    exact zt

end
section

theorem words_num {st : Str} {p q : Int} (h : (st, p, q) ∈ wordsT) : numbered st = (p, q) := by
  have : wordsT.all (fun z => decide (numbered z.1 = z.2)) = true := by decide +kernel
  have := List.all_eq_true.mp this _ h
  simpa using this
theorem words_text {st : Str} {p q : Int} (h : (st, p, q) ∈ wordsT) : st ∈ textsT :=
  List.mem_append_left _ (List.mem_append_left _ (List.mem_map_of_mem (f := Prod.fst) h))
/-- a value with the number that it tells -/
inductive NumV (news : Led) : Value → Int → Int → Prop
  | bool (b : Bool) : NumV news (.bool b) (if b = true then 1 else 0) 1
  | word {st : Str} {t : Tok} {p q : Int} : (st, p, q) ∈ wordsT → NumV news (.str st t) p q
  | tup {v : Value} {p q : Int} : TupAt news v p q → NumV news v p q
theorem wd1_W4 : True := by
  k_with_none
  k_with "u lt" => (with_reducible (first | assumption | exact cl0 ‹_› | exact cl1 ‹_› | exact cl2 ‹_› | exact cl3 ‹_› | exact cl4 ‹_› | exact cl5 ‹_› | exact cl6 ‹_› | exact cl7 ‹_› | exact cl8 ‹_› | exact cl9 ‹_› | exact cl10 ‹_› | exact cl11 ‹_› | exact cr1 ‹_› | exact cr2 ‹_› | exact cr3 ‹_› | exact cr4 ‹_› | exact cr5 ‹_› | exact cr6 ‹_› | exact cr7 ‹_› | exact cr8 ‹_› | exact cr9 ‹_› | exact cr10 ‹_› | exact cr11 ‹_›))
  k_with "u room" => (first | exact room3 (by with_reducible assumption) rfl | exact room2 (by with_reducible assumption) rfl | exact room4 (by with_reducible assumption) rfl | exact room1 (by with_reducible assumption) | exact roomc (by with_reducible assumption) rfl | exact roome (by with_reducible assumption) rfl | exact roomd (by with_reducible assumption) rfl | exact roomn rfl | exact Nat.le_of_ble_eq_true rfl)
  k_with "call ref" => ((k_here; k_extra "ct"))
  k_with "u dp" => (((try simp only [depth_deeper, depth_in1, depth_caller]); (try dsimp only); first | walk_at "u room" | omega))
  k_with "u un" => (((try simp only [units_deeper, units_in1, units_caller]); (try dsimp only); first | walk_at "u room" | omega))
  k_with "u end" => (((try k_sweep); (try dsimp only); (try ((fail_if_success (with_reducible show wpAny _ _ _ _ _ _)); refine peel ?_)); (try k_fold)))
  k_with "u om" => (first | walk_at "u lt" | walk_at "u room" | exact Nat.le_of_ble_eq_true rfl | omega)
  k_with "k_ne" => (first | exact NeA.ne (by with_reducible assumption) | exact Ne.symm (NeA.ne (by with_reducible assumption)) | exact Nat.ne_of_gt (by walk_at "u lt") | exact Nat.ne_of_lt (by walk_at "u lt"))
  k_with "k_room" => (((try simp only [depth_under_make, depth_under_kw, depth_in1, depth_deeper, depth_caller, recursionLimit]); (try dsimp only); first | walk_at "u room" | omega))
  k_with "k_units" => (first | ((try simp only [units_in1, units_deeper, Around.mark_units, units_caller]); (try dsimp only); walk_at "u room") | (have hcL9 := cLine_is; (try simp only [units_in1, units_deeper, Around.mark_units, units_caller]); (try dsimp only); omega))
  k_with "om" => (with_reducible ((fail_if_success exact True.intro); (fail_if_success exact not_false); first | decide | exact n_lt0 rfl | exact n_le0 rfl | exact n_ltlt ‹_› rfl | exact n_lelt ‹_› rfl | exact n_lele ‹_› rfl | exact n_ltle ‹_› rfl | exact n_eqlt ‹_› rfl | exact n_lelt2 ‹_› ‹_› rfl | exact n_lelt3 ‹_› ‹_› rfl | exact Int.natCast_nonneg _ | exact i_ngt rfl | exact i_ge ‹_› rfl | exact i_gt ‹_› rfl | exact i_gtn ‹_› rfl | exact i_gt64 ‹_› | exact i_lt ‹_› rfl | exact i_lt64 ‹_› rfl | exact i_lelt ‹_› rfl | exact i_le ‹_› rfl | exact i_ne ‹_› rfl | exact i_nlt ‹_› rfl | exact i_ltn ‹_› ‹_› rfl | exact i_ltn2 ‹_› ‹_› rfl | exact i_neg ‹_› | exact i_eqn ‹_› | exact i_succ ‹_› | exact Int.add_one_le_of_lt ‹_› | exact i_sub_less ‹_› ‹_› | exact i_sub_less2 ‹_› ‹_› ‹_› | exact n_sum ‹_› ‹_› ‹_› ‹_› rfl))
  k_with "k_mem" => (first | exact List.mem_cons_self | with_reducible assumption | (refine List.mem_cons_of_mem _ ?_; k_mem))
  k_with "call builtin:isinstance" => ((k_here; (with_reducible show wpAny _ _ (call _ [_, Value.type "tuple"]) _ _ _); k_dflt (refine isi_tup (by k_extra "oth") (by k_asm) (by k_in) ?_; intro _)))
  k_with "ct" => ((with_reducible show wpAny _ _ (call (Value.ref 135) [Value.str _ _]) _ _ _); k_dflt (first | (refine wpAny_call ?_; refine' is_equality_code (by k_asm) (by k_asm) (by k_asm) (by k_asm) rfl rfl (by walk_at "u dp") (by walk_at "u un")  ?_; k_whole; intro hp_q tkq_q kpp_q; (have F_q := after_noneF (by k_asm) kpp_q); (have N_q := after_noneN (by k_asm) kpp_q); walk_at "u end")))
  k_with "ct" => ((with_reducible show wpAny _ _ (call (Value.ref 87) [Value.str _ _]) _ _ _); k_dflt (first | (refine wpAny_call ?_; refine' read_number_U (by k_asm) (by k_asm) (by k_asm) (by k_asm) rfl rfl (by walk_at "u dp") (by walk_at "u un") ?h1 ?_; (case h1 => k_extra "text"); k_whole; intro vp_q Tp_q hp_q tkq_q kpp_q hh_q fr_q tu_q;  (have ap_q := fresh_apart fr_q (by k_asm : News _ _ _ _)); (have F_q := after_noneF (by k_asm) kpp_q); (have N_q := after_noneN (by k_asm) kpp_q); (replace N_q := new_entries (by k_asm) N_q fr_q hh_q); walk_at "u end")))
  exact True.intro
theorem as_number_code {w : World} {mean : ExcName → Option Value} {mg mb : Str → Option Value} {A₀ : Around} {dp un : Nat} {gd : Option (List Code)} {s : Shared} {base h₀ : Heap} {outer : List Env} {L : Addr} {m : Str → Option Value} {env : Env} {R : Result → Shared → Prop}
  (B : Below A₀ base outer h₀) (F : Fr h₀ L s.heap m) (X : (heapK w.params).In h₀) (T : Top viewK lo mean mg mb h₀) (hf : env.frame = some L) (hke : env.scope.kind = .function) {news : Led} {v : Value} {tr : Addr} {p q : Int}
  (hdep : dp + 15 < 1000) (hun : un + 300 < 9900)
  (N : News h₀ L s.heap news) (hv : NumV news v p q)
  (ret : ∀ (v' : Value) (T : Led) (h' : Heap) (tk' : Nat), TupAt (T ++ news) v' p q → Fr h₀ L h' m → News h₀ L h' (T ++ news) → R (.ok (.ret v')) { s with heap := h', toks := tk' }) :
  codeAny (model PySem.Challenge.rw_xm0671_01.row.prog w) (Around.mk none dp (some (env :: outer)) gd un) (.call (.ref 128) ⟨[v, .ref tr], []⟩) R s := by
  k_dflt (refine' code_defG ?k1 ?k2 ?k3 ?k4 ?k5 ?kA ?kF ?kK ?k6 ?k7 ?k8 ?k9 ?kB ?_ ?c2 ?c3 ?c4 ?c5; (case kA => exact rfl); (case kF => exact hf); (case kK => exact hke); (case k1 => k_asm); (case k2 => k_asm); (case k3 => k_asm); (case k4 => k_asm); (case k5 => k_asm); (case k6 => k_is); (case k7 => k_is); (case k8 => (simp only [recursionLimit]; first | walk_at "u room" | omega)); (case k9 => first | exact BindsTo.of_eq rfl | exact binds_K (by k_in) rfl (by k_is) rfl rfl rfl | fail "k_enter: no rule for these arguments"); (case c5 => decide); (case kB => exact locs rfl); (case c2 => exact rfl); (case c3 => exact rfl); (case c4 => exact rfl); k_whole)
  intro g' L' h' FG' F' N' B' X' T' kG'
  try dsimp only
  try k_fold
  k_with "text" => exact words_text (by with_reducible assumption)
  cases hv with
  | bool b =>
    k_with "oth" => exact Oth.bool _
    cases b
    all_goals k_steps
    all_goals (rename Fr h₀ L _ _ => zF; rename News h₀ L _ _ => zN)
    all_goals exact ret _ [(_, _)] _ _ (.inl ⟨_, _, _, rfl, .head _⟩) zF zN
  | word hw =>
    k_with "oth" => exact Oth.str _ _
    k_steps
    rename Fr h₀ L _ _ => zF
    rename News h₀ L _ _ => zN
    rename TupAt _ _ _ _ => zt
    rw [words_num hw] at zt
    exact ret _ _ _ _ (zt.more fun _ h => List.mem_append_left _ h) zF zN
  | tup ht =>
    k_with "oth" => exact Oth.tup (by with_reducible assumption)
    k_steps
    rename Fr h₀ L _ _ => zF
    rename News h₀ L _ _ => zN
    exact ret _ [] _ _ ht zF zN

end
section
theorem isi_list {w : World} {A : Around} {E : Value → Shared → Prop} {s : Shared} {h₀ : Heap} {L : Addr} {news : Led} {v : Value} {p q : Int} {Q : Value → Shared → Prop} (o : NumV news v p q) (N : News h₀ L s.heap news) (X : (heapK w.params).In s.heap) (h : ∀ tk, Q (.bool false) { s with toks := tk }) :
    wpAny (model PySem.Challenge.rw_xm0671_01.row.prog w) A (call (.builtin "isinstance") [v, .type "list"]) Q E s := by
  cases o with
  | bool b => exact kia_one kitx_bool X trivial (by kit_is) (by kit_nb) h
  | word hw => exact kia_one kitx_str X trivial (by kit_is) (by kit_nb) h
  | tup t =>
    obtain ⟨a, rfl⟩ := t.ref
    exact kia_one kitx_tuple X (t.kit N X) (by kit_is) (by kit_nb) h

structure Told1 (op : Str) (v : Value) (T : Led) (y : Value) (p q : Int) : Prop where
  out : if eqb op = true then y = v else TupAt T y p q
theorem wd1_W5 : True := by
  k_with_none
  k_with "u lt" => (with_reducible (first | assumption | exact cl0 ‹_› | exact cl1 ‹_› | exact cl2 ‹_› | exact cl3 ‹_› | exact cl4 ‹_› | exact cl5 ‹_› | exact cl6 ‹_› | exact cl7 ‹_› | exact cl8 ‹_› | exact cl9 ‹_› | exact cl10 ‹_› | exact cl11 ‹_› | exact cr1 ‹_› | exact cr2 ‹_› | exact cr3 ‹_› | exact cr4 ‹_› | exact cr5 ‹_› | exact cr6 ‹_› | exact cr7 ‹_› | exact cr8 ‹_› | exact cr9 ‹_› | exact cr10 ‹_› | exact cr11 ‹_›))
  k_with "u room" => (first | exact room3 (by with_reducible assumption) rfl | exact room2 (by with_reducible assumption) rfl | exact room4 (by with_reducible assumption) rfl | exact room1 (by with_reducible assumption) | exact roomc (by with_reducible assumption) rfl | exact roome (by with_reducible assumption) rfl | exact roomd (by with_reducible assumption) rfl | exact roomn rfl | exact Nat.le_of_ble_eq_true rfl)
  k_with "call ref" => ((k_here; k_extra "ct"))
  k_with "u dp" => (((try simp only [depth_deeper, depth_in1, depth_caller]); (try dsimp only); first | walk_at "u room" | omega))
  k_with "u un" => (((try simp only [units_deeper, units_in1, units_caller]); (try dsimp only); first | walk_at "u room" | omega))
  k_with "u end" => (((try k_sweep); (try dsimp only); (try ((fail_if_success (with_reducible show wpAny _ _ _ _ _ _)); refine peel ?_)); (try k_fold)))
  k_with "u om" => (first | walk_at "u lt" | walk_at "u room" | exact Nat.le_of_ble_eq_true rfl | omega)
  k_with "k_ne" => (first | exact NeA.ne (by with_reducible assumption) | exact Ne.symm (NeA.ne (by with_reducible assumption)) | exact Nat.ne_of_gt (by walk_at "u lt") | exact Nat.ne_of_lt (by walk_at "u lt"))
  k_with "k_room" => (((try simp only [depth_under_make, depth_under_kw, depth_in1, depth_deeper, depth_caller, recursionLimit]); (try dsimp only); first | walk_at "u room" | omega))
  k_with "k_units" => (first | ((try simp only [units_in1, units_deeper, Around.mark_units, units_caller]); (try dsimp only); walk_at "u room") | (have hcL9 := cLine_is; (try simp only [units_in1, units_deeper, Around.mark_units, units_caller]); (try dsimp only); omega))
  k_with "om" => (with_reducible ((fail_if_success exact True.intro); (fail_if_success exact not_false); first | decide | exact n_lt0 rfl | exact n_le0 rfl | exact n_ltlt ‹_› rfl | exact n_lelt ‹_› rfl | exact n_lele ‹_› rfl | exact n_ltle ‹_› rfl | exact n_eqlt ‹_› rfl | exact n_lelt2 ‹_› ‹_› rfl | exact n_lelt3 ‹_› ‹_› rfl | exact Int.natCast_nonneg _ | exact i_ngt rfl | exact i_ge ‹_› rfl | exact i_gt ‹_› rfl | exact i_gtn ‹_› rfl | exact i_gt64 ‹_› | exact i_lt ‹_› rfl | exact i_lt64 ‹_› rfl | exact i_lelt ‹_› rfl | exact i_le ‹_› rfl | exact i_ne ‹_› rfl | exact i_nlt ‹_› rfl | exact i_ltn ‹_› ‹_› rfl | exact i_ltn2 ‹_› ‹_› rfl | exact i_neg ‹_› | exact i_eqn ‹_› | exact i_succ ‹_› | exact Int.add_one_le_of_lt ‹_› | exact i_sub_less ‹_› ‹_› | exact i_sub_less2 ‹_› ‹_› ‹_› | exact n_sum ‹_› ‹_› ‹_› ‹_› rfl))
  k_with "k_mem" => (first | exact List.mem_cons_self | with_reducible assumption | (refine List.mem_cons_of_mem _ ?_; k_mem))
  k_with "call builtin:isinstance" => ((k_here; (with_reducible show wpAny _ _ (call _ [_, Value.type "list"]) _ _ _); k_dflt (refine isi_list (by k_extra "numv") (by k_asm) (by k_in) ?_; intro _)))
  k_with "ct" => ((with_reducible show wpAny _ _ (call (Value.ref 135) [Value.str _ _]) _ _ _); k_dflt (first | (refine wpAny_call ?_; refine' is_equality_code (by k_asm) (by k_asm) (by k_asm) (by k_asm) rfl rfl (by walk_at "u dp") (by walk_at "u un")  ?_; k_whole; intro hp_q tkq_q kpp_q; (have F_q := after_noneF (by k_asm) kpp_q); (have N_q := after_noneN (by k_asm) kpp_q); walk_at "u end")))
  k_with "ct" => ((with_reducible show wpAny _ _ (call (Value.ref 128) [_, Value.ref _]) _ _ _); k_dflt (first | (refine wpAny_call ?_; refine' as_number_code (by k_asm) (by k_asm) (by k_asm) (by k_asm) rfl rfl (by walk_at "u dp") (by walk_at "u un") (by k_asm) ?h1 ?_; (case h1 => k_extra "numv"); k_whole; intro vp_q Tp_q hp_q tkq_q htu_q F_q N_q;  walk_at "u end")))
  exact True.intro
theorem listed_val {w : World} {mean : ExcName → Option Value} {mg mb : Str → Option Value} {A₀ : Around} {dp un : Nat} {gd : Option (List Code)} {s : Shared} {base h₀ : Heap} {outer : List Env} {L : Addr} {m : Str → Option Value} {env : Env} {R : Result → Shared → Prop}
  (B : Below A₀ base outer h₀) (F : Fr h₀ L s.heap m) (X : (heapK w.params).In h₀) (T : Top viewK lo mean mg mb h₀) (hf : env.frame = some L) (hke : env.scope.kind = .function) {news : Led} {v other : Value} {tr : Addr} {p q : Int} {op : Str} {t : Tok}
  (hdep : dp + 18 < 1000) (hun : un + 400 < 9900)
  (N : News h₀ L s.heap news) (hv : NumV news v p q)
  (ret : ∀ (l' : Addr) (y : Value) (e : Nat) (T : Led) (h' : Heap) (tk' : Nat), Told1 op v (T ++ news) y p q → Fr h₀ L h' m → News h₀ L h' ((l', W.listOf #[y] e) :: (T ++ news)) → R (.ok (.ret (.ref l'))) { s with heap := h', toks := tk' }) :
  codeAny (model PySem.Challenge.rw_xm0671_01.row.prog w) (Around.mk none dp (some (env :: outer)) gd un) (.call (.ref 152) ⟨[.str op t, v, other, .ref tr], []⟩) R s := by
  k_dflt (refine' code_defG ?k1 ?k2 ?k3 ?k4 ?k5 ?kA ?kF ?kK ?k6 ?k7 ?k8 ?k9 ?kB ?_ ?c2 ?c3 ?c4 ?c5; (case kA => exact rfl); (case kF => exact hf); (case kK => exact hke); (case k1 => k_asm); (case k2 => k_asm); (case k3 => k_asm); (case k4 => k_asm); (case k5 => k_asm); (case k6 => k_is); (case k7 => k_is); (case k8 => (simp only [recursionLimit]; first | walk_at "u room" | omega)); (case k9 => first | exact BindsTo.of_eq rfl | exact binds_K (by k_in) rfl (by k_is) rfl rfl rfl | fail "k_enter: no rule for these arguments"); (case c5 => decide); (case kB => exact locs rfl); (case c2 => exact rfl); (case c3 => exact rfl); (case c4 => exact rfl); k_whole)
  intro g' L' h' FG' F' N' B' X' T' kG'
  try dsimp only
  try k_fold
  k_with "numv" => with_reducible assumption
  k_steps
  · rename (eqb op = true) => q1
    rename Fr h₀ L _ _ => zF
    rename News h₀ L _ _ => zN
    exact ret _ v _ [] _ _ ⟨by rw [if_pos q1]⟩ zF zN
  · rename (eqb op = false) => q1
    rename Fr h₀ L _ _ => zF
    rename News h₀ L _ _ => zN
    rename TupAt _ _ _ _ => zt
    exact ret _ _ _ _ _ _ ⟨by rw [if_neg (by simp [q1])]; exact zt⟩ zF zN

end
section

theorem wd1_W3 : True := by
  k_with_none
  k_with "u lt" => (with_reducible (first | assumption | exact cl0 ‹_› | exact cl1 ‹_› | exact cl2 ‹_› | exact cl3 ‹_› | exact cl4 ‹_› | exact cl5 ‹_› | exact cl6 ‹_› | exact cl7 ‹_› | exact cl8 ‹_› | exact cl9 ‹_› | exact cl10 ‹_› | exact cl11 ‹_› | exact cr1 ‹_› | exact cr2 ‹_› | exact cr3 ‹_› | exact cr4 ‹_› | exact cr5 ‹_› | exact cr6 ‹_› | exact cr7 ‹_› | exact cr8 ‹_› | exact cr9 ‹_› | exact cr10 ‹_› | exact cr11 ‹_›))
  k_with "u room" => (first | exact room3 (by with_reducible assumption) rfl | exact room2 (by with_reducible assumption) rfl | exact room4 (by with_reducible assumption) rfl | exact room1 (by with_reducible assumption) | exact roomc (by with_reducible assumption) rfl | exact roome (by with_reducible assumption) rfl | exact roomd (by with_reducible assumption) rfl | exact roomn rfl | exact Nat.le_of_ble_eq_true rfl)
  k_with "call ref" => ((k_here; k_extra "ct"))
  k_with "u dp" => (((try simp only [depth_deeper, depth_in1, depth_caller]); (try dsimp only); first | walk_at "u room" | omega))
  k_with "u un" => (((try simp only [units_deeper, units_in1, units_caller]); (try dsimp only); first | walk_at "u room" | omega))
  k_with "u end" => (((try k_sweep); (try dsimp only); (try ((fail_if_success (with_reducible show wpAny _ _ _ _ _ _)); refine peel ?_)); (try k_fold)))
  k_with "u om" => (first | walk_at "u lt" | walk_at "u room" | exact Nat.le_of_ble_eq_true rfl | omega)
  k_with "k_ne" => (first | exact NeA.ne (by with_reducible assumption) | exact Ne.symm (NeA.ne (by with_reducible assumption)) | exact Nat.ne_of_gt (by walk_at "u lt") | exact Nat.ne_of_lt (by walk_at "u lt"))
  k_with "k_room" => (((try simp only [depth_under_make, depth_under_kw, depth_in1, depth_deeper, depth_caller, recursionLimit]); (try dsimp only); first | walk_at "u room" | omega))
  k_with "k_units" => (first | ((try simp only [units_in1, units_deeper, Around.mark_units, units_caller]); (try dsimp only); walk_at "u room") | (have hcL9 := cLine_is; (try simp only [units_in1, units_deeper, Around.mark_units, units_caller]); (try dsimp only); omega))
  k_with "om" => (with_reducible ((fail_if_success exact True.intro); (fail_if_success exact not_false); first | decide | exact n_lt0 rfl | exact n_le0 rfl | exact n_ltlt ‹_› rfl | exact n_lelt ‹_› rfl | exact n_lele ‹_› rfl | exact n_ltle ‹_› rfl | exact n_eqlt ‹_› rfl | exact n_lelt2 ‹_› ‹_› rfl | exact n_lelt3 ‹_› ‹_› rfl | exact Int.natCast_nonneg _ | exact i_ngt rfl | exact i_ge ‹_› rfl | exact i_gt ‹_› rfl | exact i_gtn ‹_› rfl | exact i_gt64 ‹_› | exact i_lt ‹_› rfl | exact i_lt64 ‹_› rfl | exact i_lelt ‹_› rfl | exact i_le ‹_› rfl | exact i_ne ‹_› rfl | exact i_nlt ‹_› rfl | exact i_ltn ‹_› ‹_› rfl | exact i_ltn2 ‹_› ‹_› rfl | exact i_neg ‹_› | exact i_eqn ‹_› | exact i_succ ‹_› | exact Int.add_one_le_of_lt ‹_› | exact i_sub_less ‹_› ‹_› | exact i_sub_less2 ‹_› ‹_› ‹_› | exact n_sum ‹_› ‹_› ‹_› ‹_› rfl))
  k_with "k_mem" => (first | exact List.mem_cons_self | with_reducible assumption | (refine List.mem_cons_of_mem _ ?_; k_mem))
  k_with "CompSrc" => ((k_here; k_dflt (refine LCg.CompSrc.ledger (by rfl) (by k_asm) (by k_asm) (by k_mem) (by k_extra "size") ?_; intro g_q; k_extra "comp")))
  k_with "eval ListComp" => ((k_here; k_dflt (refine LCg.ListComp_U (F₀ := by k_asm) (by with_unfolding_all rfl) (by decide) (by rfl) (by decide) (by rfl) ?_)))
  k_with "exec Assign cons ListComp" => ((k_here; k_dflt (refine LCg.Assign_ListComp_U (F₀ := by k_asm) (by rfl) (by with_unfolding_all rfl) (by with_unfolding_all rfl) (by decide) (by rfl) (by decide) (by rfl) (by rfl) (by rfl) ?_)))
  k_with "ct" => ((with_reducible show wpAny _ _ (call (Value.ref 114) [Value.ref _, Value.int _ _]) _ _ _); k_dflt (first | (refine wpAny_call ?_; refine' string_value_code (by k_asm) (by k_asm) (by k_asm) (by k_asm) rfl rfl (by walk_at "u dp") (by walk_at "u un") (by with_reducible assumption) (by k_asm) ?h1 ?h2 ?h3 ?h4 ?_; (case h1 => exact (fun p hp => by (repeat (first | exact hp | exact (by k_extra "sub") | refine List.Mem.tail _ ?_)))); (case h2 => first | with_reducible assumption | omega | (simp only [List.length_append, List.length_set, List.length_cons, List.length_nil]; omega) | exact (by decide)); (case h3 => k_extra "sv"); (case h4 => k_extra "svl"); k_whole; intro hp_q tkq_q vtp_q F_q N_q;  walk_at "u end")))
  exact True.intro
theorem texts_of_code {w : World} {mean : ExcName → Option Value} {mg mb : Str → Option Value} {A₀ : Around} {dp un : Nat} {gd : Option (List Code)} {s : Shared} {base h₀ : Heap} {outer : List Env} {L : Addr} {m : Str → Option Value} {env : Env} {R : Result → Shared → Prop}
  (B : Below A₀ base outer h₀) (F : Fr h₀ L s.heap m) (X : (heapK w.params).In h₀) (T : Top viewK lo mean mg mb h₀) (hf : env.frame = some L) (hke : env.scope.kind = .function) {tr td rl : Addr} {tk0 : Tok} {en : Nat} {OL TL news : Led} {rows : List RowD} {as : List Addr} {l : Addr} {e : Nat} {vs : List Value} {sts : List Str} {k : Nat}
  (hdep : dp + 15 < 1000) (hun : un + 600 < 9900)
  (I : NInv w.params tr td rl tk0 OL TL en rows as) (N : News h₀ L s.heap news) (hsub : ∀ p ∈ OL, p ∈ news) (hm : (l, W.listOf vs.toArray e) ∈ news) (hlen : vs.length = k) (hk : k < 1000)
  (hvs : ∀ (j : Nat) (v : Value), vs[j]? = some v → ∃ n t st, v = Value.int n t ∧ sts[j]? = some st ∧ SV rows n st ∧ st ∈ textsT) (hl : rows.length < 1000)
  (ret : ∀ (l' : Addr) (ys : List Value) (h' : Heap) (tk' : Nat), ys.length = k → (∀ (j : Nat) (y : Value), ys[j]? = some y → ∃ st t, sts[j]? = some st ∧ y = Value.str st t ∧ st ∈ textsT) → Fr h₀ L h' m → News h₀ L h' ((l', LCg.lst ys) :: news) → R (.ok (.ret (.ref l'))) { s with heap := h', toks := tk' }) :
  codeAny (model PySem.Challenge.rw_xm0671_01.row.prog w) (Around.mk none dp (some (env :: outer)) gd un) (.call (.ref 145) ⟨[.ref tr, .ref l], []⟩) R s := by
  k_dflt (refine' code_defC ?k1 ?k2 ?k3 ?k4 ?k5 ?kA ?kF ?kK ?k6 ?k7 ?k8 ?k9 ?kB ?kD ?_ ?c2 ?c3 ?c4; (case kA => exact rfl); (case kF => exact hf); (case kK => exact hke); (case k1 => k_asm); (case k2 => k_asm); (case k3 => k_asm); (case k4 => k_asm); (case k5 => k_asm); (case k6 => k_is); (case k7 => k_is); (case k8 => (simp only [recursionLimit]; first | walk_at "u room" | omega)); (case k9 => first | exact BindsTo.of_eq rfl | exact binds_K (by k_in) rfl (by k_is) rfl rfl rfl | fail "k_enter: no rule for these arguments"); (case kB => exact rfl); (case kD => decide +kernel); (case c2 => exact rfl); (case c3 => exact rfl); (case c4 => exact rfl); k_whole)
  intro g' L' h' tk' cells' FG' F' N' Y' B' X' T' l1
  replace l1 := allLt_of l1
  k_cells Y'
  try simp only [List.cons_append, List.nil_append] at N'
  try dsimp only
  try k_fold
  k_with "size" => exact size_ok (by omega)
  k_with "sub" => exact List.mem_append_right _ (List.mem_cons_of_mem _ (hsub _ (by assumption)))
  k_with "sv" => with_reducible assumption
  k_with "svl" => exact Nat.le_trans (small_text (by with_reducible assumption)) (by decide)
  k_with "comp" => refine comp_map (fun _ j y => ∃ st t, sts[j]? = some st ∧ y = Value.str st t ∧ st ∈ textsT) (fun A B j y h r => r) (fun T => .inr ⟨_, List.mem_append_right _ (by k_mem), rfl, _, rfl⟩) ?_ ?_
  k_steps
  · refine HoldC.mk ?_
    intro i T1 ys v I1 oI C1 oC D1 m₂ h1 tk1 E' hi hv hC hx F2 N2
    obtain ⟨n, t, st, rfl, e1, hsv, ht⟩ := hvs i v (by simpa using hv)
    k_steps
    rename Fr g' L' _ _ => zF
    rename News g' L' _ _ => zN
    exact CEnd.mk0 zF zN ⟨st, _, e1, rfl, ht⟩
  · refine HoldC.mk ?_
    intro T1 ys hl2 hr
    k_steps
    rename Fr h₀ L _ _ => zF
    rename News h₀ L _ _ => zN
    exact ret _ ys _ _ (by rw [hl2, List.size_toArray, hlen]) hr zF (news_of zN (fun p hp => by
      rcases List.mem_cons.mp hp with rfl | hp
      · exact List.mem_cons_self
      · exact List.mem_cons_of_mem _ (List.mem_append_right _ (List.mem_cons_of_mem _ hp))))

end
section

theorem news_drop {h₀ h : Heap} {L : Addr} {p q : Addr × Obj} {T news : Led} (N : News h₀ L h (p :: (T ++ q :: news))) : News h₀ L h (p :: (T ++ news)) := news_of N fun x hx => by
  rcases List.mem_cons.mp hx with rfl | hx
  · exact List.mem_cons_self
  · refine List.mem_cons_of_mem _ ?_
    rcases List.mem_append.mp hx with hx | hx
    · exact List.mem_append_left _ hx
    · exact List.mem_append_right _ (List.mem_cons_of_mem _ hx)
theorem wd1_W6 : True := by
  k_with_none
  k_with "u lt" => (with_reducible (first | assumption | exact cl0 ‹_› | exact cl1 ‹_› | exact cl2 ‹_› | exact cl3 ‹_› | exact cl4 ‹_› | exact cl5 ‹_› | exact cl6 ‹_› | exact cl7 ‹_› | exact cl8 ‹_› | exact cl9 ‹_› | exact cl10 ‹_› | exact cl11 ‹_› | exact cr1 ‹_› | exact cr2 ‹_› | exact cr3 ‹_› | exact cr4 ‹_› | exact cr5 ‹_› | exact cr6 ‹_› | exact cr7 ‹_› | exact cr8 ‹_› | exact cr9 ‹_› | exact cr10 ‹_› | exact cr11 ‹_›))
  k_with "u room" => (first | exact room3 (by with_reducible assumption) rfl | exact room2 (by with_reducible assumption) rfl | exact room4 (by with_reducible assumption) rfl | exact room1 (by with_reducible assumption) | exact roomc (by with_reducible assumption) rfl | exact roome (by with_reducible assumption) rfl | exact roomd (by with_reducible assumption) rfl | exact roomn rfl | exact Nat.le_of_ble_eq_true rfl)
  k_with "call ref" => ((k_here; k_extra "ct"))
  k_with "u dp" => (((try simp only [depth_deeper, depth_in1, depth_caller]); (try dsimp only); first | walk_at "u room" | omega))
  k_with "u un" => (((try simp only [units_deeper, units_in1, units_caller]); (try dsimp only); first | walk_at "u room" | omega))
  k_with "u end" => (((try k_sweep); (try dsimp only); (try ((fail_if_success (with_reducible show wpAny _ _ _ _ _ _)); refine peel ?_)); (try k_fold)))
  k_with "u om" => (first | walk_at "u lt" | walk_at "u room" | exact Nat.le_of_ble_eq_true rfl | omega)
  k_with "k_ne" => (first | exact NeA.ne (by with_reducible assumption) | exact Ne.symm (NeA.ne (by with_reducible assumption)) | exact Nat.ne_of_gt (by walk_at "u lt") | exact Nat.ne_of_lt (by walk_at "u lt"))
  k_with "k_room" => (((try simp only [depth_under_make, depth_under_kw, depth_in1, depth_deeper, depth_caller, recursionLimit]); (try dsimp only); first | walk_at "u room" | omega))
  k_with "k_units" => (first | ((try simp only [units_in1, units_deeper, Around.mark_units, units_caller]); (try dsimp only); walk_at "u room") | (have hcL9 := cLine_is; (try simp only [units_in1, units_deeper, Around.mark_units, units_caller]); (try dsimp only); omega))
  k_with "om" => (with_reducible ((fail_if_success exact True.intro); (fail_if_success exact not_false); first | decide | exact n_lt0 rfl | exact n_le0 rfl | exact n_ltlt ‹_› rfl | exact n_lelt ‹_› rfl | exact n_lele ‹_› rfl | exact n_ltle ‹_› rfl | exact n_eqlt ‹_› rfl | exact n_lelt2 ‹_› ‹_› rfl | exact n_lelt3 ‹_› ‹_› rfl | exact Int.natCast_nonneg _ | exact i_ngt rfl | exact i_ge ‹_› rfl | exact i_gt ‹_› rfl | exact i_gtn ‹_› rfl | exact i_gt64 ‹_› | exact i_lt ‹_› rfl | exact i_lt64 ‹_› rfl | exact i_lelt ‹_› rfl | exact i_le ‹_› rfl | exact i_ne ‹_› rfl | exact i_nlt ‹_› rfl | exact i_ltn ‹_› ‹_› rfl | exact i_ltn2 ‹_› ‹_› rfl | exact i_neg ‹_› | exact i_eqn ‹_› | exact i_succ ‹_› | exact Int.add_one_le_of_lt ‹_› | exact i_sub_less ‹_› ‹_› | exact i_sub_less2 ‹_› ‹_› ‹_› | exact n_sum ‹_› ‹_› ‹_› ‹_› rfl))
  k_with "k_mem" => (first | exact List.mem_cons_self | with_reducible assumption | (refine List.mem_cons_of_mem _ ?_; k_mem))
  k_with "ct" => ((with_reducible show wpAny _ _ (call (Value.ref 145) [Value.ref _, Value.ref _]) _ _ _); k_dflt (first | (refine wpAny_call ?_; refine' texts_of_code (by k_asm) (by k_asm) (by k_asm) (by k_asm) rfl rfl (by walk_at "u dp") (by walk_at "u un") (by with_reducible assumption) (by k_asm) ?h1 ?h2 ?h3 ?h4 ?h5 ?h6 ?_; (case h1 => exact (fun p hp => by (repeat (first | exact hp | exact (by k_extra "sub") | refine List.Mem.tail _ ?_)))); (case h2 => k_mem); (case h3 => first | with_reducible assumption | exact rfl); (case h4 => first | with_reducible assumption | omega | (simp only [List.length_append, List.length_set, List.length_cons, List.length_nil]; omega) | exact (by decide)); (case h5 => k_extra "nvs"); (case h6 => first | with_reducible assumption | omega | (simp only [List.length_append, List.length_set, List.length_cons, List.length_nil]; omega) | exact (by decide)); k_whole; intro lp_q ysp_q hp_q tkq_q hly_q hty_q F_q N_q;  walk_at "u end")))
  k_with "ct" => ((with_reducible show wpAny _ _ (call (Value.ref 140) [Value.str _ _, Value.ref _, _]) _ _ _); k_dflt (first | (refine wpAny_call ?_; refine' as_compared_code (by k_asm) (by k_asm) (by k_asm) (by k_asm) rfl rfl (by walk_at "u dp") (by walk_at "u un") (by k_asm) (by k_mem) (by first | with_reducible assumption | exact rfl) (by first | with_reducible assumption | omega | (simp only [List.length_append, List.length_set, List.length_cons, List.length_nil]; omega) | exact (by decide)) ?h4 ?h5 ?_; (case h4 => k_extra "vs"); (case h5 => k_extra "oth"); k_whole; intro lp_q ysp_q ep_q Tp_q hp_q tkq_q hly_q hty_q F_q N_q;  walk_at "u end")))
  exact True.intro
theorem listed_list {w : World} {mean : ExcName → Option Value} {mg mb : Str → Option Value} {A₀ : Around} {dp un : Nat} {gd : Option (List Code)} {s : Shared} {base h₀ : Heap} {outer : List Env} {L : Addr} {m : Str → Option Value} {env : Env} {R : Result → Shared → Prop}
  (B : Below A₀ base outer h₀) (F : Fr h₀ L s.heap m) (X : (heapK w.params).In h₀) (T : Top viewK lo mean mg mb h₀) (hf : env.frame = some L) (hke : env.scope.kind = .function) {tr td rl : Addr} {tk0 : Tok} {en : Nat} {OL TL news : Led} {rows : List RowD} {as : List Addr} {l : Addr} {e : Nat} {vs : List Value} {sts : List Str} {op : Str} {t : Tok} {other : Value} {tp : Bool} {k : Nat}
  (hdep : dp + 20 < 1000) (hun : un + 1000 < 9900)
  (I : NInv w.params tr td rl tk0 OL TL en rows as) (N : News h₀ L s.heap news) (hsub : ∀ p ∈ OL, p ∈ news) (hm : (l, W.listOf vs.toArray e) ∈ news) (hlen : vs.length = k) (hk : k < 1000)
  (hvs : ∀ (j : Nat) (v : Value), vs[j]? = some v → ∃ n t st, v = Value.int n t ∧ sts[j]? = some st ∧ SV rows n st ∧ st ∈ textsT) (hl : rows.length < 1000) (ho : Oth news other tp)
  (ret : ∀ (l' : Addr) (ys : List Value) (e' : Nat) (T : Led) (h' : Heap) (tk' : Nat), ys.length = k → (∀ (j : Nat) (y : Value), ys[j]? = some y → ToldAt (eqb op && !tp) T sts j y) → Fr h₀ L h' m → News h₀ L h' ((l', W.listOf ys.toArray e') :: (T ++ news)) → R (.ok (.ret (.ref l'))) { s with heap := h', toks := tk' }) :
  codeAny (model PySem.Challenge.rw_xm0671_01.row.prog w) (Around.mk none dp (some (env :: outer)) gd un) (.call (.ref 152) ⟨[.str op t, .ref l, other, .ref tr], []⟩) R s := by
  k_dflt (refine' code_defG ?k1 ?k2 ?k3 ?k4 ?k5 ?kA ?kF ?kK ?k6 ?k7 ?k8 ?k9 ?kB ?_ ?c2 ?c3 ?c4 ?c5; (case kA => exact rfl); (case kF => exact hf); (case kK => exact hke); (case k1 => k_asm); (case k2 => k_asm); (case k3 => k_asm); (case k4 => k_asm); (case k5 => k_asm); (case k6 => k_is); (case k7 => k_is); (case k8 => (simp only [recursionLimit]; first | walk_at "u room" | omega)); (case k9 => first | exact BindsTo.of_eq rfl | exact binds_K (by k_in) rfl (by k_is) rfl rfl rfl | fail "k_enter: no rule for these arguments"); (case c5 => decide); (case kB => exact locs rfl); (case c2 => exact rfl); (case c3 => exact rfl); (case c4 => exact rfl); k_whole)
  intro g' L' h' FG' F' N' B' X' T' kG'
  try dsimp only
  try k_fold
  have ti2 := hsub _ I.ti
  have tdi2 := hsub _ I.tdi
  k_with "sub" => exact hsub _ (by assumption)
  k_with "nvs" => exact hvs
  k_with "oth" => exact Oth.more ho (fun _ h => List.mem_cons_of_mem _ h)
  k_with "vs" => with_reducible assumption
  k_steps
  rename Fr h₀ L _ _ => zF
  rename News h₀ L _ _ => zN
  exact ret _ _ _ _ _ _ (by with_reducible assumption) (by with_reducible assumption) zF (news_drop zN)

end
section
theorem vs_one {st : Str} {t : Tok} (h : st ∈ textsT) : ∀ (j : Nat) (v : Value), [Value.str st t][j]? = some v → ∃ s t', [st][j]? = some s ∧ v = Value.str s t' ∧ s ∈ textsT := by
  intro j v e
  cases j with
  | zero => exact ⟨st, t, rfl, by simpa using e.symm, h⟩
  | succ j => simp at e
theorem one_of {ys : List Value} (h : ys.length = 1) : ∃ y, ys = [y] := by
  match ys, h with
  | [y], _ => exact ⟨y, rfl⟩
theorem text_strOk {st : Str} (h : st ∈ textsT) : PyData.strOk st = true := by
  have : textsT.all (fun z => PyData.strOk z) = true := by decide +kernel
  exact List.all_eq_true.mp this st h
theorem strs_canLay : ∀ ns : List Str, (∀ s ∈ ns, PyData.strOk s = true) → PyData.canLayAll0 (ns.map PyData.str) = true
  | [], _ => rfl
  | a :: r, h => by
    have e := strs_canLay r fun s hs => h s (.tail _ hs)
    simp only [List.map_cons, PyData.canLayAll0, PyData.canLay0, e, h a (.head _), Bool.and_true]
theorem strs_depth : ∀ ns : List Str, PyData.depthAll (ns.map PyData.str) = 0
  | [] => rfl
  | _ :: r => by simp [PyData.depthAll, PyData.depth, strs_depth r]
theorem strs_shaped (ns : List Str) (h : ∀ s ∈ ns, PyData.strOk s = true) : SeqAt.shaped (.list (ns.map PyData.str)) = true := by
  simp [SeqAt.shaped, PyData.canLay0, PyData.depth, strs_canLay ns h, strs_depth]
theorem strs_eqv : ∀ ns : List Str, PyData.eqvAll (ns.map PyData.str) (ns.map PyData.str) = true
  | [] => rfl
  | a :: r => by simp [PyData.eqvAll, PyData.eqv, strs_eqv r]
theorem strs_reads {h : Heap} : ∀ {vs : List Value} {sts : List Str}, vs.length = sts.length → (∀ (j : Nat) (v : Value), vs[j]? = some v → ∃ st t, sts[j]? = some st ∧ v = Value.str st t) → ReadsAll h vs (sts.map PyData.str) []
  | [], [], _, _ => .nil
  | v :: r, st :: q, hl, hv => by
    obtain ⟨st', t, e1, e2⟩ := hv 0 v rfl
    have e1' : st = st' := by simpa using e1
    subst e1'
    subst e2
    exact .cons (.str _ _) (strs_reads (by simpa using hl) fun j v e => hv (j + 1) v (by simpa using e))
  | [], _ :: _, hl, _ => by simp at hl
  | _ :: _, [], hl, _ => by simp at hl
section
variable {prog : Program} {w : World} {A : Around} {E : Value → Shared → Prop} {s : Shared} {h₀ : Heap} {L : Addr} {news : Led} {Q : Value → Shared → Prop}
/-- two lists of the same texts -/
theorem ne_strs {a b : Addr} {vs us : List Value} {sts : List Str} {n1 n2 : Nat} (N : News h₀ L s.heap news) (h1 : (a, W.listOf vs.toArray n1) ∈ news) (h2 : (b, W.listOf us.toArray n2) ∈ news) (l1 : vs.length = sts.length) (l2 : us.length = sts.length)
    (t1 : ∀ (j : Nat) (v : Value), vs[j]? = some v → ∃ st t, sts[j]? = some st ∧ v = Value.str st t) (t2 : ∀ (j : Nat) (v : Value), us[j]? = some v → ∃ st t, sts[j]? = some st ∧ v = Value.str st t) (hs : ∀ s ∈ sts, PyData.strOk s = true)
    (hu : A.units + 64 < cLine) (h : Q (.bool false) s) : wpAny (model prog w) A (compareOp .NotEq (.ref a) (.ref b)) Q E s := by
  refine ne_dataH (reads_list_at (N _ h1).1 rfl rfl (strs_reads l1 t1)) (reads_list_at (N _ h2).1 rfl rfl (strs_reads l2 t2)) (strs_shaped sts hs) (strs_shaped sts hs) hu ?_
  have e : (!PyData.eqv (.list (sts.map PyData.str)) (.list (sts.map PyData.str))) = false := by simp [PyData.eqv, strs_eqv]
  rw [e]; exact h
theorem eq_strs {a b : Addr} {vs us : List Value} {sts : List Str} {n1 n2 : Nat} (N : News h₀ L s.heap news) (h1 : (a, W.listOf vs.toArray n1) ∈ news) (h2 : (b, W.listOf us.toArray n2) ∈ news) (l1 : vs.length = sts.length) (l2 : us.length = sts.length)
    (t1 : ∀ (j : Nat) (v : Value), vs[j]? = some v → ∃ st t, sts[j]? = some st ∧ v = Value.str st t) (t2 : ∀ (j : Nat) (v : Value), us[j]? = some v → ∃ st t, sts[j]? = some st ∧ v = Value.str st t) (hs : ∀ s ∈ sts, PyData.strOk s = true)
    (hu : A.units + 64 < cLine) (h : Q (.bool true) s) : wpAny (model prog w) A (compareOp .Eq (.ref a) (.ref b)) Q E s := by
  refine eq_dataH (reads_list_at (N _ h1).1 rfl rfl (strs_reads l1 t1)) (reads_list_at (N _ h2).1 rfl rfl (strs_reads l2 t2)) (strs_shaped sts hs) (strs_shaped sts hs) hu ?_
  have e : PyData.eqv (.list (sts.map PyData.str)) (.list (sts.map PyData.str)) = true := by simp [PyData.eqv, strs_eqv]
  rw [e]; exact h
theorem ne_num1 {a b : Addr} {x y : Value} {p q : Int} {n1 n2 : Nat} {P : Params} (N : News h₀ L s.heap news) (X : (heapK P).In s.heap) (h1 : (a, W.listOf #[x] n1) ∈ news) (h2 : (b, W.listOf #[y] n2) ∈ news) (t1 : TupAt news x p q) (t2 : TupAt news y p q)
    (hu : A.units + 64 < cLine) (h : Q (.bool false) s) : wpAny (model prog w) A (compareOp .NotEq (.ref a) (.ref b)) Q E s := by
  refine ne_dataH (reads_list_at (N _ h1).1 rfl rfl (.cons (t1.reads N X) .nil)) (reads_list_at (N _ h2).1 rfl rfl (.cons (t2.reads N X) .nil)) rfl rfl hu ?_
  have e : (!PyData.eqv (.list [.tuple [.int p, .int q]]) (.list [.tuple [.int p, .int q]])) = false := by simp [PyData.eqv, PyData.eqvAll]
  rw [e]; exact h
end
theorem told_one {k : Bool} {T : Led} {st : Str} {y : Value} (h : ∀ (j : Nat) (v : Value), [y][j]? = some v → ToldAt k T [st] j v) : if k = true then ∃ t, y = Value.str st t else TupAt T y (numbered st).1 (numbered st).2 := by
  obtain ⟨s, e, r⟩ := h 0 y rfl
  have e' : st = s := by simpa using e
  subst e'
  exact r
theorem seven_w : (Str.ofString "7.", (7 : Int), (1 : Int)) ∈ wordsT := by simp only [wordsT, List.mem_cons, true_or, or_true]
theorem num_seven : numbered (Str.ofString "7.") = (7, 1) := words_num seven_w
theorem told_seven {T : Led} {y : Value} (h : ∀ (j : Nat) (v : Value), [y][j]? = some v → ToldAt (eqb (Str.ofString "=") && !true) T [Str.ofString "7."] j v) : TupAt T y 7 1 := by
  have e : (eqb (Str.ofString "=") && !true) = false := Bool.and_false _
  rw [e] at h
  have r := told_one h
  rw [if_neg Bool.false_ne_true, num_seven] at r
  exact r
theorem told_seven2 {T : Led} {y : Value} (h : ∀ (j : Nat) (v : Value), [y][j]? = some v → ToldAt (eqb (Str.ofString "!=") && !false) T [Str.ofString "7."] j v) : ∃ t, y = Value.str (Str.ofString "7.") t := by
  have e : eqb (Str.ofString "!=") = true := by
    unfold eqb
    rw [show (Str.ofString "!=" == Str.ofString "!=") = true from beq_self_eq_true _, Bool.or_true]
  rw [e] at h
  have r := told_one h
  rw [if_pos (by rfl)] at r
  exact r
theorem one_str {st : Str} {t : Tok} : ∀ (j : Nat) (v : Value), [Value.str st t][j]? = some v → ∃ s t', [st][j]? = some s ∧ v = Value.str s t' := by
  intro j v e
  cases j with
  | zero => exact ⟨st, t, rfl, by simpa using e.symm⟩
  | succ j => simp at e
theorem ne_str1 {prog : Program} {w : World} {A : Around} {E : Value → Shared → Prop} {s : Shared} {h₀ : Heap} {L : Addr} {news : Led} {Q : Value → Shared → Prop} {a b : Addr} {st : Str} {t1 t2 : Tok} {n1 n2 : Nat} (N : News h₀ L s.heap news) (h1 : (a, W.listOf #[Value.str st t1] n1) ∈ news) (h2 : (b, W.listOf #[Value.str st t2] n2) ∈ news) (hs : st ∈ textsT)
    (hu : A.units + 64 < cLine) (h : Q (.bool false) s) : wpAny (model prog w) A (compareOp .NotEq (.ref a) (.ref b)) Q E s :=
  ne_strs (vs := [Value.str st t1]) (us := [Value.str st t2]) (sts := [st]) N h1 h2 rfl rfl one_str one_str (fun x hx => by rw [List.mem_singleton.mp hx]; exact text_strOk hs) hu h
theorem news_one {h₀ h : Heap} {L : Addr} {news OL : Led} {p : Addr × Obj} (N : News h₀ L h news) (h1 : p ∈ news) (s : ∀ p ∈ OL, p ∈ news) : News h₀ L h (p :: OL) := by
  intro c hc
  rcases List.mem_cons.mp hc with e | hc
  · rw [e]; exact N _ h1
  · exact N _ (s c hc)
/-- behind _law_nodes: what was kept, the bag, the list of what was found, the tree -/
theorem after_nodes {h₀ h h' : Heap} {L b : Addr} {m : Str → Option Value} {bo bo' : Obj} {news keep OL new : Led} (F : Fr h₀ L h m) (N : News h₀ L h news) (hk : ∀ p ∈ keep, p ∈ news ∧ p.1 ≠ b ∧ p.1 ∉ Keys OL) (hb : (b, bo) ∈ news) (hOL : ∀ p ∈ OL, p ∈ news)
    (kp : Keeps (b :: Keys OL) h h') (H : Holds h' ((b, bo') :: new)) (fr : ∀ p ∈ new, p.1 ∈ Keys OL ∨ h.get? p.1 = none) : Fr h₀ L h' m ∧ News h₀ L h' (keep ++ (b, bo') :: new) := by
  have gone : ∀ a ∈ b :: Keys OL, a ≠ L ∧ h₀.get? a = none := fun a ha => by
    rcases List.mem_cons.mp ha with rfl | ha
    · exact (N _ hb).2
    · obtain ⟨p, hp, rfl⟩ := List.mem_map.mp ha
      exact (N _ (hOL p hp)).2
  have fre : ∀ a, h.get? a = none → a ≠ L ∧ h₀.get? a = none := fun a ha => by
    refine ⟨fun q => ?_, ?_⟩
    · obtain ⟨oL, _, _, hL, _⟩ := F.ns
      rw [← q, ha] at hL; cases hL
    · cases q : h₀.get? a with
      | none => rfl
      | some x => have := F.keep _ _ q; rw [ha] at this; cases this
  refine ⟨⟨F.ns.at' fun o e => kp _ _ e (fun q => (gone _ q).1 rfl), fun c o e => kp _ _ (F.keep c o e) (fun q => by rw [(gone _ q).2] at e; cases e), F.above⟩, fun p hp => ?_⟩
  rcases List.mem_append.mp hp with hp | hp
  · obtain ⟨h1, h2, h3⟩ := hk p hp
    refine ⟨kp _ _ (N p h1).1 (fun q => ?_), (N p h1).2⟩
    rcases List.mem_cons.mp q with q | q
    · exact h2 q
    · exact h3 q
  · refine ⟨H p hp, ?_⟩
    rcases List.mem_cons.mp hp with rfl | hp
    · exact gone _ (.head _)
    · rcases fr p hp with q | q
      · exact gone _ (.tail _ q)
      · exact fre _ q
theorem NInv.first {P : Params} {tr td rl b c1 c2 : Addr} {tk0 : Tok} (h1 : @LT.lt Nat _ b td) (h2 : @LT.lt Nat _ td tr) (h3 : @LT.lt Nat _ tr rl) (h4 : @LT.lt Nat _ c1 td) (h5 : @LT.lt Nat _ c2 td) : NInv P tr td rl tk0 (tled P tr td rl tk0 0 []) [] 0 [] [c2, c1, b] := by
  have lt2 : @LT.lt Nat _ td rl := Nat.lt_trans h2 h3
  refine ⟨rfl, (fun p hp => nomatch hp), ?_, fun a ha => ?_⟩
  · refine nodup_of ⟨⟨⟨Nat.ne_of_gt h2⟩, ⟨Nat.ne_of_lt h3⟩, trivial⟩, ⟨⟨Nat.ne_of_lt lt2⟩, trivial⟩, trivial, trivial⟩
  · have lt : @LT.lt Nat _ a td := by
      simp only [List.mem_cons, List.not_mem_nil, or_false] at ha
      rcases ha with rfl | rfl | rfl
      · exact h5
      · exact h4
      · exact h1
    exact ⟨⟨Nat.ne_of_gt (Nat.lt_trans lt h2)⟩, ⟨Nat.ne_of_gt lt⟩, ⟨Nat.ne_of_gt (Nat.lt_trans lt lt2)⟩, trivial⟩
theorem off_keys {P : Params} {tr td rl : Addr} {tk0 : Tok} {en : Nat} {rows : List RowD} {OL TL : Led} {as : List Addr} {a : Addr} (I : NInv P tr td rl tk0 OL TL en rows as) (h : a ∈ as) : a ∉ Keys OL := fun q => by
  obtain ⟨p, hp, e⟩ := List.mem_map.mp q
  exact (I.off a h).all p hp e
theorem allne_new {h₀ h : Heap} {L a : Addr} {o : Obj} {news OL new : Led} (N : News h₀ L h news) (hm : (a, o) ∈ news) (ha : a ∉ Keys OL) (fr : ∀ p ∈ new, p.1 ∈ Keys OL ∨ h.get? p.1 = none) : AllNe a new := by
  refine AllNe.of fun p hp e => ?_
  rcases fr p hp with q | q
  · exact ha (e ▸ q)
  · have := (N _ hm).1
    rw [← e, q] at this; cases this
theorem comp_ind {prog : Program} {w : World} {A : Around} {s : Shared} {h₀ : Heap} {L : Addr} {m : Str → Option Value} {env : Env} {elt : PySem.Expr} {x : Str} {scope : Scope} {cl : List (Str × Addr)} {S : Led → Prop} {P : Nat → Value → Prop} {Fin : List Value → Led → Prop} {n : Nat} {news₀ : Led} (Inv : Nat → List Value → Led → Prop)
    (step : HoldC (∀ i ys nw v I oI C oC D m₂ h tk (E' : Value → Shared → Prop), i < n → Inv i ys nw → P i v → LCg.NsObj oC m₂ → m₂ x = some v → Fr h₀ L h m → News h₀ L h ((I, oI) :: (C, oC) :: (D, LCg.lst ys) :: nw) → LCg.Off3 I C D nw → ((@Ne Nat I C) ∧ (@Ne Nat I D) ∧ (@Ne Nat C D)) →
      wpAny (model prog w) A (eval elt (compEnvC scope cl C env)) (LCg.CompEnd h₀ L m { s with heap := h, toks := tk } I oI C oC D (LCg.lst ys) S (fun y nw' => Inv (i + 1) (ys ++ [y]) nw')) E' { s with heap := h, toks := tk }))
    (fin : HoldC (∀ ys nw, Inv n ys nw → Fin ys nw)) (start : Inv 0 [] news₀) :
    LCg.CompRest prog w A h₀ L m env elt x scope cl s S P Fin n 0 [] news₀ := by
  suffices H : ∀ k i ys nw, i + k = n → Inv i ys nw → LCg.CompRest prog w A h₀ L m env elt x scope cl s S P Fin k i ys nw from H n 0 [] _ (Nat.zero_add n) start
  intro k
  induction k with
  | zero =>
    intro i ys nw hi hv
    have e : i = n := by omega
    subst e
    exact LCg.CompRest.zero (fin.out ys nw hv)
  | succ k ih =>
    intro i ys nw hi hv
    refine LCg.CompRest.succ fun v I oI C oC D m₂ h tk E' hP hC hx F N off ne => ?_
    refine wpAny_mono (step.out i ys nw v I oI C oC D m₂ h tk E' (by omega) hv hP hC hx F N off ne) (fun y s₂ c => ?_) fun _ _ e => e
    obtain ⟨h', tk', nw', e1, F', N', off', hS', r⟩ := c
    exact ⟨h', tk', nw', e1, F', N', off', hS', ih (i + 1) (ys ++ [y]) nw' (by omega) r⟩
theorem range_bd4 {k : Int} (h0 : 0 ≤ k) (h1 : k < 4) : ∃ n : Nat, (n : Int) = 1 + k ∧ n ≤ 4 ∧ 1 ≤ n ∧ Builtin.Range.small 0 (1 + k) 1 = true ∧ Builtin.Range.rangeSize 0 (1 + k) 1 = (n : Int) := by
  rcases (show k = 0 ∨ k = 1 ∨ k = 2 ∨ k = 3 by omega) with rfl | rfl | rfl | rfl
  · exact ⟨1, by decide⟩
  · exact ⟨2, by decide⟩
  · exact ⟨3, by decide⟩
  · exact ⟨4, by decide⟩
theorem NInv.tl {P : Params} {tr td rl : Addr} {tk0 : Tok} {en : Nat} {rows : List RowD} {OL TL : Led} {as : List Addr} {p : Addr × Obj} (I : NInv P tr td rl tk0 OL TL en rows as) (h : p ∈ TL) : p ∈ OL := by rw [I.eq]; exact List.mem_append_left _ h
theorem pick_sts {TL : Led} {rows : List RowD} : ∀ (ys : List Value), (∀ v ∈ ys, FndOk TL rows v) → ∃ (ns : List Int) (sts : List Str), ns.length = ys.length ∧ sts.length = ys.length ∧ (∀ s ∈ sts, s ∈ textsT) ∧ ∀ (j : Nat) (v : Value), ys[j]? = some v → ∃ a n st t1 t2, v = Value.ref a ∧ (a, tupO [.int n t1, .str st t2]) ∈ TL ∧ SV rows n st ∧ st ∈ textsT ∧ sts[j]? = some st ∧ ns[j]? = some n
  | [], _ => ⟨[], [], rfl, rfl, fun _ h => (nomatch h), fun j v e => by simp at e⟩
  | y :: r, h => by
    obtain ⟨ns, sts, l0, l1, hs, l2⟩ := pick_sts r fun v hv => h v (.tail _ hv)
    obtain ⟨a, n, st, t1, t2, e1, e2, e3, e4⟩ := h y (.head _)
    refine ⟨n :: ns, st :: sts, by simp [l0], by simp [l1], fun s hs' => ?_, fun j v e => ?_⟩
    · rcases List.mem_cons.mp hs' with rfl | hs'
      · exact e4
      · exact hs s hs'
    · cases j with
      | zero =>
        have e' : y = v := by simpa using e
        subst e'
        exact ⟨a, n, st, t1, t2, e1, e2, e3, e4, rfl, rfl⟩
      | succ j =>
        obtain ⟨a, n, st, t1, t2, q1, q2, q3, q4, q5, q6⟩ := l2 j v (by simpa using e)
        exact ⟨a, n, st, t1, t2, q1, q2, q3, q4, by simpa using q5, by simpa using q6⟩
def NodeAt (rows : List RowD) (ns : List Int) (sts : List Str) (j : Nat) (y : Value) : Prop := ∃ n t st, y = Value.int n t ∧ sts[j]? = some st ∧ ns[j]? = some n ∧ SV rows n st ∧ st ∈ textsT
def TextAt (sts : List Str) (j : Nat) (y : Value) : Prop := ∃ st t, sts[j]? = some st ∧ y = Value.str st t ∧ st ∈ textsT
theorem mem_str7 {v : Value} {a b c d e f g : Str} {ta tb tc td te tf tg : Tok} (h : v ∈ [Value.str a ta, .str b tb, .str c tc, .str d td, .str e te, .str f tf, .str g tg]) : ∃ st t, v = Value.str st t := by
  simp only [List.mem_cons, List.not_mem_nil, or_false] at h
  rcases h with rfl | rfl | rfl | rfl | rfl | rfl | rfl <;> exact ⟨_, _, rfl⟩
theorem any_eqb (st : Str) : ([Str.ofString "=", Str.ofString "!="].any (· == st)) = eqb st := by
  unfold eqb
  rw [List.any_cons, List.any_cons, List.any_nil, Bool.or_false]
  congr 1
  · exact Bool.eq_iff_iff.mpr ⟨fun h => by rw [beq_iff_eq] at h ⊢; exact h.symm, fun h => by rw [beq_iff_eq] at h ⊢; exact h.symm⟩
  · exact Bool.eq_iff_iff.mpr ⟨fun h => by rw [beq_iff_eq] at h ⊢; exact h.symm, fun h => by rw [beq_iff_eq] at h ⊢; exact h.symm⟩
theorem nvs_nil {rows : List RowD} : ∀ (j : Nat) (v : Value), ([] : List Value)[j]? = some v → ∃ n t st, v = Value.int n t ∧ ([] : List Str)[j]? = some st ∧ SV rows n st ∧ st ∈ textsT := fun j v e => by simp at e
theorem ne_nil {prog : Program} {w : World} {A : Around} {E : Value → Shared → Prop} {s : Shared} {h₀ : Heap} {L : Addr} {news : Led} {Q : Value → Shared → Prop} {a b : Addr} {vs : List Value} {n1 n2 : Nat} (N : News h₀ L s.heap news) (hl : vs.length = ([] : List Value).length) (h1 : (a, W.listOf vs.toArray n1) ∈ news) (h2 : (b, W.listOf #[] n2) ∈ news)
    (hu : A.units + 64 < cLine) (h : Q (.bool false) s) : wpAny (model prog w) A (compareOp .NotEq (.ref a) (.ref b)) Q E s :=
  ne_strs (vs := vs) (us := []) (sts := []) N h1 h2 hl rfl (fun j v e => by rw [List.eq_nil_of_length_eq_zero hl] at e; simp at e) (fun j v e => by simp at e) (fun x hx => nomatch hx) hu h
theorem plain_oth {v : Value} {c : Addr} {p q : Int} {u1 u2 : Tok} (h : PlainV v c p q) : ∃ tp, Oth [(c, tupO [.int p u1, .int q u2])] v tp ∧ NumV [(c, tupO [.int p u1, .int q u2])] v p q := by
  cases h with
  | bool b e1 e2 e3 => subst e1 e2 e3; exact ⟨false, .bool _, .bool _⟩
  | word st t e hw => subst e; exact ⟨false, .str _ _, .word hw⟩
  | num e =>
    subst e
    exact ⟨true, .tup (.inl ⟨c, u1, u2, rfl, .head _⟩), .tup (.inl ⟨c, u1, u2, rfl, .head _⟩)⟩
section
variable {prog : Program} {w : World} {A : Around} {E : Value → Shared → Prop} {s : Shared} {h₀ : Heap} {L : Addr} {news : Led} {Q : Value → Shared → Prop}
theorem pair_0 {value slice : PySem.Expr} {t : Addr} {x y : Value} {u : Tok} (N : News h₀ L s.heap news) (hm : (t, tupO [x, y]) ∈ news) (h : Q x s)
    (hs : subscripted slice false (.ref t) (.int 0 u) = operate [.ref t, .int 0 u] (getItem (.ref t) (.int 0 u)) := by with_unfolding_all rfl) : wpAny (model prog w) A (subscriptTail value slice (.ref t) (.int 0 u)) Q E s :=
  item_tupleT (l := [x, y]) (N.isTup hm) (by decide) (by decide) rfl rfl h hs
theorem pair_1 {value slice : PySem.Expr} {t : Addr} {x y : Value} {u : Tok} (N : News h₀ L s.heap news) (hm : (t, tupO [x, y]) ∈ news) (h : Q y s)
    (hs : subscripted slice false (.ref t) (.int 1 u) = operate [.ref t, .int 1 u] (getItem (.ref t) (.int 1 u)) := by with_unfolding_all rfl) : wpAny (model prog w) A (subscriptTail value slice (.ref t) (.int 1 u)) Q E s :=
  item_tupleT (l := [x, y]) (N.isTup hm) (by decide) (by decide) rfl rfl h hs
end
theorem ne_bool_self {prog : Program} {w : World} {A : Around} {E : Value → Shared → Prop} {s : Shared} {Q : Value → Shared → Prop} {b : Bool} (h : Q (.bool false) s) : wpAny (model prog w) A (compareOp .NotEq (.bool b) (.bool b)) Q E s :=
  ne_bool (by rw [bne_self_eq_false b]; exact h)
theorem TextAt.weak {sts : List Str} {vs : List Value} (h : ∀ (j : Nat) (y : Value), vs[j]? = some y → TextAt sts j y) : ∀ (j : Nat) (y : Value), vs[j]? = some y → ∃ st t, sts[j]? = some st ∧ y = Value.str st t := fun j y e => by
  obtain ⟨st, t, e1, e2, _⟩ := h j y e
  exact ⟨st, t, e1, e2⟩
theorem same_told {k : Bool} {T1 T2 news : Led} {sts : List Str} {j : Nat} {x y : Value} (h1 : ToldAt k T1 sts j x) (h2 : ToldAt k T2 sts j y) (s1 : ∀ p ∈ T1, p ∈ news) (s2 : ∀ p ∈ T2, p ∈ news) : Same news x y := by
  obtain ⟨st, e1, r1⟩ := h1
  obtain ⟨st2, e2, r2⟩ := h2
  have e : st = st2 := Option.some.inj (e1.symm.trans e2)
  subst e
  cases k with
  | false =>
    rw [if_neg Bool.false_ne_true] at r1 r2
    exact .num (r1.more s1) (r2.more s2)
  | true =>
    rw [if_pos (by rfl)] at r1 r2
    obtain ⟨t, rfl⟩ := r1
    obtain ⟨t', rfl⟩ := r2
    exact .str _ _ _
theorem ints_canLay : ∀ ns : List Int, PyData.canLayAll0 (ns.map PyData.int) = true
  | [] => rfl
  | a :: r => by simp only [List.map_cons, PyData.canLayAll0, PyData.canLay0, ints_canLay r, Bool.and_true]
theorem ints_depth : ∀ ns : List Int, PyData.depthAll (ns.map PyData.int) = 0
  | [] => rfl
  | _ :: r => by simp [PyData.depthAll, PyData.depth, ints_depth r]
theorem ints_shaped (ns : List Int) : SeqAt.shaped (.list (ns.map PyData.int)) = true := by
  simp [SeqAt.shaped, PyData.canLay0, PyData.depth, ints_canLay ns, ints_depth]
theorem ints_eqv : ∀ ns : List Int, PyData.eqvAll (ns.map PyData.int) (ns.map PyData.int) = true
  | [] => rfl
  | a :: r => by simp [PyData.eqvAll, PyData.eqv, ints_eqv r]
theorem ints_reads {h : Heap} : ∀ {vs : List Value} {ns : List Int}, vs.length = ns.length → (∀ (j : Nat) (v : Value), vs[j]? = some v → ∃ n t, ns[j]? = some n ∧ v = Value.int n t) → ReadsAll h vs (ns.map PyData.int) []
  | [], [], _, _ => .nil
  | v :: r, st :: q, hl, hv => by
    obtain ⟨st', t, e1, e2⟩ := hv 0 v rfl
    have e1' : st = st' := by simpa using e1
    subst e1'
    subst e2
    exact .cons (.int _ _) (ints_reads (by simpa using hl) fun j v e => hv (j + 1) v (by simpa using e))
  | [], _ :: _, hl, _ => by simp at hl
  | _ :: _, [], hl, _ => by simp at hl
theorem NodeAt.weak {rows : List RowD} {ns : List Int} {sts : List Str} {vs : List Value} (h : ∀ (j : Nat) (y : Value), vs[j]? = some y → NodeAt rows ns sts j y) : ∀ (j : Nat) (y : Value), vs[j]? = some y → ∃ n t, ns[j]? = some n ∧ y = Value.int n t := fun j y e => by
  obtain ⟨n, t, st, e1, _, e2, _⟩ := h j y e
  exact ⟨n, t, e2, e1⟩
section
variable {prog : Program} {w : World} {A : Around} {E : Value → Shared → Prop} {s : Shared} {h₀ : Heap} {L : Addr} {news : Led} {Q : Value → Shared → Prop}
theorem eq_ints {a b : Addr} {vs us : List Value} {ns : List Int} {n1 n2 : Nat} (N : News h₀ L s.heap news) (h1 : (a, W.listOf vs.toArray n1) ∈ news) (h2 : (b, W.listOf us.toArray n2) ∈ news) (l1 : vs.length = ns.length) (l2 : us.length = ns.length)
    (t1 : ∀ (j : Nat) (v : Value), vs[j]? = some v → ∃ n t, ns[j]? = some n ∧ v = Value.int n t) (t2 : ∀ (j : Nat) (v : Value), us[j]? = some v → ∃ n t, ns[j]? = some n ∧ v = Value.int n t)
    (hu : A.units + 64 < cLine) (h : Q (.bool true) s) : wpAny (model prog w) A (compareOp .Eq (.ref a) (.ref b)) Q E s := by
  refine eq_dataH (reads_list_at (N _ h1).1 rfl rfl (ints_reads l1 t1)) (reads_list_at (N _ h2).1 rfl rfl (ints_reads l2 t2)) (ints_shaped ns) (ints_shaped ns) hu ?_
  have e : PyData.eqv (.list (ns.map PyData.int)) (.list (ns.map PyData.int)) = true := by simp [PyData.eqv, ints_eqv]
  rw [e]; exact h
end
theorem NumV.more {news news' : Led} {v : Value} {p q : Int} (o : NumV news v p q) (h : ∀ x ∈ news, x ∈ news') : NumV news' v p q := by
  cases o with
  | bool b => exact .bool b
  | word hw => exact .word hw
  | tup t => exact .tup (t.more h)
structure Due1 (op : Str) (v : Value) (c : Addr) (y : Value) : Prop where
  out : if eqb op = true then y = v else y = Value.ref c
/-- the third due: the value itself, or its number -/
theorem same_val {op : Str} {news T : Led} {v y1 y2 : Value} {c : Addr} {p q : Int} {u1 u2 : Tok} (hv : PlainV v c p q) (h1 : Told1 op v T y1 p q) (h2 : Due1 op v c y2) (hc : (c, tupO [.int p u1, .int q u2]) ∈ news) (hT : ∀ x ∈ T, x ∈ news) : Same news y1 y2 := by
  have h1 := h1.out
  have h2 := h2.out
  cases k : eqb op with
  | true =>
    rw [k, if_pos rfl] at h1 h2
    subst h1 h2
    cases hv with
    | bool b e1 e2 e3 => subst e1; exact .bool b
    | word st t e hw => subst e; exact .str st t t
    | num e => subst e; exact .num (.inl ⟨c, u1, u2, rfl, hc⟩) (.inl ⟨c, u1, u2, rfl, hc⟩)
  | false =>
    rw [k, if_neg Bool.false_ne_true] at h1 h2
    subst h2
    exact .num (h1.more hT) (.inl ⟨c, u1, u2, rfl, hc⟩)
theorem same_val1 {op : Str} {news T : Led} {v y1 y2 : Value} {c : Addr} {p q : Int} {u1 u2 : Tok} (hv : PlainV v c p q) (h1 : Told1 op v T y1 p q) (h2 : Due1 op v c y2) (hc : (c, tupO [.int p u1, .int q u2]) ∈ news) (hT : ∀ x ∈ T, x ∈ news) : ∀ (i : Nat) (x y : Value), [y1][i]? = some x → [y2][i]? = some y → Same news x y := by
  intro i x y e1 e2
  cases i with
  | zero =>
    have e1' : y1 = x := by simpa using e1
    have e2' : y2 = y := by simpa using e2
    subst e1' e2'
    exact same_val hv h1 h2 hc hT
  | succ i => simp at e1
theorem told_not {op : Str} {T : Led} {sts : List Str} {ys : List Value} (h : ∀ (j : Nat) (y : Value), ys[j]? = some y → ToldAt (eqb op && !false) T sts j y) : ∀ (j : Nat) (y : Value), ys[j]? = some y → ToldAt (eqb op) T sts j y := by
  intro j y e
  have r := h j y e
  rw [Bool.not_false, Bool.and_true] at r
  exact r

end
section
theorem seqG {prog : Program} {w : World} {A : Around} {env : Env} {st : Stmt} {rest : List Stmt} {Q : Flow → Shared → Prop} {E : Value → Shared → Prop} {s : Shared} {g h : Heap} {L : Addr} {m : Str → Option Value} {news : Led} (_F : Fr g L h m) (_N : News g L h news)
    (mid : Heap → Addr → (Str → Option Value) → Led → Shared → Shared → Prop)
    (h : wpAny (model prog w) A (exec st env) (fun f s' => StepEnd f (mid g L m news s s')) E s) (k : ∀ s', mid g L m news s s' → wpAny (model prog w) A (execs rest env) Q E s') : wpAny (model prog w) A (execs (st :: rest) env) Q E s :=
  wpAny_execs_cons (wpAny_mono h (fun f s' e => by obtain ⟨rfl, m⟩ := e; exact k s' m) (fun _ _ e => e))
inductive LMid (h₀ : Heap) (L : Addr) (s₀ : Shared) (m : Str → Option Value) (led : Led) : Shared → Prop
  | mk (h' : Heap) (tk' : Nat) (F : Fr h₀ L h' m) (N : News h₀ L h' led) : LMid h₀ L s₀ m led { s₀ with heap := h', toks := tk' }
inductive M2 (P : Params) (h₀ : Heap) (L : Addr) (s₀ : Shared) (m : Str → Option Value) (nw : Led) (s' : Shared) : Prop
  | mk (o2 o2' o1 : Obj) (b : Addr) (x y : Int) (t1 t2 : Tok) (tr td rl : Addr) (tk0 : Tok) (h1 : o1.data = Data.cell (some (Value.ref b))) (h2 : ∃ c, o2.data = Data.cell c) (hx : 0 ≤ x) (hy0 : 0 ≤ y) (hy : y < 2147483647) (n2 : NeA (L + 1 + 1) b) (n1 : NeA (L + 1) b) (ni : NInv P tr td rl tk0 (tled P tr td rl tk0 0 []) [] 0 [] [L + 1 + 1, L + 1, b])
    (en : nw = [(L + 1 + 1, o2), (L + 1, o2')]) (lm : LMid h₀ L s₀ (fun y => if y = Str.ofString "tree" then some (.ref tr) else m y) ([(L + 1 + 1, o2), (L + 1, o1), (b, W.listOf #[.int x t1, .int y t2] 0)] ++ tled P tr td rl tk0 0 []) s') : M2 P h₀ L s₀ m nw s'
inductive M3 (P : Params) (tr td rl : Addr) (tk0 : Tok) (b : Addr) (o1 : Obj) (h₀ : Heap) (L : Addr) (s₀ : Shared) (m : Str → Option Value) (s' : Shared) : Prop
  | mk (fd : Addr) (x' y' : Int) (t1' t2' : Tok) (n' : Nat) (fs : List Value) (e : Nat) (OL' TL : Led) (en' : Nat) (rows : List RowD) (nn : Nat) (o2n : Obj) (h1 : o2n.data = Data.cell (some (Value.ref fd))) (hx : 0 ≤ x') (hy0 : 0 ≤ y') (hy : y' < 2147483647) (nb : NeA b fd) (n2 : NeA (L + 1 + 1) fd) (n1 : NeA (L + 1) fd) (ni : NInv P tr td rl tk0 OL' TL en' rows [fd, b]) (a2 : AllNe (L + 1 + 1) OL') (a1 : AllNe (L + 1) OL')
    (hn1 : 1 ≤ nn) (hn2 : nn ≤ 3) (hr : rows.length ≤ 2 + 6 * nn) (hf : fs.length = 5 * nn) (ho : ∀ v ∈ fs, FndOk TL rows v)
    (lm : LMid h₀ L s₀ m ((L + 1 + 1, o2n) :: (L + 1, o1) :: (b, W.listOf #[.int x' t1', .int y' t2'] n') :: (fd, W.listOf fs.toArray e) :: OL') s') : M3 P tr td rl tk0 b o1 h₀ L s₀ m s'
inductive M4 (b : Addr) (TL OL : Led) (rows : List RowD) (o2n o1 : Obj) (n3 : Nat) (h₀ : Heap) (L : Addr) (s₀ : Shared) (m : Str → Option Value) (s' : Shared) : Prop
  | mk (x y : Int) (t1 t2 : Tok) (D : Addr) (ys : List Value) (hx : 0 ≤ x) (hy0 : 0 ≤ y) (hy : y < 2147483647) (nb : NeA b D) (h1 : 1 ≤ ys.length) (h4 : ys.length ≤ 4) (ho : ∀ v ∈ ys, FndOk TL rows v)
    (lm : LMid h₀ L s₀ (fun z => if z = Str.ofString "some" then some (.ref D) else m z) ((L + 1 + 1, o2n) :: (L + 1, o1) :: (b, W.listOf #[.int x t1, .int y t2] n3) :: (D, LCg.lst ys) :: OL) s') : M4 b TL OL rows o2n o1 n3 h₀ L s₀ m s'
inductive M5 (b D : Addr) (OL : Led) (rows : List RowD) (ys : List Value) (ns : List Int) (sts : List Str) (o2n o1 : Obj) (x4 : Int) (t14 : Tok) (y4 : Int) (t24 : Tok) (n3 : Nat) (h₀ : Heap) (L : Addr) (s₀ : Shared) (m : Str → Option Value) (s' : Shared) : Prop
  | mk (Dn Dt : Addr) (vn vt : List Value) (hvn : vn.length = ys.length) (hvt : vt.length = ys.length) (hn : ∀ (j : Nat) (y : Value), vn[j]? = some y → NodeAt rows ns sts j y) (ht : ∀ (j : Nat) (y : Value), vt[j]? = some y → TextAt sts j y) (nn : NeA b Dn) (nt : NeA b Dt)
    (lm : LMid h₀ L s₀ (fun z => if z = Str.ofString "nodes" then some (.ref Dn) else if z = Str.ofString "texts" then some (.ref Dt) else m z) ((L + 1 + 1, o2n) :: (L + 1, o1) :: (b, W.listOf #[.int x4 t14, .int y4 t24] n3) :: (D, LCg.lst ys) :: (Dn, LCg.lst vn) :: (Dt, LCg.lst vt) :: OL) s') : M5 b D OL rows ys ns sts o2n o1 x4 t14 y4 t24 n3 h₀ L s₀ m s'
inductive M6 (D Dn Dt : Addr) (OL : Led) (ys vn vt : List Value) (h₀ : Heap) (L : Addr) (s₀ : Shared) (m : Str → Option Value) (s' : Shared) : Prop
  | mk (op : Str) (top : Tok) (a1 c1 a2 c2 : Addr) (v1 v2 : Value) (p1 q1 p2 q2 : Int) (u1 u2 u3 u4 : Tok) (pv1 : PlainV v1 c1 p1 q1) (pv2 : PlainV v2 c2 p2 q2)
    (lm : LMid h₀ L s₀ (fun z => if z = Str.ofString "op" then some (.str op top) else if z = Str.ofString "value" then some (.ref a1) else if z = Str.ofString "other" then some (.ref a2) else m z)
      ((D, LCg.lst ys) :: (Dn, LCg.lst vn) :: (Dt, LCg.lst vt) :: (a1, tupO [v1, .ref c1]) :: (c1, tupO [.int p1 u1, .int q1 u2]) :: (a2, tupO [v2, .ref c2]) :: (c2, tupO [.int p2 u3, .int q2 u4]) :: OL) s') : M6 D Dn Dt OL ys vn vt h₀ L s₀ m s'
theorem bag_U {w : World} {mean : ExcName → Option Value} {mg mb : Str → Option Value} {A₀ : Around} {dp un : Nat} {gd : Option (List Code)} {s : Shared} {base h₀ : Heap} {outer : List Env} {L : Addr} {m : Str → Option Value} {env : Env} {R : Result → Shared → Prop}
  (B : Below A₀ base outer h₀) (F : Fr h₀ L s.heap m) (X : (heapK w.params).In h₀) (T : Top viewK lo mean mg mb h₀) (hf : env.frame = some L) (hke : env.scope.kind = .function) {a : Addr} {vs : List Value} {ns : List Int}
  (hdep : dp + 3 < 1000) (hun : un + 200 < 9900) (hl : base.IsList a vs.toArray) (hi : IntsAre vs ns)
  (ret : ∀ (b : Addr) (x' y' : Int) (t1' t2' : Tok) (h' : Heap) (tk' : Nat), h'.get? b = some (W.listOf #[.int x' t1', .int y' t2'] 0) → Keeps [] s.heap h' → s.heap.get? b = none → 0 ≤ x' → 0 ≤ y' → y' < 2147483647 →
     R (.ok (.ret (.ref b))) { s with heap := h', toks := tk' }) :
  codeAny (model PySem.Challenge.rw_xm0671_01.row.prog w) (Around.mk none dp (some (env :: outer)) gd un) (.call (.ref 402) ⟨[.ref a], []⟩) R s := bag_code B F X T hf hke hl hi hdep hun ret


theorem wd1_L1 : True := by
  k_with_none
  k_with "u lt" => (with_reducible (first | assumption | exact cl0 ‹_› | exact cl1 ‹_› | exact cl2 ‹_› | exact cl3 ‹_› | exact cl4 ‹_› | exact cl5 ‹_› | exact cl6 ‹_› | exact cl7 ‹_› | exact cl8 ‹_› | exact cl9 ‹_› | exact cl10 ‹_› | exact cl11 ‹_› | exact cr1 ‹_› | exact cr2 ‹_› | exact cr3 ‹_› | exact cr4 ‹_› | exact cr5 ‹_› | exact cr6 ‹_› | exact cr7 ‹_› | exact cr8 ‹_› | exact cr9 ‹_› | exact cr10 ‹_› | exact cr11 ‹_›))
  k_with "u room" => (first | exact room3 (by with_reducible assumption) rfl | exact room2 (by with_reducible assumption) rfl | exact room4 (by with_reducible assumption) rfl | exact room1 (by with_reducible assumption) | exact roomc (by with_reducible assumption) rfl | exact roome (by with_reducible assumption) rfl | exact roomd (by with_reducible assumption) rfl | exact roomn rfl | exact Nat.le_of_ble_eq_true rfl)
  k_with "call ref" => ((k_here; k_extra "ct"))
  k_with "u dp" => (((try simp only [depth_deeper, depth_in1, depth_caller]); (try dsimp only); first | walk_at "u room" | omega))
  k_with "u un" => (((try simp only [units_deeper, units_in1, units_caller]); (try dsimp only); first | walk_at "u room" | omega))
  k_with "u end" => (((try k_sweep); (try dsimp only); (try ((fail_if_success (with_reducible show wpAny _ _ _ _ _ _)); refine peel ?_)); (try k_fold)))
  k_with "u om" => (first | walk_at "u lt" | walk_at "u room" | exact Nat.le_of_ble_eq_true rfl | omega)
  k_with "k_ne" => (first | exact NeA.ne (by with_reducible assumption) | exact Ne.symm (NeA.ne (by with_reducible assumption)) | exact Nat.ne_of_gt (by walk_at "u lt") | exact Nat.ne_of_lt (by walk_at "u lt"))
  k_with "k_room" => (((try simp only [depth_under_make, depth_under_kw, depth_in1, depth_deeper, depth_caller, recursionLimit]); (try dsimp only); first | walk_at "u room" | omega))
  k_with "k_units" => (first | ((try simp only [units_in1, units_deeper, Around.mark_units, units_caller]); (try dsimp only); walk_at "u room") | (have hcL9 := cLine_is; (try simp only [units_in1, units_deeper, Around.mark_units, units_caller]); (try dsimp only); omega))
  k_with "om" => (with_reducible ((fail_if_success exact True.intro); (fail_if_success exact not_false); first | decide | exact n_lt0 rfl | exact n_le0 rfl | exact n_ltlt ‹_› rfl | exact n_lelt ‹_› rfl | exact n_lele ‹_› rfl | exact n_ltle ‹_› rfl | exact n_eqlt ‹_› rfl | exact n_lelt2 ‹_› ‹_› rfl | exact n_lelt3 ‹_› ‹_› rfl | exact Int.natCast_nonneg _ | exact i_ngt rfl | exact i_ge ‹_› rfl | exact i_gt ‹_› rfl | exact i_gtn ‹_› rfl | exact i_gt64 ‹_› | exact i_lt ‹_› rfl | exact i_lt64 ‹_› rfl | exact i_lelt ‹_› rfl | exact i_le ‹_› rfl | exact i_ne ‹_› rfl | exact i_nlt ‹_› rfl | exact i_ltn ‹_› ‹_› rfl | exact i_ltn2 ‹_› ‹_› rfl | exact i_neg ‹_› | exact i_eqn ‹_› | exact i_succ ‹_› | exact Int.add_one_le_of_lt ‹_› | exact i_sub_less ‹_› ‹_› | exact i_sub_less2 ‹_› ‹_› ‹_› | exact n_sum ‹_› ‹_› ‹_› ‹_› rfl))
  k_with "k_mem" => (first | exact List.mem_cons_self | with_reducible assumption | (refine List.mem_cons_of_mem _ ?_; k_mem) | (refine List.mem_append_right _ ?_; k_mem))
  k_with "k_all" => (exact AllNe.all (by with_reducible assumption))
  k_with "exec If" => ((k_here; refine wpAny_If ?_))
  k_with "compareOp NotEq ref ref" => ((k_here; k_dflt (k_extra "ne")))
  k_with "call ref" => ((k_here; (with_reducible show wpAny _ _ (call (Value.ref 437) _) _ _ _); k_dflt (refine wpAny_call ?_; refine HoldC.out ?_)))
  k_with "call type:range" => ((k_here; (rename Fr _ _ _ _ => F_q); (rename News _ _ _ _ => N_q); (with_unfolding_all refine range1_rows F_q N_q ?_); intro _ _ _ _ _ rg_q _ _ _))
  k_with "CompSrc" => ((k_here; k_dflt (k_extra "src")))
  k_with "exec Assign cons ListComp" => ((k_here; k_dflt (refine LCg.Assign_ListComp_U (F₀ := by k_asm) (by rfl) (by with_unfolding_all rfl) (by with_unfolding_all rfl) (by decide) (by rfl) (by decide) (by rfl) (by rfl) (by rfl) ?_)))
  k_with "SrcLP" => ((k_here; k_dflt (refine LCp.SrcLP.ledger (by rfl) (by k_asm) (by k_asm) (by k_mem) (by k_extra "size") ?_; intro g_q; k_extra "comp")))
  k_with "eval ListComp Name" => ((k_here; k_dflt (refine LCp.ListComp_P (F₀ := by k_asm) (by with_unfolding_all rfl) (by decide) (by rfl) (by decide) (by rfl) (by rfl) (by decide) ?_)))
  k_with "newList" => ((k_here; (with_reducible show wpAny _ _ (newList _) _ _ _); k_dflt (refine' newList_K ?k1_w10 ?k2_w10 ?_ ?z_w10; (case k1_w10 => k_asm); (case k2_w10 => k_asm); (case z_w10 => exact Nat.le_of_ble_eq_true rfl); k_whole; intro l_q h_q F_q N_q l1; k_lt l1; k_sweep)))
  k_with "subscriptTail Name Constant ref int" => ((k_here; k_dflt (first | ((with_reducible show wpAny _ _ (subscriptTail _ _ (Value.ref _) (Value.int 0 _)) _ _ _); refine pair_0 (by k_asm) (by k_mem) ?_) | ((with_reducible show wpAny _ _ (subscriptTail _ _ (Value.ref _) (Value.int 1 _)) _ _ _); refine pair_1 (by k_asm) (by k_mem) ?_))))
  k_with "compareOp Eq ref ref" => ((k_here; k_dflt (k_extra "eq")))
  k_with "compareOp NotEq bool bool" => ((k_here; k_dflt (refine ne_bool_self ?_)))
  k_with "eval ListComp Call" => ((k_here; k_dflt (refine LCg.ListComp_U (F₀ := by k_asm) (by with_unfolding_all rfl) (by decide) (by rfl) (by decide) (by rfl) ?_)))
  k_with "call builtin:isinstance" => ((k_here; (with_reducible show wpAny _ _ (call _ [_, Value.type "tuple"]) _ _ _); k_dflt (refine' isi_tup ?o_w15 ?N_w15 ?X_w15 ?_; (case N_w15 => k_asm); (case o_w15 => k_extra "oth"); (case X_w15 => k_in); intro _)))
  k_with "ct" => ((with_reducible show wpAny _ _ (call (Value.ref 449) [Value.ref _, Value.ref _]) _ _ _); k_dflt (first | (refine wpAny_call ?_; refine' is_same_code (by k_asm) (by k_asm) (by k_asm) (by k_asm) rfl rfl (by walk_at "u dp") (by walk_at "u un") (by k_asm) (by k_mem) (by k_mem) (by first | with_reducible assumption | exact rfl) (by first | with_reducible assumption | omega | exact rfl) (by first | omega | exact Nat.le_of_ble_eq_true rfl) ?h6 ?_; (case h6 => k_extra "same"); k_whole; intro hp_q tkq_q F_q N_q;  walk_at "u end")))
  k_with "ct" => ((with_reducible show wpAny _ _ (call (Value.ref 430) [Value.str _ _]) _ _ _); k_dflt (first | (refine wpAny_call ?_; refine' numbered_U (by k_asm) (by k_asm) (by k_asm) (by k_asm) rfl rfl (by walk_at "u dp") (by walk_at "u un")  ?_; k_whole; intro vp_q Tp_q hp_q tkq_q kpp_q hh_q fr_q tu_q;  (have ap_q := fresh_apart fr_q (by k_asm : News _ _ _ _)); (have F_q := after_noneF (by k_asm) kpp_q); (have N_q := after_noneN (by k_asm) kpp_q); (replace N_q := new_entries (by k_asm) N_q fr_q hh_q); walk_at "u end")))
  k_with "ct" => ((with_reducible show wpAny _ _ (call (Value.ref 135) [Value.str _ _]) _ _ _); k_dflt (first | (refine wpAny_call ?_; refine' is_equality_code (by k_asm) (by k_asm) (by k_asm) (by k_asm) rfl rfl (by walk_at "u dp") (by walk_at "u un")  ?_; k_whole; intro hp_q tkq_q kpp_q; (have F_q := after_noneF (by k_asm) kpp_q); (have N_q := after_noneN (by k_asm) kpp_q); walk_at "u end")))
  k_with "ct" => ((with_reducible show wpAny _ _ (call (Value.ref 409) [Value.ref _, Value.int _ _]) _ _ _); k_dflt (first | (refine wpAny_call ?_; refine' pick_code (by k_asm) (by k_asm) (by k_asm) (by k_asm) rfl rfl (by walk_at "u dp") (by walk_at "u un") (by exact List.forall_mem_cons.mpr ⟨(by k_asm : News _ _ _ _) _ (by k_mem), List.forall_mem_nil _⟩) (by walk_at "u om") (by walk_at "u om") (by walk_at "u om") (by walk_at "u om") (by walk_at "u om") ?_; k_whole; intro kp_q xp_q yp_q tkp_q t1p_q t2p_q hp_q tkq_q hkp0_q hkp1_q hxp_q hyp0_q hyp1_q kpp_q hbp_q; (have F_q := after_oneF (by k_asm) (by k_asm) (by k_mem) kpp_q); (have N_q := after_oneN (by k_asm) (by k_asm) (U := by k_upd) kpp_q hbp_q); walk_at "u end")))
  k_with "ct" => ((with_reducible show wpAny _ _ (call (Value.ref 416) [Value.ref _, Value.ref _]) _ _ _); k_dflt (first | (refine wpAny_call ?_; refine' one_code (by k_asm) (by k_asm) (by k_asm) (by k_asm) rfl rfl (by walk_at "u dp") (by walk_at "u un") (by exact List.forall_mem_cons.mpr ⟨(by k_asm : News _ _ _ _) _ (by k_mem), List.forall_mem_cons.mpr ⟨(by k_asm : News _ _ _ _) _ (by k_mem), List.forall_mem_nil _⟩⟩) (by (first | k_ne | omega)) (by walk_at "u om") (by walk_at "u om") (by walk_at "u om") (by (first | omega | decide | (simp only [List.length_cons, List.length_nil]; omega))) (by (first | omega | decide | (simp only [List.length_cons, List.length_nil]; omega))) ?_; k_whole; intro vp_q xp_q yp_q t1p_q t2p_q hp_q tkq_q hvp_q hxp_q hyp0_q hyp1_q kpp_q hbp_q; (have F_q := after_oneF (by k_asm) (by k_asm) (by k_mem) kpp_q); (have N_q := after_oneN (by k_asm) (by k_asm) (U := by k_upd) kpp_q hbp_q); walk_at "u end")))
  k_with "ct" => ((with_reducible show wpAny _ _ (call (Value.ref 444) [Value.ref _]) _ _ _); k_dflt (first | (refine wpAny_call ?_; refine' plain_code (by k_asm) (by k_asm) (by k_asm) (by k_asm) rfl rfl (by walk_at "u dp") (by walk_at "u un") (by exact List.forall_mem_cons.mpr ⟨(by k_asm : News _ _ _ _) _ (by k_mem), List.forall_mem_nil _⟩) (by walk_at "u om") (by walk_at "u om") (by walk_at "u om") ?_; k_whole; intro ap_q aq_q vp_q pp_q qp_q t3p_q t4p_q xp_q yp_q t1p_q t2p_q hp_q tkq_q he1_q he2_q hbp_q kpp_q hn1_q hn2_q hpv_q hxp_q hyp0_q hyp1_q; (have F_q := after_oneF (by k_asm) (by k_asm) (by k_mem) kpp_q); (have N_q := after_oneN (by k_asm) (by k_asm) (U := by k_upd) kpp_q hbp_q); (have ne1_q := allNe_of hn1_q (by k_asm : News _ _ _ _)); (have ne2_q := allNe_of hn2_q (by k_asm : News _ _ _ _)); (replace N_q := new_entry (by k_asm) (new_entry (by k_asm) N_q hn2_q he2_q) hn1_q he1_q); (simp only [AllNe, and_true] at ne1_q ne2_q); (repeat (have _ := And.left ne1_q; replace ne1_q := And.right ne1_q)); (repeat (have _ := And.left ne2_q; replace ne2_q := And.right ne2_q)); walk_at "u end")))
  k_with "ct" => ((with_reducible show wpAny _ _ (call (Value.ref 145) [Value.ref _, Value.ref _]) _ _ _); k_dflt (first | (refine wpAny_call ?_; refine' texts_of_code (by k_asm) (by k_asm) (by k_asm) (by k_asm) rfl rfl (by walk_at "u dp") (by walk_at "u un") (by with_reducible assumption) (by k_asm) ?h1 ?h2 ?h3 ?h4 ?h5 ?h6 ?_; (case h1 => exact (fun p hp => by (repeat (first | exact hp | exact (by k_extra "sub") | refine List.Mem.tail _ ?_)))); (case h2 => k_mem); (case h3 => first | with_reducible assumption | exact rfl); (case h4 => first | with_reducible assumption | omega | (simp only [List.length_append, List.length_set, List.length_cons, List.length_nil]; omega) | exact (by decide)); (case h5 => k_extra "nvs"); (case h6 => first | with_reducible assumption | omega | (simp only [List.length_append, List.length_set, List.length_cons, List.length_nil]; omega) | exact (by decide)); k_whole; intro lp_q ysp_q hp_q tkq_q hly_q hty_q F_q N_q;  walk_at "u end")))
  k_with "ct" => ((with_reducible show wpAny _ _ (call (Value.ref 152) [Value.str _ _, _, _, Value.ref _]) _ _ _); k_dflt (first | (refine wpAny_call ?_; refine' listed_val (by k_asm) (by k_asm) (by k_asm) (by k_asm) rfl rfl (by walk_at "u dp") (by walk_at "u un") (by k_asm) ?h1 ?_; (case h1 => k_extra "numv"); k_whole; intro lp_q yp_q ep_q Tp_q hp_q tkq_q hyp_q F_q N_q;  walk_at "u end")))
  k_with "ct" => ((with_reducible show wpAny _ _ (call (Value.ref 152) [Value.str _ _, Value.ref _, _, Value.ref _]) _ _ _); k_dflt (first | (refine wpAny_call ?_; refine' listed_list (by k_asm) (by k_asm) (by k_asm) (by k_asm) rfl rfl (by walk_at "u dp") (by walk_at "u un") (by with_reducible assumption) (by k_asm) ?h1 ?h2 ?h3 ?h4 ?h5 ?h6 ?h7 ?_; (case h1 => exact (fun p hp => by (repeat (first | exact hp | exact (by k_extra "sub") | refine List.Mem.tail _ ?_)))); (case h2 => k_mem); (case h3 => first | with_reducible assumption | exact rfl); (case h4 => first | with_reducible assumption | omega | (simp only [List.length_append, List.length_set, List.length_cons, List.length_nil]; omega) | exact (by decide)); (case h5 => k_extra "nvs"); (case h6 => first | with_reducible assumption | omega | (simp only [List.length_append, List.length_set, List.length_cons, List.length_nil]; omega) | exact (by decide)); (case h7 => k_extra "oth"); k_whole; intro lp_q ysp_q ep_q Tp_q hp_q tkq_q hly_q hty_q F_q N_q;  walk_at "u end")))
  k_with "ct" => ((with_reducible show wpAny _ _ (call (Value.ref 140) [Value.str _ _, Value.ref _, _]) _ _ _); k_dflt (first | (refine wpAny_call ?_; refine' as_compared_code (by k_asm) (by k_asm) (by k_asm) (by k_asm) rfl rfl (by walk_at "u dp") (by walk_at "u un") (by k_asm) (by k_mem) (by first | with_reducible assumption | exact rfl) (by first | with_reducible assumption | omega | (simp only [List.length_append, List.length_set, List.length_cons, List.length_nil]; omega) | exact (by decide)) ?h4 ?h5 ?_; (case h4 => k_extra "vs"); (case h5 => k_extra "oth"); k_whole; intro lp_q ysp_q ep_q Tp_q hp_q tkq_q hly_q hty_q F_q N_q;  walk_at "u end")))
  k_with "ct" => ((with_reducible show wpAny _ _ (call (Value.ref 402) [Value.ref _]) _ _ _); k_dflt (first | (refine wpAny_call ?_; refine' bag_U (by k_asm) (by k_asm) (by k_asm) (by k_asm) rfl rfl (by walk_at "u dp") (by walk_at "u un") (by assumption) (by assumption) ?_; k_whole; intro bp_q xp_q yp_q t1p_q t2p_q hp_q tkq_q hep_q kpp_q hn1_q hxp_q hyp0_q hyp1_q; (have F_q := after_noneF (by k_asm) kpp_q); (have N_q := after_noneN (by k_asm) kpp_q); (have ne1_q := allNe_of hn1_q (by k_asm : News _ _ _ _)); (replace N_q := new_entry (by k_asm) N_q hn1_q hep_q); (simp only [AllNe, and_true] at ne1_q); (repeat (have _ := And.left ne1_q; replace ne1_q := And.right ne1_q)); walk_at "u end")))
  exact True.intro
theorem law_dev : PySem.Challenge.rw_xm0671_01.Holds := by
  w_on
  refine holds_law said_law fun said => ?_
  clear said
  refine holds_open (q := viewK) (loose := looseK) (Xt := fun s => xlAt viewK valsK s && recOk (RowW.records PySem.Challenge.rw_xm0671_01.row.toRowW) s) (XP := XL viewK valsK) (Yf := Hook.obs (kHook heapK asK asK_is)) (Ya := Hook.val (kHook heapK asK asK_is)) (YP := Hook.says (kHook heapK asK asK_is)) (N := 5560) left_top (Hook.of (kHook heapK asK asK_is)) (Hook.keeps (kHook heapK asK asK_is)) (fun s e => xl_of s (Bool.and_eq_true_iff.mp e).1) XL.keeps (by rfl) (by rfl) (by rfl) (fun s e => recFacts_of (Bool.and_eq_true_iff.mp e).2) (by rfl) (row_said said_law) (by decide +kernel) ⟨rfl, rfl, rfl, rfl, rfl, by decide +kernel⟩ ?hw ?hc
  case hw => w_witness2
  k_go0
  all_goals try k_fold
  rename News _ _ _ _ => N0
  rename Fr _ _ _ _ => F0
  rename World => w
  rename Shared => s1
  refine seqG F0 N0 (fun h₀ L m nw s0 s' => LMid h₀ L s0 m nw s') ?w1 ?k1
  case w1 =>
    k_with "vs" => exact vs_one (words_text seven_w)
    k_with "oth" => first | exact Oth.str _ _ | exact Oth.tup (.inl ⟨_, _, _, rfl, by k_mem⟩)
    k_with "ne" =>
      rename (List.length _ = List.length [_]) => ln'
      obtain ⟨y1, e1⟩ := one_of ln'
      subst e1
      rename (∀ (j : Nat) (y : Value), [y1][j]? = some y → ToldAt _ _ _ j y) => lt'
      first
        | (with_reducible have lt2 := told_seven lt'
           refine ne_num1 (by k_asm) (by k_in) (by k_mem) (by k_mem) (TupAt.more lt2 (fun x hx => List.mem_cons_of_mem _ (List.mem_cons_of_mem _ (List.mem_cons_of_mem _ (List.mem_append_left _ hx))))) (.inl ⟨_, _, _, rfl, by k_mem⟩) (by ke_room) ?_)
        | (with_reducible have lt2 := told_seven2 lt'
           obtain ⟨ty, ey⟩ := lt2
           subst ey
           refine ne_str1 (by k_asm) (by k_mem) (by k_mem) (words_text seven_w) (by ke_room) ?_)
    k_steps
    rename Fr _ _ _ _ => zF
    rename News _ _ _ _ => zN
    exact ⟨rfl, _, _, zF, news_of zN (fun p hp => by (repeat (first | exact hp | refine List.Mem.tail _ ?_ | refine List.mem_append_right _ ?_)))⟩
  case k1 =>
  rintro s' ⟨h1, tk1, F1, N1⟩
  clear F0 N0
  refine seqG F1 N1 (fun h₀ L m nw s0 s' => M2 w.params h₀ L s0 m nw s') ?w2 ?k2
  case w2 =>
    k_steps
    rename Fr _ _ _ _ => zF
    rename News _ _ _ _ => zN
    rename (_ = Data.cell (some (Value.ref _))) => zd
    refine' ⟨rfl, _, _, _, _, _, _, _, _, _, _, _, _, zd, ⟨_, by assumption⟩, ?hx, ?hy0, ?hy, (by with_reducible assumption), (by with_reducible assumption), ?ni, rfl, _, _, zF, news_of zN ?nw⟩
    case nw =>
      simp only [tled, List.map_nil, List.flatMap_nil, List.cons_append, List.nil_append]
      (repeat (first | exact List.forall_mem_nil _ | refine List.forall_mem_cons.mpr ⟨by k_mem, ?_⟩))
    case hx => assumption
    case hy0 => assumption
    case hy => assumption
    case ni => exact NInv.first (by omega) (by omega) (by omega) (by omega) (by omega)
  case k2 =>
  rintro s' ⟨o2, o2', o1, b, x, y, t1, t2, tr, td, rl, tk0, hc1, ⟨cc2, hc2⟩, hx, hy0, hy, nb2, nb1, hNI, enw, h2, tk2, F2, N2⟩
  clear F1 N1
  obtain ⟨m0, F2⟩ : ∃ m0 : Str → Option Value, Fr s1.heap s1.heap.objs.size h2 (fun y => if y = Str.ofString "tree" then some (Value.ref tr) else m0 y) := ⟨_, F2⟩
  try (rename CellsAre _ _ _ => zz1; clear zz1)
  try (rename (_ = Data.cell (bindC _ _ _ _)) => zz1; clear zz1)
  try (rename (_ = Data.cell (bindC _ _ _ _)) => zz1; clear zz1)
  try (rename Dflts _ _ _ _ _ _ => zz1; clear zz1)
  try (rename Heap.CodeRec _ _ _ => zz1; clear zz1)
  have ti := hNI.ti
  simp only [List.cons_append, List.nil_append] at N2
  refine seqG F2 N2 (fun h₀ L m nw s0 s' => M3 w.params tr td rl tk0 b o1 h₀ L s0 m s') ?w3 ?k3
  case w3 =>
    k_steps
    refine HoldC.mk ?_
    refine law_nodes_code (by k_asm) (by k_asm) (by k_asm) (by k_asm) rfl rfl (by decide) (by decide) (news_one N2 (by k_mem) (fun p hp => by (repeat (first | exact hp | refine List.Mem.tail _ ?_)))) (hNI.fewer (fun a ha => by rw [List.mem_singleton.mp ha]; exact .tail _ (.tail _ (.head _)))) hx hy0 hy ?_
    intro fd x' y' t1' t2' n' fs e OL' TL en' rows nn h3 tk3 hH hNI' hnew hkp hx' hy0' hy' hne hn1 hn2 hrl hfs hfo
    obtain ⟨zF, zN⟩ := after_nodes (keep := [(_, o2), (_, o1)]) (by k_asm) N2 (List.forall_mem_cons.mpr ⟨⟨by k_mem, nb2.ne, off_keys hNI (.head _)⟩, List.forall_mem_cons.mpr ⟨⟨by k_mem, nb1.ne, off_keys hNI (.tail _ (.head _))⟩, List.forall_mem_nil _⟩⟩) (by k_mem) (fun p hp => by (repeat (first | exact hp | refine List.Mem.tail _ ?_))) hkp hH hnew
    have a2 := allne_new N2 (.head _) (off_keys hNI (.head _)) hnew
    have a1 := allne_new N2 (.tail _ (.head _)) (off_keys hNI (.tail _ (.head _))) hnew
    simp only [List.cons_append, List.nil_append] at zN
    obtain ⟨a3, a4⟩ := a2
    obtain ⟨a5, a6⟩ := a1
    dsimp only at a3 a5
    try dsimp only
    k_steps
    rename (_ = Data.cell (some (Value.ref fd))) => zd
    rename Fr _ _ _ _ => zF
    rename News _ _ _ _ => zN
    exact ⟨rfl, fd, x', y', t1', t2', n', fs, e, OL', TL, en', rows, nn, _, zd, hx', hy0', hy', hne, ⟨a3.ne.symm⟩, ⟨a5.ne.symm⟩, hNI', a4, a6, hn1, hn2, hrl, hfs, hfo, _, _, zF, zN⟩
  case k3 =>
  rintro s' ⟨fd, x3, y3, t13, t23, n3, fs, e3, OL, TL, en, rows, nn, o2n, hcr, hx3, hy03, hy3, hne, hn2, hn1, hNI3, ao2, ao1, hnn1, hnn2, hrl, hfs, hfo, h3, tk3, F3, N3⟩
  clear F2 N2 ti hNI hc2 hx hy0 hy
  have aob := hNI3.off b (.tail _ (.head _))
  have aof := hNI3.off fd (.head _)
  have ti := hNI3.ti
  refine seqG F3 N3 (fun h₀ L m nw s0 s' => M4 b TL OL rows o2n o1 n3 h₀ L s0 m s') ?w4 ?k4
  case w4 =>
    k_with_none
    k_with "u lt" => (with_reducible (first | assumption | exact cl0 ‹_› | exact cl1 ‹_› | exact cl2 ‹_› | exact cl3 ‹_› | exact cl4 ‹_› | exact cl5 ‹_› | exact cl6 ‹_› | exact cl7 ‹_› | exact cl8 ‹_› | exact cl9 ‹_› | exact cl10 ‹_› | exact cl11 ‹_› | exact cr1 ‹_› | exact cr2 ‹_› | exact cr3 ‹_› | exact cr4 ‹_› | exact cr5 ‹_› | exact cr6 ‹_› | exact cr7 ‹_› | exact cr8 ‹_› | exact cr9 ‹_› | exact cr10 ‹_› | exact cr11 ‹_›))
    k_with "u room" => (first | exact room3 (by with_reducible assumption) rfl | exact room2 (by with_reducible assumption) rfl | exact room4 (by with_reducible assumption) rfl | exact room1 (by with_reducible assumption) | exact roomc (by with_reducible assumption) rfl | exact roome (by with_reducible assumption) rfl | exact roomd (by with_reducible assumption) rfl | exact roomn rfl | exact Nat.le_of_ble_eq_true rfl)
    k_with "call ref" => ((k_here; k_extra "ct"))
    k_with "u dp" => (((try simp only [depth_deeper, depth_in1, depth_caller]); (try dsimp only); first | walk_at "u room" | omega))
    k_with "u un" => (((try simp only [units_deeper, units_in1, units_caller]); (try dsimp only); first | walk_at "u room" | omega))
    k_with "u end" => (((try k_sweep); (try dsimp only); (try ((fail_if_success (with_reducible show wpAny _ _ _ _ _ _)); refine peel ?_)); (try k_fold)))
    k_with "u om" => (first | walk_at "u lt" | walk_at "u room" | exact Nat.le_of_ble_eq_true rfl | omega)
    k_with "k_ne" => (first | exact NeA.ne (by with_reducible assumption) | exact Ne.symm (NeA.ne (by with_reducible assumption)) | exact Nat.ne_of_gt (by walk_at "u lt") | exact Nat.ne_of_lt (by walk_at "u lt"))
    k_with "k_room" => (((try simp only [depth_under_make, depth_under_kw, depth_in1, depth_deeper, depth_caller, recursionLimit]); (try dsimp only); first | walk_at "u room" | omega))
    k_with "k_units" => (first | ((try simp only [units_in1, units_deeper, Around.mark_units, units_caller]); (try dsimp only); walk_at "u room") | (have hcL9 := cLine_is; (try simp only [units_in1, units_deeper, Around.mark_units, units_caller]); (try dsimp only); omega))
    k_with "om" => (with_reducible ((fail_if_success exact True.intro); (fail_if_success exact not_false); first | decide | exact n_lt0 rfl | exact n_le0 rfl | exact n_ltlt ‹_› rfl | exact n_lelt ‹_› rfl | exact n_lele ‹_› rfl | exact n_ltle ‹_› rfl | exact n_eqlt ‹_› rfl | exact n_lelt2 ‹_› ‹_› rfl | exact n_lelt3 ‹_› ‹_› rfl | exact Int.natCast_nonneg _ | exact i_ngt rfl | exact i_ge ‹_› rfl | exact i_gt ‹_› rfl | exact i_gtn ‹_› rfl | exact i_gt64 ‹_› | exact i_lt ‹_› rfl | exact i_lt64 ‹_› rfl | exact i_lelt ‹_› rfl | exact i_le ‹_› rfl | exact i_ne ‹_› rfl | exact i_nlt ‹_› rfl | exact i_ltn ‹_› ‹_› rfl | exact i_ltn2 ‹_› ‹_› rfl | exact i_neg ‹_› | exact i_eqn ‹_› | exact i_succ ‹_› | exact Int.add_one_le_of_lt ‹_› | exact i_sub_less ‹_› ‹_› | exact i_sub_less2 ‹_› ‹_› ‹_› | exact n_sum ‹_› ‹_› ‹_› ‹_› rfl))
    k_with "k_mem" => (first | exact List.mem_cons_self | with_reducible assumption | (refine List.mem_cons_of_mem _ ?_; k_mem) | (refine List.mem_append_right _ ?_; k_mem))
    k_with "k_all" => (exact AllNe.all (by with_reducible assumption))
    k_with "exec If" => ((k_here; refine wpAny_If ?_))
    k_with "compareOp NotEq ref ref" => ((k_here; k_dflt (k_extra "ne")))
    k_with "call ref" => ((k_here; (with_reducible show wpAny _ _ (call (Value.ref 437) _) _ _ _); k_dflt (refine wpAny_call ?_; refine HoldC.out ?_)))
    k_with "call type:range" => ((k_here; (rename Fr _ _ _ _ => F_q); (rename News _ _ _ _ => N_q); (with_unfolding_all refine range1_rows F_q N_q ?_); intro _ _ _ _ _ rg_q _ _ _))
    k_with "CompSrc" => ((k_here; k_dflt (k_extra "src")))
    k_with "exec Assign cons ListComp" => ((k_here; k_dflt (refine LCg.Assign_ListComp_U (F₀ := by k_asm) (by rfl) (by with_unfolding_all rfl) (by with_unfolding_all rfl) (by decide) (by rfl) (by decide) (by rfl) (by rfl) (by rfl) ?_)))
    k_with "SrcLP" => ((k_here; k_dflt (refine LCp.SrcLP.ledger (by rfl) (by k_asm) (by k_asm) (by k_mem) (by k_extra "size") ?_; intro g_q; k_extra "comp")))
    k_with "eval ListComp Name" => ((k_here; k_dflt (refine LCp.ListComp_P (F₀ := by k_asm) (by with_unfolding_all rfl) (by decide) (by rfl) (by decide) (by rfl) (by rfl) (by decide) ?_)))
    k_with "newList" => ((k_here; (with_reducible show wpAny _ _ (newList _) _ _ _); k_dflt (refine' newList_K ?k1_w10 ?k2_w10 ?_ ?z_w10; (case k1_w10 => k_asm); (case k2_w10 => k_asm); (case z_w10 => exact Nat.le_of_ble_eq_true rfl); k_whole; intro l_q h_q F_q N_q l1; k_lt l1; k_sweep)))
    k_with "subscriptTail Name Constant ref int" => ((k_here; k_dflt (first | ((with_reducible show wpAny _ _ (subscriptTail _ _ (Value.ref _) (Value.int 0 _)) _ _ _); refine pair_0 (by k_asm) (by k_mem) ?_) | ((with_reducible show wpAny _ _ (subscriptTail _ _ (Value.ref _) (Value.int 1 _)) _ _ _); refine pair_1 (by k_asm) (by k_mem) ?_))))
    k_with "compareOp Eq ref ref" => ((k_here; k_dflt (k_extra "eq")))
    k_with "compareOp NotEq bool bool" => ((k_here; k_dflt (refine ne_bool_self ?_)))
    k_with "eval ListComp Call" => ((k_here; k_dflt (refine LCg.ListComp_U (F₀ := by k_asm) (by with_unfolding_all rfl) (by decide) (by rfl) (by decide) (by rfl) ?_)))
    k_with "call builtin:isinstance" => ((k_here; (with_reducible show wpAny _ _ (call _ [_, Value.type "tuple"]) _ _ _); k_dflt (refine' isi_tup ?o_w15 ?N_w15 ?X_w15 ?_; (case N_w15 => k_asm); (case o_w15 => k_extra "oth"); (case X_w15 => k_in); intro _)))
    k_with "ct" => ((with_reducible show wpAny _ _ (call (Value.ref 449) [Value.ref _, Value.ref _]) _ _ _); k_dflt (first | (refine wpAny_call ?_; refine' is_same_code (by k_asm) (by k_asm) (by k_asm) (by k_asm) rfl rfl (by walk_at "u dp") (by walk_at "u un") (by k_asm) (by k_mem) (by k_mem) (by first | with_reducible assumption | exact rfl) (by first | with_reducible assumption | omega | exact rfl) (by first | omega | exact Nat.le_of_ble_eq_true rfl) ?h6 ?_; (case h6 => k_extra "same"); k_whole; intro hp_q tkq_q F_q N_q;  walk_at "u end")))
    k_with "ct" => ((with_reducible show wpAny _ _ (call (Value.ref 430) [Value.str _ _]) _ _ _); k_dflt (first | (refine wpAny_call ?_; refine' numbered_U (by k_asm) (by k_asm) (by k_asm) (by k_asm) rfl rfl (by walk_at "u dp") (by walk_at "u un")  ?_; k_whole; intro vp_q Tp_q hp_q tkq_q kpp_q hh_q fr_q tu_q;  (have ap_q := fresh_apart fr_q (by k_asm : News _ _ _ _)); (have F_q := after_noneF (by k_asm) kpp_q); (have N_q := after_noneN (by k_asm) kpp_q); (replace N_q := new_entries (by k_asm) N_q fr_q hh_q); walk_at "u end")))
    k_with "ct" => ((with_reducible show wpAny _ _ (call (Value.ref 135) [Value.str _ _]) _ _ _); k_dflt (first | (refine wpAny_call ?_; refine' is_equality_code (by k_asm) (by k_asm) (by k_asm) (by k_asm) rfl rfl (by walk_at "u dp") (by walk_at "u un")  ?_; k_whole; intro hp_q tkq_q kpp_q; (have F_q := after_noneF (by k_asm) kpp_q); (have N_q := after_noneN (by k_asm) kpp_q); walk_at "u end")))
    k_with "ct" => ((with_reducible show wpAny _ _ (call (Value.ref 409) [Value.ref _, Value.int _ _]) _ _ _); k_dflt (first | (refine wpAny_call ?_; refine' pick_code (by k_asm) (by k_asm) (by k_asm) (by k_asm) rfl rfl (by walk_at "u dp") (by walk_at "u un") (by exact List.forall_mem_cons.mpr ⟨(by k_asm : News _ _ _ _) _ (by k_mem), List.forall_mem_nil _⟩) (by walk_at "u om") (by walk_at "u om") (by walk_at "u om") (by walk_at "u om") (by walk_at "u om") ?_; k_whole; intro kp_q xp_q yp_q tkp_q t1p_q t2p_q hp_q tkq_q hkp0_q hkp1_q hxp_q hyp0_q hyp1_q kpp_q hbp_q; (have F_q := after_oneF (by k_asm) (by k_asm) (by k_mem) kpp_q); (have N_q := after_oneN (by k_asm) (by k_asm) (U := by k_upd) kpp_q hbp_q); walk_at "u end")))
    k_with "ct" => ((with_reducible show wpAny _ _ (call (Value.ref 416) [Value.ref _, Value.ref _]) _ _ _); k_dflt (first | (refine wpAny_call ?_; refine' one_code (by k_asm) (by k_asm) (by k_asm) (by k_asm) rfl rfl (by walk_at "u dp") (by walk_at "u un") (by exact List.forall_mem_cons.mpr ⟨(by k_asm : News _ _ _ _) _ (by k_mem), List.forall_mem_cons.mpr ⟨(by k_asm : News _ _ _ _) _ (by k_mem), List.forall_mem_nil _⟩⟩) (by (first | k_ne | omega)) (by walk_at "u om") (by walk_at "u om") (by walk_at "u om") (by (first | omega | decide | (simp only [List.length_cons, List.length_nil]; omega))) (by (first | omega | decide | (simp only [List.length_cons, List.length_nil]; omega))) ?_; k_whole; intro vp_q xp_q yp_q t1p_q t2p_q hp_q tkq_q hvp_q hxp_q hyp0_q hyp1_q kpp_q hbp_q; (have F_q := after_oneF (by k_asm) (by k_asm) (by k_mem) kpp_q); (have N_q := after_oneN (by k_asm) (by k_asm) (U := by k_upd) kpp_q hbp_q); walk_at "u end")))
    k_with "ct" => ((with_reducible show wpAny _ _ (call (Value.ref 444) [Value.ref _]) _ _ _); k_dflt (first | (refine wpAny_call ?_; refine' plain_code (by k_asm) (by k_asm) (by k_asm) (by k_asm) rfl rfl (by walk_at "u dp") (by walk_at "u un") (by exact List.forall_mem_cons.mpr ⟨(by k_asm : News _ _ _ _) _ (by k_mem), List.forall_mem_nil _⟩) (by walk_at "u om") (by walk_at "u om") (by walk_at "u om") ?_; k_whole; intro ap_q aq_q vp_q pp_q qp_q t3p_q t4p_q xp_q yp_q t1p_q t2p_q hp_q tkq_q he1_q he2_q hbp_q kpp_q hn1_q hn2_q hpv_q hxp_q hyp0_q hyp1_q; (have F_q := after_oneF (by k_asm) (by k_asm) (by k_mem) kpp_q); (have N_q := after_oneN (by k_asm) (by k_asm) (U := by k_upd) kpp_q hbp_q); (have ne1_q := allNe_of hn1_q (by k_asm : News _ _ _ _)); (have ne2_q := allNe_of hn2_q (by k_asm : News _ _ _ _)); (replace N_q := new_entry (by k_asm) (new_entry (by k_asm) N_q hn2_q he2_q) hn1_q he1_q); (simp only [AllNe, and_true] at ne1_q ne2_q); (repeat (have _ := And.left ne1_q; replace ne1_q := And.right ne1_q)); (repeat (have _ := And.left ne2_q; replace ne2_q := And.right ne2_q)); walk_at "u end")))
    k_with "ct" => ((with_reducible show wpAny _ _ (call (Value.ref 145) [Value.ref _, Value.ref _]) _ _ _); k_dflt (first | (refine wpAny_call ?_; refine' texts_of_code (by k_asm) (by k_asm) (by k_asm) (by k_asm) rfl rfl (by walk_at "u dp") (by walk_at "u un") (by with_reducible assumption) (by k_asm) ?h1 ?h2 ?h3 ?h4 ?h5 ?h6 ?_; (case h1 => exact (fun p hp => by (repeat (first | exact hp | exact (by k_extra "sub") | refine List.Mem.tail _ ?_)))); (case h2 => k_mem); (case h3 => first | with_reducible assumption | exact rfl); (case h4 => first | with_reducible assumption | omega | (simp only [List.length_append, List.length_set, List.length_cons, List.length_nil]; omega) | exact (by decide)); (case h5 => k_extra "nvs"); (case h6 => first | with_reducible assumption | omega | (simp only [List.length_append, List.length_set, List.length_cons, List.length_nil]; omega) | exact (by decide)); k_whole; intro lp_q ysp_q hp_q tkq_q hly_q hty_q F_q N_q;  walk_at "u end")))
    k_with "ct" => ((with_reducible show wpAny _ _ (call (Value.ref 152) [Value.str _ _, _, _, Value.ref _]) _ _ _); k_dflt (first | (refine wpAny_call ?_; refine' listed_val (by k_asm) (by k_asm) (by k_asm) (by k_asm) rfl rfl (by walk_at "u dp") (by walk_at "u un") (by k_asm) ?h1 ?_; (case h1 => k_extra "numv"); k_whole; intro lp_q yp_q ep_q Tp_q hp_q tkq_q hyp_q F_q N_q;  walk_at "u end")))
    k_with "ct" => ((with_reducible show wpAny _ _ (call (Value.ref 152) [Value.str _ _, Value.ref _, _, Value.ref _]) _ _ _); k_dflt (first | (refine wpAny_call ?_; refine' listed_list (by k_asm) (by k_asm) (by k_asm) (by k_asm) rfl rfl (by walk_at "u dp") (by walk_at "u un") (by with_reducible assumption) (by k_asm) ?h1 ?h2 ?h3 ?h4 ?h5 ?h6 ?h7 ?_; (case h1 => exact (fun p hp => by (repeat (first | exact hp | exact (by k_extra "sub") | refine List.Mem.tail _ ?_)))); (case h2 => k_mem); (case h3 => first | with_reducible assumption | exact rfl); (case h4 => first | with_reducible assumption | omega | (simp only [List.length_append, List.length_set, List.length_cons, List.length_nil]; omega) | exact (by decide)); (case h5 => k_extra "nvs"); (case h6 => first | with_reducible assumption | omega | (simp only [List.length_append, List.length_set, List.length_cons, List.length_nil]; omega) | exact (by decide)); (case h7 => k_extra "oth"); k_whole; intro lp_q ysp_q ep_q Tp_q hp_q tkq_q hly_q hty_q F_q N_q;  walk_at "u end")))
    k_with "ct" => ((with_reducible show wpAny _ _ (call (Value.ref 140) [Value.str _ _, Value.ref _, _]) _ _ _); k_dflt (first | (refine wpAny_call ?_; refine' as_compared_code (by k_asm) (by k_asm) (by k_asm) (by k_asm) rfl rfl (by walk_at "u dp") (by walk_at "u un") (by k_asm) (by k_mem) (by first | with_reducible assumption | exact rfl) (by first | with_reducible assumption | omega | (simp only [List.length_append, List.length_set, List.length_cons, List.length_nil]; omega) | exact (by decide)) ?h4 ?h5 ?_; (case h4 => k_extra "vs"); (case h5 => k_extra "oth"); k_whole; intro lp_q ysp_q ep_q Tp_q hp_q tkq_q hly_q hty_q F_q N_q;  walk_at "u end")))
    k_with "ct" => ((with_reducible show wpAny _ _ (call (Value.ref 402) [Value.ref _]) _ _ _); k_dflt (first | (refine wpAny_call ?_; refine' bag_U (by k_asm) (by k_asm) (by k_asm) (by k_asm) rfl rfl (by walk_at "u dp") (by walk_at "u un") (by assumption) (by assumption) ?_; k_whole; intro bp_q xp_q yp_q t1p_q t2p_q hp_q tkq_q hep_q kpp_q hn1_q hxp_q hyp0_q hyp1_q; (have F_q := after_noneF (by k_asm) kpp_q); (have N_q := after_noneN (by k_asm) kpp_q); (have ne1_q := allNe_of hn1_q (by k_asm : News _ _ _ _)); (replace N_q := new_entry (by k_asm) N_q hn1_q hep_q); (simp only [AllNe, and_true] at ne1_q); (repeat (have _ := And.left ne1_q; replace ne1_q := And.right ne1_q)); walk_at "u end")))
    k_with "src" =>
      rename (_ < (4 : Int)) => hk4
      rename IsRange _ _ _ _ _ _ _ _ => rg4
      obtain ⟨n4, e41, e42, e43, e44, e45⟩ := range_bd4 (by assumption) hk4
      refine LCg.CompSrc.range rfl (by k_asm) (by k_asm) rg4 e44 e45 (Nat.le_trans e42 (Nat.le_of_ble_eq_true rfl)) ?_
      intro g4
      refine comp_ind (fun i ys nw => ∃ x y t1 t2, nw = (s1.heap.objs.size + 1 + 1, o2n) :: (s1.heap.objs.size + 1, o1) :: (b, W.listOf #[Value.int x t1, .int y t2] n3) :: (fd, W.listOf fs.toArray e3) :: OL ∧ 0 ≤ x ∧ 0 ≤ y ∧ y < 2147483647 ∧ ys.length = i ∧ ∀ v ∈ ys, v ∈ fs) ?_ ?_ ⟨_, _, _, _, rfl, by assumption, by assumption, by assumption, rfl, fun v hv => nomatch hv⟩
    k_steps
    · refine HoldC.mk ?_
      intro i ys nw v I1 oI C1 oC D1 m₂ h4 tk4 E' hi hv hP hC hxx F4 N4 off4 ne4
      obtain ⟨x, y, t1, t2, rfl, hx4, hy04, hy4, hl, hr⟩ := hv
      have off5 := off4
      obtain ⟨_, _, ⟨z1, z2, z3⟩, _⟩ := off5
      have z4 : NeA b I1 := ⟨z1⟩
      have z5 : NeA b C1 := ⟨z2⟩
      have z6 : NeA b D1 := ⟨z3⟩
      k_steps
      rename Fr _ _ _ _ => zF
      rename News _ _ _ _ => zN
      rename (_ ∈ fs) => zm
      exact LCg.CompEnd.intro zF zN _ (fun p hp => hp) off4 trivial ⟨_, _, _, _, rfl, by assumption, by assumption, by assumption, by simp [hl], fun v hv => by
        rcases List.mem_append.mp hv with q | q
        · exact hr v q
        · rw [List.mem_singleton.mp q]; exact zm⟩
    · refine HoldC.mk ?_
      intro ys nw hv
      obtain ⟨x, y, t1, t2, rfl, hx4, hy04, hy4, hl, hr⟩ := hv
      k_steps
      rename Fr _ _ _ _ => zF
      rename News _ _ _ _ => zN
      refine ⟨rfl, x, y, t1, t2, _, ys, hx4, hy04, hy4, ⟨by first | k_ne | exact neN (by omega)⟩, by omega, by omega, fun v hv => hfo v (hr v hv), _, _, zF, news_of zN ?_⟩
      intro p hp
      rcases List.mem_cons.mp hp with rfl | hp
      · k_mem
      rcases List.mem_cons.mp hp with rfl | hp
      · k_mem
      rcases List.mem_cons.mp hp with rfl | hp
      · k_mem
      rcases List.mem_cons.mp hp with rfl | hp
      · k_mem
      · (repeat (first | exact hp | refine List.Mem.tail _ ?_))
  case k4 =>
  rintro s' ⟨x4, y4, t14, t24, D, ys, hx4, hy04, hy4, nbD, hyl1, hyl2, hys, h4, tk4, F4, N4⟩
  clear F3 N3 hfo
  obtain ⟨ns, sts, hln, hls, hsts, hst0⟩ := pick_sts ys hys
  refine seqG F4 N4 (fun h₀ L m nw s0 s' => M5 b D OL rows ys ns sts o2n o1 x4 t14 y4 t24 n3 h₀ L s0 m s') ?w5 ?k5
  case w5 =>
    k_with_none
    k_with "u lt" => (with_reducible (first | assumption | exact cl0 ‹_› | exact cl1 ‹_› | exact cl2 ‹_› | exact cl3 ‹_› | exact cl4 ‹_› | exact cl5 ‹_› | exact cl6 ‹_› | exact cl7 ‹_› | exact cl8 ‹_› | exact cl9 ‹_› | exact cl10 ‹_› | exact cl11 ‹_› | exact cr1 ‹_› | exact cr2 ‹_› | exact cr3 ‹_› | exact cr4 ‹_› | exact cr5 ‹_› | exact cr6 ‹_› | exact cr7 ‹_› | exact cr8 ‹_› | exact cr9 ‹_› | exact cr10 ‹_› | exact cr11 ‹_›))
    k_with "u room" => (first | exact room3 (by with_reducible assumption) rfl | exact room2 (by with_reducible assumption) rfl | exact room4 (by with_reducible assumption) rfl | exact room1 (by with_reducible assumption) | exact roomc (by with_reducible assumption) rfl | exact roome (by with_reducible assumption) rfl | exact roomd (by with_reducible assumption) rfl | exact roomn rfl | exact Nat.le_of_ble_eq_true rfl)
    k_with "call ref" => ((k_here; k_extra "ct"))
    k_with "u dp" => (((try simp only [depth_deeper, depth_in1, depth_caller]); (try dsimp only); first | walk_at "u room" | omega))
    k_with "u un" => (((try simp only [units_deeper, units_in1, units_caller]); (try dsimp only); first | walk_at "u room" | omega))
    k_with "u end" => (((try k_sweep); (try dsimp only); (try ((fail_if_success (with_reducible show wpAny _ _ _ _ _ _)); refine peel ?_)); (try k_fold)))
    k_with "u om" => (first | walk_at "u lt" | walk_at "u room" | exact Nat.le_of_ble_eq_true rfl | omega)
    k_with "k_ne" => (first | exact NeA.ne (by with_reducible assumption) | exact Ne.symm (NeA.ne (by with_reducible assumption)) | exact Nat.ne_of_gt (by walk_at "u lt") | exact Nat.ne_of_lt (by walk_at "u lt"))
    k_with "k_room" => (((try simp only [depth_under_make, depth_under_kw, depth_in1, depth_deeper, depth_caller, recursionLimit]); (try dsimp only); first | walk_at "u room" | omega))
    k_with "k_units" => (first | ((try simp only [units_in1, units_deeper, Around.mark_units, units_caller]); (try dsimp only); walk_at "u room") | (have hcL9 := cLine_is; (try simp only [units_in1, units_deeper, Around.mark_units, units_caller]); (try dsimp only); omega))
    k_with "om" => (with_reducible ((fail_if_success exact True.intro); (fail_if_success exact not_false); first | decide | exact n_lt0 rfl | exact n_le0 rfl | exact n_ltlt ‹_› rfl | exact n_lelt ‹_› rfl | exact n_lele ‹_› rfl | exact n_ltle ‹_› rfl | exact n_eqlt ‹_› rfl | exact n_lelt2 ‹_› ‹_› rfl | exact n_lelt3 ‹_› ‹_› rfl | exact Int.natCast_nonneg _ | exact i_ngt rfl | exact i_ge ‹_› rfl | exact i_gt ‹_› rfl | exact i_gtn ‹_› rfl | exact i_gt64 ‹_› | exact i_lt ‹_› rfl | exact i_lt64 ‹_› rfl | exact i_lelt ‹_› rfl | exact i_le ‹_› rfl | exact i_ne ‹_› rfl | exact i_nlt ‹_› rfl | exact i_ltn ‹_› ‹_› rfl | exact i_ltn2 ‹_› ‹_› rfl | exact i_neg ‹_› | exact i_eqn ‹_› | exact i_succ ‹_› | exact Int.add_one_le_of_lt ‹_› | exact i_sub_less ‹_› ‹_› | exact i_sub_less2 ‹_› ‹_› ‹_› | exact n_sum ‹_› ‹_› ‹_› ‹_› rfl))
    k_with "k_mem" => (first | exact List.mem_cons_self | with_reducible assumption | (refine List.mem_cons_of_mem _ ?_; k_mem) | (refine List.mem_append_right _ ?_; k_mem))
    k_with "k_all" => (exact AllNe.all (by with_reducible assumption))
    k_with "exec If" => ((k_here; refine wpAny_If ?_))
    k_with "compareOp NotEq ref ref" => ((k_here; k_dflt (k_extra "ne")))
    k_with "call ref" => ((k_here; (with_reducible show wpAny _ _ (call (Value.ref 437) _) _ _ _); k_dflt (refine wpAny_call ?_; refine HoldC.out ?_)))
    k_with "call type:range" => ((k_here; (rename Fr _ _ _ _ => F_q); (rename News _ _ _ _ => N_q); (with_unfolding_all refine range1_rows F_q N_q ?_); intro _ _ _ _ _ rg_q _ _ _))
    k_with "CompSrc" => ((k_here; k_dflt (k_extra "src")))
    k_with "exec Assign cons ListComp" => ((k_here; k_dflt (refine LCg.Assign_ListComp_U (F₀ := by k_asm) (by rfl) (by with_unfolding_all rfl) (by with_unfolding_all rfl) (by decide) (by rfl) (by decide) (by rfl) (by rfl) (by rfl) ?_)))
    k_with "SrcLP" => ((k_here; k_dflt (refine LCp.SrcLP.ledger (by rfl) (by k_asm) (by k_asm) (by k_mem) (by k_extra "size") ?_; intro g_q; k_extra "comp")))
    k_with "eval ListComp Name" => ((k_here; k_dflt (refine LCp.ListComp_P (F₀ := by k_asm) (by with_unfolding_all rfl) (by decide) (by rfl) (by decide) (by rfl) (by rfl) (by decide) ?_)))
    k_with "newList" => ((k_here; (with_reducible show wpAny _ _ (newList _) _ _ _); k_dflt (refine' newList_K ?k1_w10 ?k2_w10 ?_ ?z_w10; (case k1_w10 => k_asm); (case k2_w10 => k_asm); (case z_w10 => exact Nat.le_of_ble_eq_true rfl); k_whole; intro l_q h_q F_q N_q l1; k_lt l1; k_sweep)))
    k_with "subscriptTail Name Constant ref int" => ((k_here; k_dflt (first | ((with_reducible show wpAny _ _ (subscriptTail _ _ (Value.ref _) (Value.int 0 _)) _ _ _); refine pair_0 (by k_asm) (by k_mem) ?_) | ((with_reducible show wpAny _ _ (subscriptTail _ _ (Value.ref _) (Value.int 1 _)) _ _ _); refine pair_1 (by k_asm) (by k_mem) ?_))))
    k_with "compareOp Eq ref ref" => ((k_here; k_dflt (k_extra "eq")))
    k_with "compareOp NotEq bool bool" => ((k_here; k_dflt (refine ne_bool_self ?_)))
    k_with "eval ListComp Call" => ((k_here; k_dflt (refine LCg.ListComp_U (F₀ := by k_asm) (by with_unfolding_all rfl) (by decide) (by rfl) (by decide) (by rfl) ?_)))
    k_with "call builtin:isinstance" => ((k_here; (with_reducible show wpAny _ _ (call _ [_, Value.type "tuple"]) _ _ _); k_dflt (refine' isi_tup ?o_w15 ?N_w15 ?X_w15 ?_; (case N_w15 => k_asm); (case o_w15 => k_extra "oth"); (case X_w15 => k_in); intro _)))
    k_with "ct" => ((with_reducible show wpAny _ _ (call (Value.ref 449) [Value.ref _, Value.ref _]) _ _ _); k_dflt (first | (refine wpAny_call ?_; refine' is_same_code (by k_asm) (by k_asm) (by k_asm) (by k_asm) rfl rfl (by walk_at "u dp") (by walk_at "u un") (by k_asm) (by k_mem) (by k_mem) (by first | with_reducible assumption | exact rfl) (by first | with_reducible assumption | omega | exact rfl) (by first | omega | exact Nat.le_of_ble_eq_true rfl) ?h6 ?_; (case h6 => k_extra "same"); k_whole; intro hp_q tkq_q F_q N_q;  walk_at "u end")))
    k_with "ct" => ((with_reducible show wpAny _ _ (call (Value.ref 430) [Value.str _ _]) _ _ _); k_dflt (first | (refine wpAny_call ?_; refine' numbered_U (by k_asm) (by k_asm) (by k_asm) (by k_asm) rfl rfl (by walk_at "u dp") (by walk_at "u un")  ?_; k_whole; intro vp_q Tp_q hp_q tkq_q kpp_q hh_q fr_q tu_q;  (have ap_q := fresh_apart fr_q (by k_asm : News _ _ _ _)); (have F_q := after_noneF (by k_asm) kpp_q); (have N_q := after_noneN (by k_asm) kpp_q); (replace N_q := new_entries (by k_asm) N_q fr_q hh_q); walk_at "u end")))
    k_with "ct" => ((with_reducible show wpAny _ _ (call (Value.ref 135) [Value.str _ _]) _ _ _); k_dflt (first | (refine wpAny_call ?_; refine' is_equality_code (by k_asm) (by k_asm) (by k_asm) (by k_asm) rfl rfl (by walk_at "u dp") (by walk_at "u un")  ?_; k_whole; intro hp_q tkq_q kpp_q; (have F_q := after_noneF (by k_asm) kpp_q); (have N_q := after_noneN (by k_asm) kpp_q); walk_at "u end")))
    k_with "ct" => ((with_reducible show wpAny _ _ (call (Value.ref 409) [Value.ref _, Value.int _ _]) _ _ _); k_dflt (first | (refine wpAny_call ?_; refine' pick_code (by k_asm) (by k_asm) (by k_asm) (by k_asm) rfl rfl (by walk_at "u dp") (by walk_at "u un") (by exact List.forall_mem_cons.mpr ⟨(by k_asm : News _ _ _ _) _ (by k_mem), List.forall_mem_nil _⟩) (by walk_at "u om") (by walk_at "u om") (by walk_at "u om") (by walk_at "u om") (by walk_at "u om") ?_; k_whole; intro kp_q xp_q yp_q tkp_q t1p_q t2p_q hp_q tkq_q hkp0_q hkp1_q hxp_q hyp0_q hyp1_q kpp_q hbp_q; (have F_q := after_oneF (by k_asm) (by k_asm) (by k_mem) kpp_q); (have N_q := after_oneN (by k_asm) (by k_asm) (U := by k_upd) kpp_q hbp_q); walk_at "u end")))
    k_with "ct" => ((with_reducible show wpAny _ _ (call (Value.ref 416) [Value.ref _, Value.ref _]) _ _ _); k_dflt (first | (refine wpAny_call ?_; refine' one_code (by k_asm) (by k_asm) (by k_asm) (by k_asm) rfl rfl (by walk_at "u dp") (by walk_at "u un") (by exact List.forall_mem_cons.mpr ⟨(by k_asm : News _ _ _ _) _ (by k_mem), List.forall_mem_cons.mpr ⟨(by k_asm : News _ _ _ _) _ (by k_mem), List.forall_mem_nil _⟩⟩) (by (first | k_ne | omega)) (by walk_at "u om") (by walk_at "u om") (by walk_at "u om") (by (first | omega | decide | (simp only [List.length_cons, List.length_nil]; omega))) (by (first | omega | decide | (simp only [List.length_cons, List.length_nil]; omega))) ?_; k_whole; intro vp_q xp_q yp_q t1p_q t2p_q hp_q tkq_q hvp_q hxp_q hyp0_q hyp1_q kpp_q hbp_q; (have F_q := after_oneF (by k_asm) (by k_asm) (by k_mem) kpp_q); (have N_q := after_oneN (by k_asm) (by k_asm) (U := by k_upd) kpp_q hbp_q); walk_at "u end")))
    k_with "ct" => ((with_reducible show wpAny _ _ (call (Value.ref 444) [Value.ref _]) _ _ _); k_dflt (first | (refine wpAny_call ?_; refine' plain_code (by k_asm) (by k_asm) (by k_asm) (by k_asm) rfl rfl (by walk_at "u dp") (by walk_at "u un") (by exact List.forall_mem_cons.mpr ⟨(by k_asm : News _ _ _ _) _ (by k_mem), List.forall_mem_nil _⟩) (by walk_at "u om") (by walk_at "u om") (by walk_at "u om") ?_; k_whole; intro ap_q aq_q vp_q pp_q qp_q t3p_q t4p_q xp_q yp_q t1p_q t2p_q hp_q tkq_q he1_q he2_q hbp_q kpp_q hn1_q hn2_q hpv_q hxp_q hyp0_q hyp1_q; (have F_q := after_oneF (by k_asm) (by k_asm) (by k_mem) kpp_q); (have N_q := after_oneN (by k_asm) (by k_asm) (U := by k_upd) kpp_q hbp_q); (have ne1_q := allNe_of hn1_q (by k_asm : News _ _ _ _)); (have ne2_q := allNe_of hn2_q (by k_asm : News _ _ _ _)); (replace N_q := new_entry (by k_asm) (new_entry (by k_asm) N_q hn2_q he2_q) hn1_q he1_q); (simp only [AllNe, and_true] at ne1_q ne2_q); (repeat (have _ := And.left ne1_q; replace ne1_q := And.right ne1_q)); (repeat (have _ := And.left ne2_q; replace ne2_q := And.right ne2_q)); walk_at "u end")))
    k_with "ct" => ((with_reducible show wpAny _ _ (call (Value.ref 145) [Value.ref _, Value.ref _]) _ _ _); k_dflt (first | (refine wpAny_call ?_; refine' texts_of_code (by k_asm) (by k_asm) (by k_asm) (by k_asm) rfl rfl (by walk_at "u dp") (by walk_at "u un") (by with_reducible assumption) (by k_asm) ?h1 ?h2 ?h3 ?h4 ?h5 ?h6 ?_; (case h1 => exact (fun p hp => by (repeat (first | exact hp | exact (by k_extra "sub") | refine List.Mem.tail _ ?_)))); (case h2 => k_mem); (case h3 => first | with_reducible assumption | exact rfl); (case h4 => first | with_reducible assumption | omega | (simp only [List.length_append, List.length_set, List.length_cons, List.length_nil]; omega) | exact (by decide)); (case h5 => k_extra "nvs"); (case h6 => first | with_reducible assumption | omega | (simp only [List.length_append, List.length_set, List.length_cons, List.length_nil]; omega) | exact (by decide)); k_whole; intro lp_q ysp_q hp_q tkq_q hly_q hty_q F_q N_q;  walk_at "u end")))
    k_with "ct" => ((with_reducible show wpAny _ _ (call (Value.ref 152) [Value.str _ _, _, _, Value.ref _]) _ _ _); k_dflt (first | (refine wpAny_call ?_; refine' listed_val (by k_asm) (by k_asm) (by k_asm) (by k_asm) rfl rfl (by walk_at "u dp") (by walk_at "u un") (by k_asm) ?h1 ?_; (case h1 => k_extra "numv"); k_whole; intro lp_q yp_q ep_q Tp_q hp_q tkq_q hyp_q F_q N_q;  walk_at "u end")))
    k_with "ct" => ((with_reducible show wpAny _ _ (call (Value.ref 152) [Value.str _ _, Value.ref _, _, Value.ref _]) _ _ _); k_dflt (first | (refine wpAny_call ?_; refine' listed_list (by k_asm) (by k_asm) (by k_asm) (by k_asm) rfl rfl (by walk_at "u dp") (by walk_at "u un") (by with_reducible assumption) (by k_asm) ?h1 ?h2 ?h3 ?h4 ?h5 ?h6 ?h7 ?_; (case h1 => exact (fun p hp => by (repeat (first | exact hp | exact (by k_extra "sub") | refine List.Mem.tail _ ?_)))); (case h2 => k_mem); (case h3 => first | with_reducible assumption | exact rfl); (case h4 => first | with_reducible assumption | omega | (simp only [List.length_append, List.length_set, List.length_cons, List.length_nil]; omega) | exact (by decide)); (case h5 => k_extra "nvs"); (case h6 => first | with_reducible assumption | omega | (simp only [List.length_append, List.length_set, List.length_cons, List.length_nil]; omega) | exact (by decide)); (case h7 => k_extra "oth"); k_whole; intro lp_q ysp_q ep_q Tp_q hp_q tkq_q hly_q hty_q F_q N_q;  walk_at "u end")))
    k_with "ct" => ((with_reducible show wpAny _ _ (call (Value.ref 140) [Value.str _ _, Value.ref _, _]) _ _ _); k_dflt (first | (refine wpAny_call ?_; refine' as_compared_code (by k_asm) (by k_asm) (by k_asm) (by k_asm) rfl rfl (by walk_at "u dp") (by walk_at "u un") (by k_asm) (by k_mem) (by first | with_reducible assumption | exact rfl) (by first | with_reducible assumption | omega | (simp only [List.length_append, List.length_set, List.length_cons, List.length_nil]; omega) | exact (by decide)) ?h4 ?h5 ?_; (case h4 => k_extra "vs"); (case h5 => k_extra "oth"); k_whole; intro lp_q ysp_q ep_q Tp_q hp_q tkq_q hly_q hty_q F_q N_q;  walk_at "u end")))
    k_with "ct" => ((with_reducible show wpAny _ _ (call (Value.ref 402) [Value.ref _]) _ _ _); k_dflt (first | (refine wpAny_call ?_; refine' bag_U (by k_asm) (by k_asm) (by k_asm) (by k_asm) rfl rfl (by walk_at "u dp") (by walk_at "u un") (by assumption) (by assumption) ?_; k_whole; intro bp_q xp_q yp_q t1p_q t2p_q hp_q tkq_q hep_q kpp_q hn1_q hxp_q hyp0_q hyp1_q; (have F_q := after_noneF (by k_asm) kpp_q); (have N_q := after_noneN (by k_asm) kpp_q); (have ne1_q := allNe_of hn1_q (by k_asm : News _ _ _ _)); (replace N_q := new_entry (by k_asm) N_q hn1_q hep_q); (simp only [AllNe, and_true] at ne1_q); (repeat (have _ := And.left ne1_q; replace ne1_q := And.right ne1_q)); walk_at "u end")))
    k_with "size" => exact size_ok (by omega)
    k_with "comp" => refine HoldC.out ?_
    k_steps
    refine HoldC.mk ?_
    refine comp_mapP (fun j y => NodeAt rows ns sts j y) (.inr ⟨_, by k_mem, rfl, _, rfl⟩) ?_ ?_
    · refine HoldC.mk ?_
      intro i v hi hP
      obtain ⟨a, n, st, t1, t2, rfl, hm, hsv, ht, hst, hns⟩ := hst0 i v (by simpa using hP)
      have hm2 := hNI3.tl hm
      refine ⟨a, _, _, _, _, rfl, by k_mem, rfl, rfl, ?_⟩
      intro yy I1 oI C1 oC D1 m₂ h5 tk5 E' hC hxx hxx2 F5 N5
      k_steps
      rename Fr _ _ _ _ => zF
      rename News _ _ _ _ => zN
      exact CEnd.mk0 zF zN ⟨rfl, _, _, st, rfl, hst, hns, hsv, ht⟩
    · refine HoldC.mk ?_
      intro vn hvnl hvn
      k_steps
      refine HoldC.mk ?_
      refine comp_mapP (fun j y => TextAt sts j y) (.inr ⟨_, by k_mem, rfl, _, rfl⟩) ?_ ?_
      · refine HoldC.mk ?_
        intro i v hi hP
        obtain ⟨a, n, st, t1, t2, rfl, hm, hsv, ht, hst, hns⟩ := hst0 i v (by simpa using hP)
        have hm2 := hNI3.tl hm
        refine ⟨a, _, _, _, _, rfl, by k_mem, rfl, rfl, ?_⟩
        intro yy I1 oI C1 oC D1 m₂ h5 tk5 E' hC hxx hxx2 F5 N5
        k_steps
        rename Fr _ _ _ _ => zF
        rename News _ _ _ _ => zN
        exact CEnd.mk0 zF zN ⟨rfl, _, _, hst, rfl, ht⟩
      · refine HoldC.mk ?_
        intro vt hvtl hvt
        k_steps
        rename Fr _ _ _ _ => zF
        rename News _ _ _ _ => zN
        refine ⟨rfl, _, _, vn, vt, by rw [hvnl, List.size_toArray], by rw [hvtl, List.size_toArray], hvn, hvt, ⟨by first | k_ne | exact neN (by omega)⟩, ⟨by first | k_ne | exact neN (by omega)⟩, _, _, zF, news_of zN ?_⟩
        intro p hp
        repeat (rcases List.mem_cons.mp hp with rfl | hp; · k_mem)
        repeat (first | exact hp | refine List.Mem.tail _ ?_)
  case k5 =>
  rintro s' ⟨Dn, Dt, vn, vt, hvn, hvt, hrn, hrt, nbn, nbt, h5, tk5, F5, N5⟩
  have hst1 := HoldC.mk hst0
  clear F4 N4 hst0 hys
  have hyK : ys.length < 1000 := Nat.lt_of_le_of_lt hyl2 (by decide)
  have hsK : sts.length < 1000 := by rw [hls]; exact hyK
  have hvK : vt.length < 1000 := by rw [hvt]; exact hyK
  have hnK : vn.length < 1000 := by rw [hvn]; exact hyK
  have hrK : rows.length < 1000 := by omega
  refine seqG F5 N5 (fun h₀ L m nw s0 s' => M6 D Dn Dt OL ys vn vt h₀ L s0 m s') ?w6 ?k6
  case w6 =>
    k_with_none
    k_with "u lt" => (with_reducible (first | assumption | exact cl0 ‹_› | exact cl1 ‹_› | exact cl2 ‹_› | exact cl3 ‹_› | exact cl4 ‹_› | exact cl5 ‹_› | exact cl6 ‹_› | exact cl7 ‹_› | exact cl8 ‹_› | exact cl9 ‹_› | exact cl10 ‹_› | exact cl11 ‹_› | exact cr1 ‹_› | exact cr2 ‹_› | exact cr3 ‹_› | exact cr4 ‹_› | exact cr5 ‹_› | exact cr6 ‹_› | exact cr7 ‹_› | exact cr8 ‹_› | exact cr9 ‹_› | exact cr10 ‹_› | exact cr11 ‹_›))
    k_with "u room" => (first | exact room3 (by with_reducible assumption) rfl | exact room2 (by with_reducible assumption) rfl | exact room4 (by with_reducible assumption) rfl | exact room1 (by with_reducible assumption) | exact roomc (by with_reducible assumption) rfl | exact roome (by with_reducible assumption) rfl | exact roomd (by with_reducible assumption) rfl | exact roomn rfl | exact Nat.le_of_ble_eq_true rfl)
    k_with "call ref" => ((k_here; k_extra "ct"))
    k_with "u dp" => (((try simp only [depth_deeper, depth_in1, depth_caller]); (try dsimp only); first | walk_at "u room" | omega))
    k_with "u un" => (((try simp only [units_deeper, units_in1, units_caller]); (try dsimp only); first | walk_at "u room" | omega))
    k_with "u end" => (((try k_sweep); (try dsimp only); (try ((fail_if_success (with_reducible show wpAny _ _ _ _ _ _)); refine peel ?_)); (try k_fold)))
    k_with "u om" => (first | walk_at "u lt" | walk_at "u room" | exact Nat.le_of_ble_eq_true rfl | omega)
    k_with "k_ne" => (first | exact NeA.ne (by with_reducible assumption) | exact Ne.symm (NeA.ne (by with_reducible assumption)) | exact Nat.ne_of_gt (by walk_at "u lt") | exact Nat.ne_of_lt (by walk_at "u lt"))
    k_with "k_room" => (((try simp only [depth_under_make, depth_under_kw, depth_in1, depth_deeper, depth_caller, recursionLimit]); (try dsimp only); first | walk_at "u room" | omega))
    k_with "k_units" => (first | ((try simp only [units_in1, units_deeper, Around.mark_units, units_caller]); (try dsimp only); walk_at "u room") | (have hcL9 := cLine_is; (try simp only [units_in1, units_deeper, Around.mark_units, units_caller]); (try dsimp only); omega))
    k_with "om" => (with_reducible ((fail_if_success exact True.intro); (fail_if_success exact not_false); first | decide | exact n_lt0 rfl | exact n_le0 rfl | exact n_ltlt ‹_› rfl | exact n_lelt ‹_› rfl | exact n_lele ‹_› rfl | exact n_ltle ‹_› rfl | exact n_eqlt ‹_› rfl | exact n_lelt2 ‹_› ‹_› rfl | exact n_lelt3 ‹_› ‹_› rfl | exact Int.natCast_nonneg _ | exact i_ngt rfl | exact i_ge ‹_› rfl | exact i_gt ‹_› rfl | exact i_gtn ‹_› rfl | exact i_gt64 ‹_› | exact i_lt ‹_› rfl | exact i_lt64 ‹_› rfl | exact i_lelt ‹_› rfl | exact i_le ‹_› rfl | exact i_ne ‹_› rfl | exact i_nlt ‹_› rfl | exact i_ltn ‹_› ‹_› rfl | exact i_ltn2 ‹_› ‹_› rfl | exact i_neg ‹_› | exact i_eqn ‹_› | exact i_succ ‹_› | exact Int.add_one_le_of_lt ‹_› | exact i_sub_less ‹_› ‹_› | exact i_sub_less2 ‹_› ‹_› ‹_› | exact n_sum ‹_› ‹_› ‹_› ‹_› rfl))
    k_with "k_mem" => (first | exact List.mem_cons_self | with_reducible assumption | (refine List.mem_cons_of_mem _ ?_; k_mem) | (refine List.mem_append_right _ ?_; k_mem))
    k_with "k_all" => (exact AllNe.all (by with_reducible assumption))
    k_with "exec If" => ((k_here; refine wpAny_If ?_))
    k_with "compareOp NotEq ref ref" => ((k_here; k_dflt (k_extra "ne")))
    k_with "call ref" => ((k_here; (with_reducible show wpAny _ _ (call (Value.ref 437) _) _ _ _); k_dflt (refine wpAny_call ?_; refine HoldC.out ?_)))
    k_with "call type:range" => ((k_here; (rename Fr _ _ _ _ => F_q); (rename News _ _ _ _ => N_q); (with_unfolding_all refine range1_rows F_q N_q ?_); intro _ _ _ _ _ rg_q _ _ _))
    k_with "CompSrc" => ((k_here; k_dflt (k_extra "src")))
    k_with "exec Assign cons ListComp" => ((k_here; k_dflt (refine LCg.Assign_ListComp_U (F₀ := by k_asm) (by rfl) (by with_unfolding_all rfl) (by with_unfolding_all rfl) (by decide) (by rfl) (by decide) (by rfl) (by rfl) (by rfl) ?_)))
    k_with "SrcLP" => ((k_here; k_dflt (refine LCp.SrcLP.ledger (by rfl) (by k_asm) (by k_asm) (by k_mem) (by k_extra "size") ?_; intro g_q; k_extra "comp")))
    k_with "eval ListComp Name" => ((k_here; k_dflt (refine LCp.ListComp_P (F₀ := by k_asm) (by with_unfolding_all rfl) (by decide) (by rfl) (by decide) (by rfl) (by rfl) (by decide) ?_)))
    k_with "newList" => ((k_here; (with_reducible show wpAny _ _ (newList _) _ _ _); k_dflt (refine' newList_K ?k1_w10 ?k2_w10 ?_ ?z_w10; (case k1_w10 => k_asm); (case k2_w10 => k_asm); (case z_w10 => exact Nat.le_of_ble_eq_true rfl); k_whole; intro l_q h_q F_q N_q l1; k_lt l1; k_sweep)))
    k_with "subscriptTail Name Constant ref int" => ((k_here; k_dflt (first | ((with_reducible show wpAny _ _ (subscriptTail _ _ (Value.ref _) (Value.int 0 _)) _ _ _); refine pair_0 (by k_asm) (by k_mem) ?_) | ((with_reducible show wpAny _ _ (subscriptTail _ _ (Value.ref _) (Value.int 1 _)) _ _ _); refine pair_1 (by k_asm) (by k_mem) ?_))))
    k_with "compareOp Eq ref ref" => ((k_here; k_dflt (k_extra "eq")))
    k_with "compareOp NotEq bool bool" => ((k_here; k_dflt (refine ne_bool_self ?_)))
    k_with "eval ListComp Call" => ((k_here; k_dflt (refine LCg.ListComp_U (F₀ := by k_asm) (by with_unfolding_all rfl) (by decide) (by rfl) (by decide) (by rfl) ?_)))
    k_with "call builtin:isinstance" => ((k_here; (with_reducible show wpAny _ _ (call _ [_, Value.type "tuple"]) _ _ _); k_dflt (refine' isi_tup ?o_w15 ?N_w15 ?X_w15 ?_; (case N_w15 => k_asm); (case o_w15 => k_extra "oth"); (case X_w15 => k_in); intro _)))
    k_with "ct" => ((with_reducible show wpAny _ _ (call (Value.ref 449) [Value.ref _, Value.ref _]) _ _ _); k_dflt (first | (refine wpAny_call ?_; refine' is_same_code (by k_asm) (by k_asm) (by k_asm) (by k_asm) rfl rfl (by walk_at "u dp") (by walk_at "u un") (by k_asm) (by k_mem) (by k_mem) (by first | with_reducible assumption | exact rfl) (by first | with_reducible assumption | omega | exact rfl) (by first | omega | exact Nat.le_of_ble_eq_true rfl) ?h6 ?_; (case h6 => k_extra "same"); k_whole; intro hp_q tkq_q F_q N_q;  walk_at "u end")))
    k_with "ct" => ((with_reducible show wpAny _ _ (call (Value.ref 430) [Value.str _ _]) _ _ _); k_dflt (first | (refine wpAny_call ?_; refine' numbered_U (by k_asm) (by k_asm) (by k_asm) (by k_asm) rfl rfl (by walk_at "u dp") (by walk_at "u un")  ?_; k_whole; intro vp_q Tp_q hp_q tkq_q kpp_q hh_q fr_q tu_q;  (have ap_q := fresh_apart fr_q (by k_asm : News _ _ _ _)); (have F_q := after_noneF (by k_asm) kpp_q); (have N_q := after_noneN (by k_asm) kpp_q); (replace N_q := new_entries (by k_asm) N_q fr_q hh_q); walk_at "u end")))
    k_with "ct" => ((with_reducible show wpAny _ _ (call (Value.ref 135) [Value.str _ _]) _ _ _); k_dflt (first | (refine wpAny_call ?_; refine' is_equality_code (by k_asm) (by k_asm) (by k_asm) (by k_asm) rfl rfl (by walk_at "u dp") (by walk_at "u un")  ?_; k_whole; intro hp_q tkq_q kpp_q; (have F_q := after_noneF (by k_asm) kpp_q); (have N_q := after_noneN (by k_asm) kpp_q); walk_at "u end")))
    k_with "ct" => ((with_reducible show wpAny _ _ (call (Value.ref 409) [Value.ref _, Value.int _ _]) _ _ _); k_dflt (first | (refine wpAny_call ?_; refine' pick_code (by k_asm) (by k_asm) (by k_asm) (by k_asm) rfl rfl (by walk_at "u dp") (by walk_at "u un") (by exact List.forall_mem_cons.mpr ⟨(by k_asm : News _ _ _ _) _ (by k_mem), List.forall_mem_nil _⟩) (by walk_at "u om") (by walk_at "u om") (by walk_at "u om") (by walk_at "u om") (by walk_at "u om") ?_; k_whole; intro kp_q xp_q yp_q tkp_q t1p_q t2p_q hp_q tkq_q hkp0_q hkp1_q hxp_q hyp0_q hyp1_q kpp_q hbp_q; (have F_q := after_oneF (by k_asm) (by k_asm) (by k_mem) kpp_q); (have N_q := after_oneN (by k_asm) (by k_asm) (U := by k_upd) kpp_q hbp_q); walk_at "u end")))
    k_with "ct" => ((with_reducible show wpAny _ _ (call (Value.ref 416) [Value.ref _, Value.ref _]) _ _ _); k_dflt (first | (refine wpAny_call ?_; refine' one_code (by k_asm) (by k_asm) (by k_asm) (by k_asm) rfl rfl (by walk_at "u dp") (by walk_at "u un") (by exact List.forall_mem_cons.mpr ⟨(by k_asm : News _ _ _ _) _ (by k_mem), List.forall_mem_cons.mpr ⟨(by k_asm : News _ _ _ _) _ (by k_mem), List.forall_mem_nil _⟩⟩) (by (first | k_ne | omega)) (by walk_at "u om") (by walk_at "u om") (by walk_at "u om") (by (first | omega | decide | (simp only [List.length_cons, List.length_nil]; omega))) (by (first | omega | decide | (simp only [List.length_cons, List.length_nil]; omega))) ?_; k_whole; intro vp_q xp_q yp_q t1p_q t2p_q hp_q tkq_q hvp_q hxp_q hyp0_q hyp1_q kpp_q hbp_q; (have F_q := after_oneF (by k_asm) (by k_asm) (by k_mem) kpp_q); (have N_q := after_oneN (by k_asm) (by k_asm) (U := by k_upd) kpp_q hbp_q); walk_at "u end")))
    k_with "ct" => ((with_reducible show wpAny _ _ (call (Value.ref 444) [Value.ref _]) _ _ _); k_dflt (first | (refine wpAny_call ?_; refine' plain_code (by k_asm) (by k_asm) (by k_asm) (by k_asm) rfl rfl (by walk_at "u dp") (by walk_at "u un") (by exact List.forall_mem_cons.mpr ⟨(by k_asm : News _ _ _ _) _ (by k_mem), List.forall_mem_nil _⟩) (by walk_at "u om") (by walk_at "u om") (by walk_at "u om") ?_; k_whole; intro ap_q aq_q vp_q pp_q qp_q t3p_q t4p_q xp_q yp_q t1p_q t2p_q hp_q tkq_q he1_q he2_q hbp_q kpp_q hn1_q hn2_q hpv_q hxp_q hyp0_q hyp1_q; (have F_q := after_oneF (by k_asm) (by k_asm) (by k_mem) kpp_q); (have N_q := after_oneN (by k_asm) (by k_asm) (U := by k_upd) kpp_q hbp_q); (have ne1_q := allNe_of hn1_q (by k_asm : News _ _ _ _)); (have ne2_q := allNe_of hn2_q (by k_asm : News _ _ _ _)); (replace N_q := new_entry (by k_asm) (new_entry (by k_asm) N_q hn2_q he2_q) hn1_q he1_q); (simp only [AllNe, and_true] at ne1_q ne2_q); (repeat (have _ := And.left ne1_q; replace ne1_q := And.right ne1_q)); (repeat (have _ := And.left ne2_q; replace ne2_q := And.right ne2_q)); walk_at "u end")))
    k_with "ct" => ((with_reducible show wpAny _ _ (call (Value.ref 145) [Value.ref _, Value.ref _]) _ _ _); k_dflt (first | (refine wpAny_call ?_; refine' texts_of_code (by k_asm) (by k_asm) (by k_asm) (by k_asm) rfl rfl (by walk_at "u dp") (by walk_at "u un") (by with_reducible assumption) (by k_asm) ?h1 ?h2 ?h3 ?h4 ?h5 ?h6 ?_; (case h1 => exact (fun p hp => by (repeat (first | exact hp | exact (by k_extra "sub") | refine List.Mem.tail _ ?_)))); (case h2 => k_mem); (case h3 => first | with_reducible assumption | exact rfl); (case h4 => first | with_reducible assumption | omega | (simp only [List.length_append, List.length_set, List.length_cons, List.length_nil]; omega) | exact (by decide)); (case h5 => k_extra "nvs"); (case h6 => first | with_reducible assumption | omega | (simp only [List.length_append, List.length_set, List.length_cons, List.length_nil]; omega) | exact (by decide)); k_whole; intro lp_q ysp_q hp_q tkq_q hly_q hty_q F_q N_q;  walk_at "u end")))
    k_with "ct" => ((with_reducible show wpAny _ _ (call (Value.ref 152) [Value.str _ _, _, _, Value.ref _]) _ _ _); k_dflt (first | (refine wpAny_call ?_; refine' listed_val (by k_asm) (by k_asm) (by k_asm) (by k_asm) rfl rfl (by walk_at "u dp") (by walk_at "u un") (by k_asm) ?h1 ?_; (case h1 => k_extra "numv"); k_whole; intro lp_q yp_q ep_q Tp_q hp_q tkq_q hyp_q F_q N_q;  walk_at "u end")))
    k_with "ct" => ((with_reducible show wpAny _ _ (call (Value.ref 152) [Value.str _ _, Value.ref _, _, Value.ref _]) _ _ _); k_dflt (first | (refine wpAny_call ?_; refine' listed_list (by k_asm) (by k_asm) (by k_asm) (by k_asm) rfl rfl (by walk_at "u dp") (by walk_at "u un") (by with_reducible assumption) (by k_asm) ?h1 ?h2 ?h3 ?h4 ?h5 ?h6 ?h7 ?_; (case h1 => exact (fun p hp => by (repeat (first | exact hp | exact (by k_extra "sub") | refine List.Mem.tail _ ?_)))); (case h2 => k_mem); (case h3 => first | with_reducible assumption | exact rfl); (case h4 => first | with_reducible assumption | omega | (simp only [List.length_append, List.length_set, List.length_cons, List.length_nil]; omega) | exact (by decide)); (case h5 => k_extra "nvs"); (case h6 => first | with_reducible assumption | omega | (simp only [List.length_append, List.length_set, List.length_cons, List.length_nil]; omega) | exact (by decide)); (case h7 => k_extra "oth"); k_whole; intro lp_q ysp_q ep_q Tp_q hp_q tkq_q hly_q hty_q F_q N_q;  walk_at "u end")))
    k_with "ct" => ((with_reducible show wpAny _ _ (call (Value.ref 140) [Value.str _ _, Value.ref _, _]) _ _ _); k_dflt (first | (refine wpAny_call ?_; refine' as_compared_code (by k_asm) (by k_asm) (by k_asm) (by k_asm) rfl rfl (by walk_at "u dp") (by walk_at "u un") (by k_asm) (by k_mem) (by first | with_reducible assumption | exact rfl) (by first | with_reducible assumption | omega | (simp only [List.length_append, List.length_set, List.length_cons, List.length_nil]; omega) | exact (by decide)) ?h4 ?h5 ?_; (case h4 => k_extra "vs"); (case h5 => k_extra "oth"); k_whole; intro lp_q ysp_q ep_q Tp_q hp_q tkq_q hly_q hty_q F_q N_q;  walk_at "u end")))
    k_with "ct" => ((with_reducible show wpAny _ _ (call (Value.ref 402) [Value.ref _]) _ _ _); k_dflt (first | (refine wpAny_call ?_; refine' bag_U (by k_asm) (by k_asm) (by k_asm) (by k_asm) rfl rfl (by walk_at "u dp") (by walk_at "u un") (by assumption) (by assumption) ?_; k_whole; intro bp_q xp_q yp_q t1p_q t2p_q hp_q tkq_q hep_q kpp_q hn1_q hxp_q hyp0_q hyp1_q; (have F_q := after_noneF (by k_asm) kpp_q); (have N_q := after_noneN (by k_asm) kpp_q); (have ne1_q := allNe_of hn1_q (by k_asm : News _ _ _ _)); (replace N_q := new_entry (by k_asm) N_q hn1_q hep_q); (simp only [AllNe, and_true] at ne1_q); (repeat (have _ := And.left ne1_q; replace ne1_q := And.right ne1_q)); walk_at "u end")))
    k_steps
    rename (_ ∈ [_, _, _, _, _, _, _]) => z7
    obtain ⟨st, ts, e7⟩ := mem_str7 z7
    subst e7
    rename Fr _ _ _ _ => zF
    rename News _ _ _ _ => zN
    refine' ⟨rfl, st, ts, _, _, _, _, _, _, _, _, _, _, _, _, _, _, ?pv1, ?pv2, _, _, zF, news_of zN ?nw⟩
    case nw =>
      repeat (refine List.forall_mem_cons.mpr ⟨by k_mem, ?_⟩)
      intro p hp
      repeat (first | exact hp | refine List.Mem.tail _ ?_)
    case pv1 => with_reducible assumption
    case pv2 => with_reducible assumption
  case k6 =>
  rintro s' ⟨op, top, a1, c1, a2, c2, v1, v2, p1, q1, p2, q2, u1, u2, u3, u4, hv1, hv2, h6, tk6, F6, N6⟩
  clear F5 N5 nbn nbt nbD aob hx3 hy03 hy3 hx4 hy04 hy4
  obtain ⟨tp1, ho1, hnv1⟩ := plain_oth (u1 := u1) (u2 := u2) hv1
  obtain ⟨tp2, ho2, hnv2⟩ := plain_oth (u1 := u3) (u2 := u4) hv2
  refine seqG F6 N6 (fun h₀ L m nw s0 s' => LMid h₀ L s0 (fun z => if z = Str.ofString "is_equal" then some (.bool (eqb op)) else m z) nw s') ?w7 ?k7
  case w7 =>
    k_steps
    rename Fr _ _ _ _ => zF
    rename News _ _ _ _ => zN
    rw [any_eqb] at zF
    exact ⟨rfl, _, _, zF, news_of zN (fun p hp => by (repeat (first | exact hp | refine List.Mem.tail _ ?_)))⟩
  case k7 =>
  rintro s' ⟨h7, tk7, F7, N7⟩
  clear F6 N6
  refine seqG F7 N7 (fun h₀ L m nw s0 s' => LMid h₀ L s0 m nw s') ?w8 ?k8
  case w8 =>
    k_with "nvs" => exact nvs_nil
    k_with "oth" => exact Oth.more ho1 (List.forall_mem_cons.mpr ⟨by k_mem, List.forall_mem_nil _⟩)
    k_with "ne" =>
      rename (List.length _ = List.length []) => ln'
      refine ne_nil (by k_asm) ln' (by k_mem) (by k_mem) (by ke_room) ?_
    k_steps
    rename Fr _ _ _ _ => zF
    rename News _ _ _ _ => zN
    exact ⟨rfl, _, _, zF, news_of zN (fun p hp => by (repeat (first | exact hp | refine List.Mem.tail _ ?_ | refine List.mem_append_right _ ?_)))⟩
  case k8 =>
  rintro s' ⟨h8, tk8, F8, N8⟩
  clear F7 N7
  have hnv : ∀ (j : Nat) (v : Value), vn[j]? = some v → ∃ n t st, v = Value.int n t ∧ sts[j]? = some st ∧ SV rows n st ∧ st ∈ textsT := fun j v e => by
    obtain ⟨n, t, st, e1, e2, e3, e4, e5⟩ := hrn j v e
    exact ⟨n, t, st, e1, e2, e4, e5⟩
  have htw := TextAt.weak hrt
  have hok : ∀ s ∈ sts, PyData.strOk s = true := fun s hs => text_strOk (hsts s hs)
  have hvt' : vt.length = sts.length := by rw [hvt, hls]
  refine seqG F8 N8 (fun h₀ L m nw s0 s' => LMid h₀ L s0 m nw s') ?w9 ?k9
  case w9 =>
    k_with_none
    k_with "u lt" => (with_reducible (first | assumption | exact cl0 ‹_› | exact cl1 ‹_› | exact cl2 ‹_› | exact cl3 ‹_› | exact cl4 ‹_› | exact cl5 ‹_› | exact cl6 ‹_› | exact cl7 ‹_› | exact cl8 ‹_› | exact cl9 ‹_› | exact cl10 ‹_› | exact cl11 ‹_› | exact cr1 ‹_› | exact cr2 ‹_› | exact cr3 ‹_› | exact cr4 ‹_› | exact cr5 ‹_› | exact cr6 ‹_› | exact cr7 ‹_› | exact cr8 ‹_› | exact cr9 ‹_› | exact cr10 ‹_› | exact cr11 ‹_›))
    k_with "u room" => (first | exact room3 (by with_reducible assumption) rfl | exact room2 (by with_reducible assumption) rfl | exact room4 (by with_reducible assumption) rfl | exact room1 (by with_reducible assumption) | exact roomc (by with_reducible assumption) rfl | exact roome (by with_reducible assumption) rfl | exact roomd (by with_reducible assumption) rfl | exact roomn rfl | exact Nat.le_of_ble_eq_true rfl)
    k_with "call ref" => ((k_here; k_extra "ct"))
    k_with "u dp" => (((try simp only [depth_deeper, depth_in1, depth_caller]); (try dsimp only); first | walk_at "u room" | omega))
    k_with "u un" => (((try simp only [units_deeper, units_in1, units_caller]); (try dsimp only); first | walk_at "u room" | omega))
    k_with "u end" => (((try k_sweep); (try dsimp only); (try ((fail_if_success (with_reducible show wpAny _ _ _ _ _ _)); refine peel ?_)); (try k_fold)))
    k_with "u om" => (first | walk_at "u lt" | walk_at "u room" | exact Nat.le_of_ble_eq_true rfl | omega)
    k_with "k_ne" => (first | exact NeA.ne (by with_reducible assumption) | exact Ne.symm (NeA.ne (by with_reducible assumption)) | exact Nat.ne_of_gt (by walk_at "u lt") | exact Nat.ne_of_lt (by walk_at "u lt"))
    k_with "k_room" => (((try simp only [depth_under_make, depth_under_kw, depth_in1, depth_deeper, depth_caller, recursionLimit]); (try dsimp only); first | walk_at "u room" | omega))
    k_with "k_units" => (first | ((try simp only [units_in1, units_deeper, Around.mark_units, units_caller]); (try dsimp only); walk_at "u room") | (have hcL9 := cLine_is; (try simp only [units_in1, units_deeper, Around.mark_units, units_caller]); (try dsimp only); omega))
    k_with "om" => (with_reducible ((fail_if_success exact True.intro); (fail_if_success exact not_false); first | decide | exact n_lt0 rfl | exact n_le0 rfl | exact n_ltlt ‹_› rfl | exact n_lelt ‹_› rfl | exact n_lele ‹_› rfl | exact n_ltle ‹_› rfl | exact n_eqlt ‹_› rfl | exact n_lelt2 ‹_› ‹_› rfl | exact n_lelt3 ‹_› ‹_› rfl | exact Int.natCast_nonneg _ | exact i_ngt rfl | exact i_ge ‹_› rfl | exact i_gt ‹_› rfl | exact i_gtn ‹_› rfl | exact i_gt64 ‹_› | exact i_lt ‹_› rfl | exact i_lt64 ‹_› rfl | exact i_lelt ‹_› rfl | exact i_le ‹_› rfl | exact i_ne ‹_› rfl | exact i_nlt ‹_› rfl | exact i_ltn ‹_› ‹_› rfl | exact i_ltn2 ‹_› ‹_› rfl | exact i_neg ‹_› | exact i_eqn ‹_› | exact i_succ ‹_› | exact Int.add_one_le_of_lt ‹_› | exact i_sub_less ‹_› ‹_› | exact i_sub_less2 ‹_› ‹_› ‹_› | exact n_sum ‹_› ‹_› ‹_› ‹_› rfl))
    k_with "k_mem" => (first | exact List.mem_cons_self | with_reducible assumption | (refine List.mem_cons_of_mem _ ?_; k_mem) | (refine List.mem_append_right _ ?_; k_mem))
    k_with "k_all" => (exact AllNe.all (by with_reducible assumption))
    k_with "exec If" => ((k_here; refine wpAny_If ?_))
    k_with "compareOp NotEq ref ref" => ((k_here; k_dflt (k_extra "ne")))
    k_with "call ref" => ((k_here; (with_reducible show wpAny _ _ (call (Value.ref 437) _) _ _ _); k_dflt (refine wpAny_call ?_; refine HoldC.out ?_)))
    k_with "call type:range" => ((k_here; (rename Fr _ _ _ _ => F_q); (rename News _ _ _ _ => N_q); (with_unfolding_all refine range1_rows F_q N_q ?_); intro _ _ _ _ _ rg_q _ _ _))
    k_with "CompSrc" => ((k_here; k_dflt (k_extra "src")))
    k_with "exec Assign cons ListComp" => ((k_here; k_dflt (refine LCg.Assign_ListComp_U (F₀ := by k_asm) (by rfl) (by with_unfolding_all rfl) (by with_unfolding_all rfl) (by decide) (by rfl) (by decide) (by rfl) (by rfl) (by rfl) ?_)))
    k_with "SrcLP" => ((k_here; k_dflt (refine LCp.SrcLP.ledger (by rfl) (by k_asm) (by k_asm) (by k_mem) (by k_extra "size") ?_; intro g_q; k_extra "comp")))
    k_with "eval ListComp Name" => ((k_here; k_dflt (refine LCp.ListComp_P (F₀ := by k_asm) (by with_unfolding_all rfl) (by decide) (by rfl) (by decide) (by rfl) (by rfl) (by decide) ?_)))
    k_with "newList" => ((k_here; (with_reducible show wpAny _ _ (newList _) _ _ _); k_dflt (refine' newList_K ?k1_w10 ?k2_w10 ?_ ?z_w10; (case k1_w10 => k_asm); (case k2_w10 => k_asm); (case z_w10 => exact Nat.le_of_ble_eq_true rfl); k_whole; intro l_q h_q F_q N_q l1; k_lt l1; k_sweep)))
    k_with "subscriptTail Name Constant ref int" => ((k_here; k_dflt (first | ((with_reducible show wpAny _ _ (subscriptTail _ _ (Value.ref _) (Value.int 0 _)) _ _ _); refine pair_0 (by k_asm) (by k_mem) ?_) | ((with_reducible show wpAny _ _ (subscriptTail _ _ (Value.ref _) (Value.int 1 _)) _ _ _); refine pair_1 (by k_asm) (by k_mem) ?_))))
    k_with "compareOp Eq ref ref" => ((k_here; k_dflt (k_extra "eq")))
    k_with "compareOp NotEq bool bool" => ((k_here; k_dflt (refine ne_bool_self ?_)))
    k_with "eval ListComp Call" => ((k_here; k_dflt (refine LCg.ListComp_U (F₀ := by k_asm) (by with_unfolding_all rfl) (by decide) (by rfl) (by decide) (by rfl) ?_)))
    k_with "call builtin:isinstance" => ((k_here; (with_reducible show wpAny _ _ (call _ [_, Value.type "tuple"]) _ _ _); k_dflt (refine' isi_tup ?o_w15 ?N_w15 ?X_w15 ?_; (case N_w15 => k_asm); (case o_w15 => k_extra "oth"); (case X_w15 => k_in); intro _)))
    k_with "ct" => ((with_reducible show wpAny _ _ (call (Value.ref 449) [Value.ref _, Value.ref _]) _ _ _); k_dflt (first | (refine wpAny_call ?_; refine' is_same_code (by k_asm) (by k_asm) (by k_asm) (by k_asm) rfl rfl (by walk_at "u dp") (by walk_at "u un") (by k_asm) (by k_mem) (by k_mem) (by first | with_reducible assumption | exact rfl) (by first | with_reducible assumption | omega | exact rfl) (by first | omega | exact Nat.le_of_ble_eq_true rfl) ?h6 ?_; (case h6 => k_extra "same"); k_whole; intro hp_q tkq_q F_q N_q;  walk_at "u end")))
    k_with "ct" => ((with_reducible show wpAny _ _ (call (Value.ref 430) [Value.str _ _]) _ _ _); k_dflt (first | (refine wpAny_call ?_; refine' numbered_U (by k_asm) (by k_asm) (by k_asm) (by k_asm) rfl rfl (by walk_at "u dp") (by walk_at "u un")  ?_; k_whole; intro vp_q Tp_q hp_q tkq_q kpp_q hh_q fr_q tu_q;  (have ap_q := fresh_apart fr_q (by k_asm : News _ _ _ _)); (have F_q := after_noneF (by k_asm) kpp_q); (have N_q := after_noneN (by k_asm) kpp_q); (replace N_q := new_entries (by k_asm) N_q fr_q hh_q); walk_at "u end")))
    k_with "ct" => ((with_reducible show wpAny _ _ (call (Value.ref 135) [Value.str _ _]) _ _ _); k_dflt (first | (refine wpAny_call ?_; refine' is_equality_code (by k_asm) (by k_asm) (by k_asm) (by k_asm) rfl rfl (by walk_at "u dp") (by walk_at "u un")  ?_; k_whole; intro hp_q tkq_q kpp_q; (have F_q := after_noneF (by k_asm) kpp_q); (have N_q := after_noneN (by k_asm) kpp_q); walk_at "u end")))
    k_with "ct" => ((with_reducible show wpAny _ _ (call (Value.ref 409) [Value.ref _, Value.int _ _]) _ _ _); k_dflt (first | (refine wpAny_call ?_; refine' pick_code (by k_asm) (by k_asm) (by k_asm) (by k_asm) rfl rfl (by walk_at "u dp") (by walk_at "u un") (by exact List.forall_mem_cons.mpr ⟨(by k_asm : News _ _ _ _) _ (by k_mem), List.forall_mem_nil _⟩) (by walk_at "u om") (by walk_at "u om") (by walk_at "u om") (by walk_at "u om") (by walk_at "u om") ?_; k_whole; intro kp_q xp_q yp_q tkp_q t1p_q t2p_q hp_q tkq_q hkp0_q hkp1_q hxp_q hyp0_q hyp1_q kpp_q hbp_q; (have F_q := after_oneF (by k_asm) (by k_asm) (by k_mem) kpp_q); (have N_q := after_oneN (by k_asm) (by k_asm) (U := by k_upd) kpp_q hbp_q); walk_at "u end")))
    k_with "ct" => ((with_reducible show wpAny _ _ (call (Value.ref 416) [Value.ref _, Value.ref _]) _ _ _); k_dflt (first | (refine wpAny_call ?_; refine' one_code (by k_asm) (by k_asm) (by k_asm) (by k_asm) rfl rfl (by walk_at "u dp") (by walk_at "u un") (by exact List.forall_mem_cons.mpr ⟨(by k_asm : News _ _ _ _) _ (by k_mem), List.forall_mem_cons.mpr ⟨(by k_asm : News _ _ _ _) _ (by k_mem), List.forall_mem_nil _⟩⟩) (by (first | k_ne | omega)) (by walk_at "u om") (by walk_at "u om") (by walk_at "u om") (by (first | omega | decide | (simp only [List.length_cons, List.length_nil]; omega))) (by (first | omega | decide | (simp only [List.length_cons, List.length_nil]; omega))) ?_; k_whole; intro vp_q xp_q yp_q t1p_q t2p_q hp_q tkq_q hvp_q hxp_q hyp0_q hyp1_q kpp_q hbp_q; (have F_q := after_oneF (by k_asm) (by k_asm) (by k_mem) kpp_q); (have N_q := after_oneN (by k_asm) (by k_asm) (U := by k_upd) kpp_q hbp_q); walk_at "u end")))
    k_with "ct" => ((with_reducible show wpAny _ _ (call (Value.ref 444) [Value.ref _]) _ _ _); k_dflt (first | (refine wpAny_call ?_; refine' plain_code (by k_asm) (by k_asm) (by k_asm) (by k_asm) rfl rfl (by walk_at "u dp") (by walk_at "u un") (by exact List.forall_mem_cons.mpr ⟨(by k_asm : News _ _ _ _) _ (by k_mem), List.forall_mem_nil _⟩) (by walk_at "u om") (by walk_at "u om") (by walk_at "u om") ?_; k_whole; intro ap_q aq_q vp_q pp_q qp_q t3p_q t4p_q xp_q yp_q t1p_q t2p_q hp_q tkq_q he1_q he2_q hbp_q kpp_q hn1_q hn2_q hpv_q hxp_q hyp0_q hyp1_q; (have F_q := after_oneF (by k_asm) (by k_asm) (by k_mem) kpp_q); (have N_q := after_oneN (by k_asm) (by k_asm) (U := by k_upd) kpp_q hbp_q); (have ne1_q := allNe_of hn1_q (by k_asm : News _ _ _ _)); (have ne2_q := allNe_of hn2_q (by k_asm : News _ _ _ _)); (replace N_q := new_entry (by k_asm) (new_entry (by k_asm) N_q hn2_q he2_q) hn1_q he1_q); (simp only [AllNe, and_true] at ne1_q ne2_q); (repeat (have _ := And.left ne1_q; replace ne1_q := And.right ne1_q)); (repeat (have _ := And.left ne2_q; replace ne2_q := And.right ne2_q)); walk_at "u end")))
    k_with "ct" => ((with_reducible show wpAny _ _ (call (Value.ref 145) [Value.ref _, Value.ref _]) _ _ _); k_dflt (first | (refine wpAny_call ?_; refine' texts_of_code (by k_asm) (by k_asm) (by k_asm) (by k_asm) rfl rfl (by walk_at "u dp") (by walk_at "u un") (by with_reducible assumption) (by k_asm) ?h1 ?h2 ?h3 ?h4 ?h5 ?h6 ?_; (case h1 => exact (fun p hp => by (repeat (first | exact hp | exact (by k_extra "sub") | refine List.Mem.tail _ ?_)))); (case h2 => k_mem); (case h3 => first | with_reducible assumption | exact rfl); (case h4 => first | with_reducible assumption | omega | (simp only [List.length_append, List.length_set, List.length_cons, List.length_nil]; omega) | exact (by decide)); (case h5 => k_extra "nvs"); (case h6 => first | with_reducible assumption | omega | (simp only [List.length_append, List.length_set, List.length_cons, List.length_nil]; omega) | exact (by decide)); k_whole; intro lp_q ysp_q hp_q tkq_q hly_q hty_q F_q N_q;  walk_at "u end")))
    k_with "ct" => ((with_reducible show wpAny _ _ (call (Value.ref 152) [Value.str _ _, _, _, Value.ref _]) _ _ _); k_dflt (first | (refine wpAny_call ?_; refine' listed_val (by k_asm) (by k_asm) (by k_asm) (by k_asm) rfl rfl (by walk_at "u dp") (by walk_at "u un") (by k_asm) ?h1 ?_; (case h1 => k_extra "numv"); k_whole; intro lp_q yp_q ep_q Tp_q hp_q tkq_q hyp_q F_q N_q;  walk_at "u end")))
    k_with "ct" => ((with_reducible show wpAny _ _ (call (Value.ref 152) [Value.str _ _, Value.ref _, _, Value.ref _]) _ _ _); k_dflt (first | (refine wpAny_call ?_; refine' listed_list (by k_asm) (by k_asm) (by k_asm) (by k_asm) rfl rfl (by walk_at "u dp") (by walk_at "u un") (by with_reducible assumption) (by k_asm) ?h1 ?h2 ?h3 ?h4 ?h5 ?h6 ?h7 ?_; (case h1 => exact (fun p hp => by (repeat (first | exact hp | exact (by k_extra "sub") | refine List.Mem.tail _ ?_)))); (case h2 => k_mem); (case h3 => first | with_reducible assumption | exact rfl); (case h4 => first | with_reducible assumption | omega | (simp only [List.length_append, List.length_set, List.length_cons, List.length_nil]; omega) | exact (by decide)); (case h5 => k_extra "nvs"); (case h6 => first | with_reducible assumption | omega | (simp only [List.length_append, List.length_set, List.length_cons, List.length_nil]; omega) | exact (by decide)); (case h7 => k_extra "oth"); k_whole; intro lp_q ysp_q ep_q Tp_q hp_q tkq_q hly_q hty_q F_q N_q;  walk_at "u end")))
    k_with "ct" => ((with_reducible show wpAny _ _ (call (Value.ref 140) [Value.str _ _, Value.ref _, _]) _ _ _); k_dflt (first | (refine wpAny_call ?_; refine' as_compared_code (by k_asm) (by k_asm) (by k_asm) (by k_asm) rfl rfl (by walk_at "u dp") (by walk_at "u un") (by k_asm) (by k_mem) (by first | with_reducible assumption | exact rfl) (by first | with_reducible assumption | omega | (simp only [List.length_append, List.length_set, List.length_cons, List.length_nil]; omega) | exact (by decide)) ?h4 ?h5 ?_; (case h4 => k_extra "vs"); (case h5 => k_extra "oth"); k_whole; intro lp_q ysp_q ep_q Tp_q hp_q tkq_q hly_q hty_q F_q N_q;  walk_at "u end")))
    k_with "ct" => ((with_reducible show wpAny _ _ (call (Value.ref 402) [Value.ref _]) _ _ _); k_dflt (first | (refine wpAny_call ?_; refine' bag_U (by k_asm) (by k_asm) (by k_asm) (by k_asm) rfl rfl (by walk_at "u dp") (by walk_at "u un") (by assumption) (by assumption) ?_; k_whole; intro bp_q xp_q yp_q t1p_q t2p_q hp_q tkq_q hep_q kpp_q hn1_q hxp_q hyp0_q hyp1_q; (have F_q := after_noneF (by k_asm) kpp_q); (have N_q := after_noneN (by k_asm) kpp_q); (have ne1_q := allNe_of hn1_q (by k_asm : News _ _ _ _)); (replace N_q := new_entry (by k_asm) N_q hn1_q hep_q); (simp only [AllNe, and_true] at ne1_q); (repeat (have _ := And.left ne1_q; replace ne1_q := And.right ne1_q)); walk_at "u end")))
    k_with "nvs" => exact hnv
    k_with "ne" =>
      rename (List.length _ = List.length ys) => ln'
      rename (∀ (j : Nat) (y : Value), _ → ∃ st t, sts[j]? = some st ∧ y = Value.str st t ∧ st ∈ textsT) => lt'
      refine ne_strs (sts := sts) (by k_asm) (by k_mem) (by k_mem) (by omega) hvt' (TextAt.weak lt') htw hok (by ke_room) ?_
    k_steps
    rename Fr _ _ _ _ => zF
    rename News _ _ _ _ => zN
    exact ⟨rfl, _, _, zF, news_of zN (fun p hp => by (repeat (first | exact hp | refine List.Mem.tail _ ?_ | refine List.mem_append_right _ ?_)))⟩
  case k9 =>
  rintro s' ⟨h9, tk9, F9, N9⟩
  clear F8 N8
  refine seqG F9 N9 (fun h₀ L m nw s0 s' => ∃ (Dd : Addr) (yd : List Value) (ed : Nat) (T : Led), yd.length = ys.length ∧ (∀ (j : Nat) (y : Value), yd[j]? = some y → ToldAt (eqb op && !tp2) T sts j y) ∧
    LMid h₀ L s0 (fun z => if z = Str.ofString "due" then some (.ref Dd) else m z)
      ((D, LCg.lst ys) :: (Dn, LCg.lst vn) :: (Dt, LCg.lst vt) :: (a1, tupO [v1, .ref c1]) :: (c1, tupO [.int p1 u1, .int q1 u2]) :: (a2, tupO [v2, .ref c2]) :: (c2, tupO [.int p2 u3, .int q2 u4]) :: (Dd, W.listOf yd.toArray ed) :: (T ++ OL)) s') ?w10 ?k10
  case w10 =>
    k_with_none
    k_with "u lt" => (with_reducible (first | assumption | exact cl0 ‹_› | exact cl1 ‹_› | exact cl2 ‹_› | exact cl3 ‹_› | exact cl4 ‹_› | exact cl5 ‹_› | exact cl6 ‹_› | exact cl7 ‹_› | exact cl8 ‹_› | exact cl9 ‹_› | exact cl10 ‹_› | exact cl11 ‹_› | exact cr1 ‹_› | exact cr2 ‹_› | exact cr3 ‹_› | exact cr4 ‹_› | exact cr5 ‹_› | exact cr6 ‹_› | exact cr7 ‹_› | exact cr8 ‹_› | exact cr9 ‹_› | exact cr10 ‹_› | exact cr11 ‹_›))
    k_with "u room" => (first | exact room3 (by with_reducible assumption) rfl | exact room2 (by with_reducible assumption) rfl | exact room4 (by with_reducible assumption) rfl | exact room1 (by with_reducible assumption) | exact roomc (by with_reducible assumption) rfl | exact roome (by with_reducible assumption) rfl | exact roomd (by with_reducible assumption) rfl | exact roomn rfl | exact Nat.le_of_ble_eq_true rfl)
    k_with "call ref" => ((k_here; k_extra "ct"))
    k_with "u dp" => (((try simp only [depth_deeper, depth_in1, depth_caller]); (try dsimp only); first | walk_at "u room" | omega))
    k_with "u un" => (((try simp only [units_deeper, units_in1, units_caller]); (try dsimp only); first | walk_at "u room" | omega))
    k_with "u end" => (((try k_sweep); (try dsimp only); (try ((fail_if_success (with_reducible show wpAny _ _ _ _ _ _)); refine peel ?_)); (try k_fold)))
    k_with "u om" => (first | walk_at "u lt" | walk_at "u room" | exact Nat.le_of_ble_eq_true rfl | omega)
    k_with "k_ne" => (first | exact NeA.ne (by with_reducible assumption) | exact Ne.symm (NeA.ne (by with_reducible assumption)) | exact Nat.ne_of_gt (by walk_at "u lt") | exact Nat.ne_of_lt (by walk_at "u lt"))
    k_with "k_room" => (((try simp only [depth_under_make, depth_under_kw, depth_in1, depth_deeper, depth_caller, recursionLimit]); (try dsimp only); first | walk_at "u room" | omega))
    k_with "k_units" => (first | ((try simp only [units_in1, units_deeper, Around.mark_units, units_caller]); (try dsimp only); walk_at "u room") | (have hcL9 := cLine_is; (try simp only [units_in1, units_deeper, Around.mark_units, units_caller]); (try dsimp only); omega))
    k_with "om" => (with_reducible ((fail_if_success exact True.intro); (fail_if_success exact not_false); first | decide | exact n_lt0 rfl | exact n_le0 rfl | exact n_ltlt ‹_› rfl | exact n_lelt ‹_› rfl | exact n_lele ‹_› rfl | exact n_ltle ‹_› rfl | exact n_eqlt ‹_› rfl | exact n_lelt2 ‹_› ‹_› rfl | exact n_lelt3 ‹_› ‹_› rfl | exact Int.natCast_nonneg _ | exact i_ngt rfl | exact i_ge ‹_› rfl | exact i_gt ‹_› rfl | exact i_gtn ‹_› rfl | exact i_gt64 ‹_› | exact i_lt ‹_› rfl | exact i_lt64 ‹_› rfl | exact i_lelt ‹_› rfl | exact i_le ‹_› rfl | exact i_ne ‹_› rfl | exact i_nlt ‹_› rfl | exact i_ltn ‹_› ‹_› rfl | exact i_ltn2 ‹_› ‹_› rfl | exact i_neg ‹_› | exact i_eqn ‹_› | exact i_succ ‹_› | exact Int.add_one_le_of_lt ‹_› | exact i_sub_less ‹_› ‹_› | exact i_sub_less2 ‹_› ‹_› ‹_› | exact n_sum ‹_› ‹_› ‹_› ‹_› rfl))
    k_with "k_mem" => (first | exact List.mem_cons_self | with_reducible assumption | (refine List.mem_cons_of_mem _ ?_; k_mem) | (refine List.mem_append_right _ ?_; k_mem))
    k_with "k_all" => (exact AllNe.all (by with_reducible assumption))
    k_with "exec If" => ((k_here; refine wpAny_If ?_))
    k_with "compareOp NotEq ref ref" => ((k_here; k_dflt (k_extra "ne")))
    k_with "call ref" => ((k_here; (with_reducible show wpAny _ _ (call (Value.ref 437) _) _ _ _); k_dflt (refine wpAny_call ?_; refine HoldC.out ?_)))
    k_with "call type:range" => ((k_here; (rename Fr _ _ _ _ => F_q); (rename News _ _ _ _ => N_q); (with_unfolding_all refine range1_rows F_q N_q ?_); intro _ _ _ _ _ rg_q _ _ _))
    k_with "CompSrc" => ((k_here; k_dflt (k_extra "src")))
    k_with "exec Assign cons ListComp" => ((k_here; k_dflt (refine LCg.Assign_ListComp_U (F₀ := by k_asm) (by rfl) (by with_unfolding_all rfl) (by with_unfolding_all rfl) (by decide) (by rfl) (by decide) (by rfl) (by rfl) (by rfl) ?_)))
    k_with "SrcLP" => ((k_here; k_dflt (refine LCp.SrcLP.ledger (by rfl) (by k_asm) (by k_asm) (by k_mem) (by k_extra "size") ?_; intro g_q; k_extra "comp")))
    k_with "eval ListComp Name" => ((k_here; k_dflt (refine LCp.ListComp_P (F₀ := by k_asm) (by with_unfolding_all rfl) (by decide) (by rfl) (by decide) (by rfl) (by rfl) (by decide) ?_)))
    k_with "newList" => ((k_here; (with_reducible show wpAny _ _ (newList _) _ _ _); k_dflt (refine' newList_K ?k1_w10 ?k2_w10 ?_ ?z_w10; (case k1_w10 => k_asm); (case k2_w10 => k_asm); (case z_w10 => exact Nat.le_of_ble_eq_true rfl); k_whole; intro l_q h_q F_q N_q l1; k_lt l1; k_sweep)))
    k_with "subscriptTail Name Constant ref int" => ((k_here; k_dflt (first | ((with_reducible show wpAny _ _ (subscriptTail _ _ (Value.ref _) (Value.int 0 _)) _ _ _); refine pair_0 (by k_asm) (by k_mem) ?_) | ((with_reducible show wpAny _ _ (subscriptTail _ _ (Value.ref _) (Value.int 1 _)) _ _ _); refine pair_1 (by k_asm) (by k_mem) ?_))))
    k_with "compareOp Eq ref ref" => ((k_here; k_dflt (k_extra "eq")))
    k_with "compareOp NotEq bool bool" => ((k_here; k_dflt (refine ne_bool_self ?_)))
    k_with "eval ListComp Call" => ((k_here; k_dflt (refine LCg.ListComp_U (F₀ := by k_asm) (by with_unfolding_all rfl) (by decide) (by rfl) (by decide) (by rfl) ?_)))
    k_with "call builtin:isinstance" => ((k_here; (with_reducible show wpAny _ _ (call _ [_, Value.type "tuple"]) _ _ _); k_dflt (refine' isi_tup ?o_w15 ?N_w15 ?X_w15 ?_; (case N_w15 => k_asm); (case o_w15 => k_extra "oth"); (case X_w15 => k_in); intro _)))
    k_with "ct" => ((with_reducible show wpAny _ _ (call (Value.ref 449) [Value.ref _, Value.ref _]) _ _ _); k_dflt (first | (refine wpAny_call ?_; refine' is_same_code (by k_asm) (by k_asm) (by k_asm) (by k_asm) rfl rfl (by walk_at "u dp") (by walk_at "u un") (by k_asm) (by k_mem) (by k_mem) (by first | with_reducible assumption | exact rfl) (by first | with_reducible assumption | omega | exact rfl) (by first | omega | exact Nat.le_of_ble_eq_true rfl) ?h6 ?_; (case h6 => k_extra "same"); k_whole; intro hp_q tkq_q F_q N_q;  walk_at "u end")))
    k_with "ct" => ((with_reducible show wpAny _ _ (call (Value.ref 430) [Value.str _ _]) _ _ _); k_dflt (first | (refine wpAny_call ?_; refine' numbered_U (by k_asm) (by k_asm) (by k_asm) (by k_asm) rfl rfl (by walk_at "u dp") (by walk_at "u un")  ?_; k_whole; intro vp_q Tp_q hp_q tkq_q kpp_q hh_q fr_q tu_q;  (have ap_q := fresh_apart fr_q (by k_asm : News _ _ _ _)); (have F_q := after_noneF (by k_asm) kpp_q); (have N_q := after_noneN (by k_asm) kpp_q); (replace N_q := new_entries (by k_asm) N_q fr_q hh_q); walk_at "u end")))
    k_with "ct" => ((with_reducible show wpAny _ _ (call (Value.ref 135) [Value.str _ _]) _ _ _); k_dflt (first | (refine wpAny_call ?_; refine' is_equality_code (by k_asm) (by k_asm) (by k_asm) (by k_asm) rfl rfl (by walk_at "u dp") (by walk_at "u un")  ?_; k_whole; intro hp_q tkq_q kpp_q; (have F_q := after_noneF (by k_asm) kpp_q); (have N_q := after_noneN (by k_asm) kpp_q); walk_at "u end")))
    k_with "ct" => ((with_reducible show wpAny _ _ (call (Value.ref 409) [Value.ref _, Value.int _ _]) _ _ _); k_dflt (first | (refine wpAny_call ?_; refine' pick_code (by k_asm) (by k_asm) (by k_asm) (by k_asm) rfl rfl (by walk_at "u dp") (by walk_at "u un") (by exact List.forall_mem_cons.mpr ⟨(by k_asm : News _ _ _ _) _ (by k_mem), List.forall_mem_nil _⟩) (by walk_at "u om") (by walk_at "u om") (by walk_at "u om") (by walk_at "u om") (by walk_at "u om") ?_; k_whole; intro kp_q xp_q yp_q tkp_q t1p_q t2p_q hp_q tkq_q hkp0_q hkp1_q hxp_q hyp0_q hyp1_q kpp_q hbp_q; (have F_q := after_oneF (by k_asm) (by k_asm) (by k_mem) kpp_q); (have N_q := after_oneN (by k_asm) (by k_asm) (U := by k_upd) kpp_q hbp_q); walk_at "u end")))
    k_with "ct" => ((with_reducible show wpAny _ _ (call (Value.ref 416) [Value.ref _, Value.ref _]) _ _ _); k_dflt (first | (refine wpAny_call ?_; refine' one_code (by k_asm) (by k_asm) (by k_asm) (by k_asm) rfl rfl (by walk_at "u dp") (by walk_at "u un") (by exact List.forall_mem_cons.mpr ⟨(by k_asm : News _ _ _ _) _ (by k_mem), List.forall_mem_cons.mpr ⟨(by k_asm : News _ _ _ _) _ (by k_mem), List.forall_mem_nil _⟩⟩) (by (first | k_ne | omega)) (by walk_at "u om") (by walk_at "u om") (by walk_at "u om") (by (first | omega | decide | (simp only [List.length_cons, List.length_nil]; omega))) (by (first | omega | decide | (simp only [List.length_cons, List.length_nil]; omega))) ?_; k_whole; intro vp_q xp_q yp_q t1p_q t2p_q hp_q tkq_q hvp_q hxp_q hyp0_q hyp1_q kpp_q hbp_q; (have F_q := after_oneF (by k_asm) (by k_asm) (by k_mem) kpp_q); (have N_q := after_oneN (by k_asm) (by k_asm) (U := by k_upd) kpp_q hbp_q); walk_at "u end")))
    k_with "ct" => ((with_reducible show wpAny _ _ (call (Value.ref 444) [Value.ref _]) _ _ _); k_dflt (first | (refine wpAny_call ?_; refine' plain_code (by k_asm) (by k_asm) (by k_asm) (by k_asm) rfl rfl (by walk_at "u dp") (by walk_at "u un") (by exact List.forall_mem_cons.mpr ⟨(by k_asm : News _ _ _ _) _ (by k_mem), List.forall_mem_nil _⟩) (by walk_at "u om") (by walk_at "u om") (by walk_at "u om") ?_; k_whole; intro ap_q aq_q vp_q pp_q qp_q t3p_q t4p_q xp_q yp_q t1p_q t2p_q hp_q tkq_q he1_q he2_q hbp_q kpp_q hn1_q hn2_q hpv_q hxp_q hyp0_q hyp1_q; (have F_q := after_oneF (by k_asm) (by k_asm) (by k_mem) kpp_q); (have N_q := after_oneN (by k_asm) (by k_asm) (U := by k_upd) kpp_q hbp_q); (have ne1_q := allNe_of hn1_q (by k_asm : News _ _ _ _)); (have ne2_q := allNe_of hn2_q (by k_asm : News _ _ _ _)); (replace N_q := new_entry (by k_asm) (new_entry (by k_asm) N_q hn2_q he2_q) hn1_q he1_q); (simp only [AllNe, and_true] at ne1_q ne2_q); (repeat (have _ := And.left ne1_q; replace ne1_q := And.right ne1_q)); (repeat (have _ := And.left ne2_q; replace ne2_q := And.right ne2_q)); walk_at "u end")))
    k_with "ct" => ((with_reducible show wpAny _ _ (call (Value.ref 145) [Value.ref _, Value.ref _]) _ _ _); k_dflt (first | (refine wpAny_call ?_; refine' texts_of_code (by k_asm) (by k_asm) (by k_asm) (by k_asm) rfl rfl (by walk_at "u dp") (by walk_at "u un") (by with_reducible assumption) (by k_asm) ?h1 ?h2 ?h3 ?h4 ?h5 ?h6 ?_; (case h1 => exact (fun p hp => by (repeat (first | exact hp | exact (by k_extra "sub") | refine List.Mem.tail _ ?_)))); (case h2 => k_mem); (case h3 => first | with_reducible assumption | exact rfl); (case h4 => first | with_reducible assumption | omega | (simp only [List.length_append, List.length_set, List.length_cons, List.length_nil]; omega) | exact (by decide)); (case h5 => k_extra "nvs"); (case h6 => first | with_reducible assumption | omega | (simp only [List.length_append, List.length_set, List.length_cons, List.length_nil]; omega) | exact (by decide)); k_whole; intro lp_q ysp_q hp_q tkq_q hly_q hty_q F_q N_q;  walk_at "u end")))
    k_with "ct" => ((with_reducible show wpAny _ _ (call (Value.ref 152) [Value.str _ _, _, _, Value.ref _]) _ _ _); k_dflt (first | (refine wpAny_call ?_; refine' listed_val (by k_asm) (by k_asm) (by k_asm) (by k_asm) rfl rfl (by walk_at "u dp") (by walk_at "u un") (by k_asm) ?h1 ?_; (case h1 => k_extra "numv"); k_whole; intro lp_q yp_q ep_q Tp_q hp_q tkq_q hyp_q F_q N_q;  walk_at "u end")))
    k_with "ct" => ((with_reducible show wpAny _ _ (call (Value.ref 152) [Value.str _ _, Value.ref _, _, Value.ref _]) _ _ _); k_dflt (first | (refine wpAny_call ?_; refine' listed_list (by k_asm) (by k_asm) (by k_asm) (by k_asm) rfl rfl (by walk_at "u dp") (by walk_at "u un") (by with_reducible assumption) (by k_asm) ?h1 ?h2 ?h3 ?h4 ?h5 ?h6 ?h7 ?_; (case h1 => exact (fun p hp => by (repeat (first | exact hp | exact (by k_extra "sub") | refine List.Mem.tail _ ?_)))); (case h2 => k_mem); (case h3 => first | with_reducible assumption | exact rfl); (case h4 => first | with_reducible assumption | omega | (simp only [List.length_append, List.length_set, List.length_cons, List.length_nil]; omega) | exact (by decide)); (case h5 => k_extra "nvs"); (case h6 => first | with_reducible assumption | omega | (simp only [List.length_append, List.length_set, List.length_cons, List.length_nil]; omega) | exact (by decide)); (case h7 => k_extra "oth"); k_whole; intro lp_q ysp_q ep_q Tp_q hp_q tkq_q hly_q hty_q F_q N_q;  walk_at "u end")))
    k_with "ct" => ((with_reducible show wpAny _ _ (call (Value.ref 140) [Value.str _ _, Value.ref _, _]) _ _ _); k_dflt (first | (refine wpAny_call ?_; refine' as_compared_code (by k_asm) (by k_asm) (by k_asm) (by k_asm) rfl rfl (by walk_at "u dp") (by walk_at "u un") (by k_asm) (by k_mem) (by first | with_reducible assumption | exact rfl) (by first | with_reducible assumption | omega | (simp only [List.length_append, List.length_set, List.length_cons, List.length_nil]; omega) | exact (by decide)) ?h4 ?h5 ?_; (case h4 => k_extra "vs"); (case h5 => k_extra "oth"); k_whole; intro lp_q ysp_q ep_q Tp_q hp_q tkq_q hly_q hty_q F_q N_q;  walk_at "u end")))
    k_with "ct" => ((with_reducible show wpAny _ _ (call (Value.ref 402) [Value.ref _]) _ _ _); k_dflt (first | (refine wpAny_call ?_; refine' bag_U (by k_asm) (by k_asm) (by k_asm) (by k_asm) rfl rfl (by walk_at "u dp") (by walk_at "u un") (by assumption) (by assumption) ?_; k_whole; intro bp_q xp_q yp_q t1p_q t2p_q hp_q tkq_q hep_q kpp_q hn1_q hxp_q hyp0_q hyp1_q; (have F_q := after_noneF (by k_asm) kpp_q); (have N_q := after_noneN (by k_asm) kpp_q); (have ne1_q := allNe_of hn1_q (by k_asm : News _ _ _ _)); (replace N_q := new_entry (by k_asm) N_q hn1_q hep_q); (simp only [AllNe, and_true] at ne1_q); (repeat (have _ := And.left ne1_q; replace ne1_q := And.right ne1_q)); walk_at "u end")))
    k_with "size" => exact size_ok (by omega)
    k_with "oth" => exact Oth.more ho2 (List.forall_mem_cons.mpr ⟨by k_mem, List.forall_mem_nil _⟩)
    k_with "src" =>
      refine LCg.CompSrc.ledger (by rfl) (by k_asm) (by k_asm) (by k_mem) (by k_extra "size") ?_
      intro g'
      refine comp_map (fun T j y => ∃ st, sts[j]? = some st ∧ TupAt T y (numbered st).1 (numbered st).2) (fun A B j y h r => by obtain ⟨st, e, t⟩ := r; exact ⟨st, e, t.more h⟩) (fun T => .inr ⟨_, List.mem_append_right _ (by k_mem), rfl, _, rfl⟩) ?_ ?_
    k_steps
    · refine HoldC.mk ?_
      intro i T1 yy v I1 oI C1 oC D1 m₂ h5 tk5 E' hi hv hC hxx F5 N5
      obtain ⟨st, t2, e1, rfl, ht⟩ := hrt i v (by simpa using hv)
      k_steps
      rename Fr _ _ _ _ => zF
      rename News _ _ _ _ => zN
      rename TupAt _ _ _ _ => zt
      rename Apt _ _ => za
      exact ⟨_, _, _, rfl, zF, zN, za, st, e1, zt⟩
    · refine HoldC.mk ?_
      intro T1 yy hl hr
      k_steps
      rename Fr _ _ _ _ => zF
      rename News _ _ _ _ => zN
      refine ⟨rfl, _, yy, yy.length, T1, by rw [hl, List.size_toArray, hvt], fun j y e => ?_, _, _, zF, news_of zN ?_⟩
      · obtain ⟨st, e1, zt⟩ := hr j y e
        refine ⟨st, e1, ?_⟩
        rw [if_neg (by simp [*])]
        exact zt
      · intro p hp
        repeat (rcases List.mem_cons.mp hp with rfl | hp; · first | k_mem | (refine List.mem_cons_of_mem _ (List.mem_append_right _ ?_); k_mem))
        rcases List.mem_append.mp hp with hp | hp
        · exact List.mem_cons_of_mem _ (List.mem_append_left _ hp)
        · refine List.mem_cons_of_mem _ (List.mem_append_right _ ?_)
          repeat (first | exact hp | refine List.Mem.tail _ ?_)
    · rename Fr _ _ _ _ => zF
      rename News _ _ _ _ => zN
      refine ⟨rfl, Dt, vt, vt.length, [], hvt, fun j y e => ?_, _, _, zF, news_of zN ?_⟩
      · obtain ⟨st, t2, e1, e2, ht⟩ := hrt j y e
        refine ⟨st, e1, ?_⟩
        rw [if_pos (by simp [*])]
        exact ⟨t2, e2⟩
      · intro p hp
        repeat (rcases List.mem_cons.mp hp with rfl | hp; · k_mem)
        repeat (first | exact hp | refine List.Mem.tail _ ?_)
    · refine HoldC.mk ?_
      intro i T1 yy v I1 oI C1 oC D1 m₂ h5 tk5 E' hi hv hC hxx F5 N5
      obtain ⟨st, t2, e1, rfl, ht⟩ := hrt i v (by simpa using hv)
      k_steps
      rename Fr _ _ _ _ => zF
      rename News _ _ _ _ => zN
      rename TupAt _ _ _ _ => zt
      rename Apt _ _ => za
      exact ⟨_, _, _, rfl, zF, zN, za, st, e1, zt⟩
    · refine HoldC.mk ?_
      intro T1 yy hl hr
      k_steps
      rename Fr _ _ _ _ => zF
      rename News _ _ _ _ => zN
      refine ⟨rfl, _, yy, yy.length, T1, by rw [hl, List.size_toArray, hvt], fun j y e => ?_, _, _, zF, news_of zN ?_⟩
      · obtain ⟨st, e1, zt⟩ := hr j y e
        refine ⟨st, e1, ?_⟩
        rw [if_neg (by simp [*])]
        exact zt
      · intro p hp
        repeat (rcases List.mem_cons.mp hp with rfl | hp; · first | k_mem | (refine List.mem_cons_of_mem _ (List.mem_append_right _ ?_); k_mem))
        rcases List.mem_append.mp hp with hp | hp
        · exact List.mem_cons_of_mem _ (List.mem_append_left _ hp)
        · refine List.mem_cons_of_mem _ (List.mem_append_right _ ?_)
          repeat (first | exact hp | refine List.Mem.tail _ ?_)
  case k10 =>
  rintro s' ⟨Dd, yd, ed, Td, hyd, hrd, h10, tk10, F10, N10⟩
  clear F9 N9
  refine seqG F10 N10 (fun h₀ L m nw s0 s' => LMid h₀ L s0 m nw s') ?w11 ?k11
  case w11 =>
    k_with_none
    k_with "u lt" => (with_reducible (first | assumption | exact cl0 ‹_› | exact cl1 ‹_› | exact cl2 ‹_› | exact cl3 ‹_› | exact cl4 ‹_› | exact cl5 ‹_› | exact cl6 ‹_› | exact cl7 ‹_› | exact cl8 ‹_› | exact cl9 ‹_› | exact cl10 ‹_› | exact cl11 ‹_› | exact cr1 ‹_› | exact cr2 ‹_› | exact cr3 ‹_› | exact cr4 ‹_› | exact cr5 ‹_› | exact cr6 ‹_› | exact cr7 ‹_› | exact cr8 ‹_› | exact cr9 ‹_› | exact cr10 ‹_› | exact cr11 ‹_›))
    k_with "u room" => (first | exact room3 (by with_reducible assumption) rfl | exact room2 (by with_reducible assumption) rfl | exact room4 (by with_reducible assumption) rfl | exact room1 (by with_reducible assumption) | exact roomc (by with_reducible assumption) rfl | exact roome (by with_reducible assumption) rfl | exact roomd (by with_reducible assumption) rfl | exact roomn rfl | exact Nat.le_of_ble_eq_true rfl)
    k_with "call ref" => ((k_here; k_extra "ct"))
    k_with "u dp" => (((try simp only [depth_deeper, depth_in1, depth_caller]); (try dsimp only); first | walk_at "u room" | omega))
    k_with "u un" => (((try simp only [units_deeper, units_in1, units_caller]); (try dsimp only); first | walk_at "u room" | omega))
    k_with "u end" => (((try k_sweep); (try dsimp only); (try ((fail_if_success (with_reducible show wpAny _ _ _ _ _ _)); refine peel ?_)); (try k_fold)))
    k_with "u om" => (first | walk_at "u lt" | walk_at "u room" | exact Nat.le_of_ble_eq_true rfl | omega)
    k_with "k_ne" => (first | exact NeA.ne (by with_reducible assumption) | exact Ne.symm (NeA.ne (by with_reducible assumption)) | exact Nat.ne_of_gt (by walk_at "u lt") | exact Nat.ne_of_lt (by walk_at "u lt"))
    k_with "k_room" => (((try simp only [depth_under_make, depth_under_kw, depth_in1, depth_deeper, depth_caller, recursionLimit]); (try dsimp only); first | walk_at "u room" | omega))
    k_with "k_units" => (first | ((try simp only [units_in1, units_deeper, Around.mark_units, units_caller]); (try dsimp only); walk_at "u room") | (have hcL9 := cLine_is; (try simp only [units_in1, units_deeper, Around.mark_units, units_caller]); (try dsimp only); omega))
    k_with "om" => (with_reducible ((fail_if_success exact True.intro); (fail_if_success exact not_false); first | decide | exact n_lt0 rfl | exact n_le0 rfl | exact n_ltlt ‹_› rfl | exact n_lelt ‹_› rfl | exact n_lele ‹_› rfl | exact n_ltle ‹_› rfl | exact n_eqlt ‹_› rfl | exact n_lelt2 ‹_› ‹_› rfl | exact n_lelt3 ‹_› ‹_› rfl | exact Int.natCast_nonneg _ | exact i_ngt rfl | exact i_ge ‹_› rfl | exact i_gt ‹_› rfl | exact i_gtn ‹_› rfl | exact i_gt64 ‹_› | exact i_lt ‹_› rfl | exact i_lt64 ‹_› rfl | exact i_lelt ‹_› rfl | exact i_le ‹_› rfl | exact i_ne ‹_› rfl | exact i_nlt ‹_› rfl | exact i_ltn ‹_› ‹_› rfl | exact i_ltn2 ‹_› ‹_› rfl | exact i_neg ‹_› | exact i_eqn ‹_› | exact i_succ ‹_› | exact Int.add_one_le_of_lt ‹_› | exact i_sub_less ‹_› ‹_› | exact i_sub_less2 ‹_› ‹_› ‹_› | exact n_sum ‹_› ‹_› ‹_› ‹_› rfl))
    k_with "k_mem" => (first | exact List.mem_cons_self | with_reducible assumption | (refine List.mem_cons_of_mem _ ?_; k_mem) | (refine List.mem_append_right _ ?_; k_mem))
    k_with "k_all" => (exact AllNe.all (by with_reducible assumption))
    k_with "exec If" => ((k_here; refine wpAny_If ?_))
    k_with "compareOp NotEq ref ref" => ((k_here; k_dflt (k_extra "ne")))
    k_with "call ref" => ((k_here; (with_reducible show wpAny _ _ (call (Value.ref 437) _) _ _ _); k_dflt (refine wpAny_call ?_; refine HoldC.out ?_)))
    k_with "call type:range" => ((k_here; (rename Fr _ _ _ _ => F_q); (rename News _ _ _ _ => N_q); (with_unfolding_all refine range1_rows F_q N_q ?_); intro _ _ _ _ _ rg_q _ _ _))
    k_with "CompSrc" => ((k_here; k_dflt (k_extra "src")))
    k_with "exec Assign cons ListComp" => ((k_here; k_dflt (refine LCg.Assign_ListComp_U (F₀ := by k_asm) (by rfl) (by with_unfolding_all rfl) (by with_unfolding_all rfl) (by decide) (by rfl) (by decide) (by rfl) (by rfl) (by rfl) ?_)))
    k_with "SrcLP" => ((k_here; k_dflt (refine LCp.SrcLP.ledger (by rfl) (by k_asm) (by k_asm) (by k_mem) (by k_extra "size") ?_; intro g_q; k_extra "comp")))
    k_with "eval ListComp Name" => ((k_here; k_dflt (refine LCp.ListComp_P (F₀ := by k_asm) (by with_unfolding_all rfl) (by decide) (by rfl) (by decide) (by rfl) (by rfl) (by decide) ?_)))
    k_with "newList" => ((k_here; (with_reducible show wpAny _ _ (newList _) _ _ _); k_dflt (refine' newList_K ?k1_w10 ?k2_w10 ?_ ?z_w10; (case k1_w10 => k_asm); (case k2_w10 => k_asm); (case z_w10 => exact Nat.le_of_ble_eq_true rfl); k_whole; intro l_q h_q F_q N_q l1; k_lt l1; k_sweep)))
    k_with "subscriptTail Name Constant ref int" => ((k_here; k_dflt (first | ((with_reducible show wpAny _ _ (subscriptTail _ _ (Value.ref _) (Value.int 0 _)) _ _ _); refine pair_0 (by k_asm) (by k_mem) ?_) | ((with_reducible show wpAny _ _ (subscriptTail _ _ (Value.ref _) (Value.int 1 _)) _ _ _); refine pair_1 (by k_asm) (by k_mem) ?_))))
    k_with "compareOp Eq ref ref" => ((k_here; k_dflt (k_extra "eq")))
    k_with "compareOp NotEq bool bool" => ((k_here; k_dflt (refine ne_bool_self ?_)))
    k_with "eval ListComp Call" => ((k_here; k_dflt (refine LCg.ListComp_U (F₀ := by k_asm) (by with_unfolding_all rfl) (by decide) (by rfl) (by decide) (by rfl) ?_)))
    k_with "call builtin:isinstance" => ((k_here; (with_reducible show wpAny _ _ (call _ [_, Value.type "tuple"]) _ _ _); k_dflt (refine' isi_tup ?o_w15 ?N_w15 ?X_w15 ?_; (case N_w15 => k_asm); (case o_w15 => k_extra "oth"); (case X_w15 => k_in); intro _)))
    k_with "ct" => ((with_reducible show wpAny _ _ (call (Value.ref 449) [Value.ref _, Value.ref _]) _ _ _); k_dflt (first | (refine wpAny_call ?_; refine' is_same_code (by k_asm) (by k_asm) (by k_asm) (by k_asm) rfl rfl (by walk_at "u dp") (by walk_at "u un") (by k_asm) (by k_mem) (by k_mem) (by first | with_reducible assumption | exact rfl) (by first | with_reducible assumption | omega | exact rfl) (by first | omega | exact Nat.le_of_ble_eq_true rfl) ?h6 ?_; (case h6 => k_extra "same"); k_whole; intro hp_q tkq_q F_q N_q;  walk_at "u end")))
    k_with "ct" => ((with_reducible show wpAny _ _ (call (Value.ref 430) [Value.str _ _]) _ _ _); k_dflt (first | (refine wpAny_call ?_; refine' numbered_U (by k_asm) (by k_asm) (by k_asm) (by k_asm) rfl rfl (by walk_at "u dp") (by walk_at "u un")  ?_; k_whole; intro vp_q Tp_q hp_q tkq_q kpp_q hh_q fr_q tu_q;  (have ap_q := fresh_apart fr_q (by k_asm : News _ _ _ _)); (have F_q := after_noneF (by k_asm) kpp_q); (have N_q := after_noneN (by k_asm) kpp_q); (replace N_q := new_entries (by k_asm) N_q fr_q hh_q); walk_at "u end")))
    k_with "ct" => ((with_reducible show wpAny _ _ (call (Value.ref 135) [Value.str _ _]) _ _ _); k_dflt (first | (refine wpAny_call ?_; refine' is_equality_code (by k_asm) (by k_asm) (by k_asm) (by k_asm) rfl rfl (by walk_at "u dp") (by walk_at "u un")  ?_; k_whole; intro hp_q tkq_q kpp_q; (have F_q := after_noneF (by k_asm) kpp_q); (have N_q := after_noneN (by k_asm) kpp_q); walk_at "u end")))
    k_with "ct" => ((with_reducible show wpAny _ _ (call (Value.ref 409) [Value.ref _, Value.int _ _]) _ _ _); k_dflt (first | (refine wpAny_call ?_; refine' pick_code (by k_asm) (by k_asm) (by k_asm) (by k_asm) rfl rfl (by walk_at "u dp") (by walk_at "u un") (by exact List.forall_mem_cons.mpr ⟨(by k_asm : News _ _ _ _) _ (by k_mem), List.forall_mem_nil _⟩) (by walk_at "u om") (by walk_at "u om") (by walk_at "u om") (by walk_at "u om") (by walk_at "u om") ?_; k_whole; intro kp_q xp_q yp_q tkp_q t1p_q t2p_q hp_q tkq_q hkp0_q hkp1_q hxp_q hyp0_q hyp1_q kpp_q hbp_q; (have F_q := after_oneF (by k_asm) (by k_asm) (by k_mem) kpp_q); (have N_q := after_oneN (by k_asm) (by k_asm) (U := by k_upd) kpp_q hbp_q); walk_at "u end")))
    k_with "ct" => ((with_reducible show wpAny _ _ (call (Value.ref 416) [Value.ref _, Value.ref _]) _ _ _); k_dflt (first | (refine wpAny_call ?_; refine' one_code (by k_asm) (by k_asm) (by k_asm) (by k_asm) rfl rfl (by walk_at "u dp") (by walk_at "u un") (by exact List.forall_mem_cons.mpr ⟨(by k_asm : News _ _ _ _) _ (by k_mem), List.forall_mem_cons.mpr ⟨(by k_asm : News _ _ _ _) _ (by k_mem), List.forall_mem_nil _⟩⟩) (by (first | k_ne | omega)) (by walk_at "u om") (by walk_at "u om") (by walk_at "u om") (by (first | omega | decide | (simp only [List.length_cons, List.length_nil]; omega))) (by (first | omega | decide | (simp only [List.length_cons, List.length_nil]; omega))) ?_; k_whole; intro vp_q xp_q yp_q t1p_q t2p_q hp_q tkq_q hvp_q hxp_q hyp0_q hyp1_q kpp_q hbp_q; (have F_q := after_oneF (by k_asm) (by k_asm) (by k_mem) kpp_q); (have N_q := after_oneN (by k_asm) (by k_asm) (U := by k_upd) kpp_q hbp_q); walk_at "u end")))
    k_with "ct" => ((with_reducible show wpAny _ _ (call (Value.ref 444) [Value.ref _]) _ _ _); k_dflt (first | (refine wpAny_call ?_; refine' plain_code (by k_asm) (by k_asm) (by k_asm) (by k_asm) rfl rfl (by walk_at "u dp") (by walk_at "u un") (by exact List.forall_mem_cons.mpr ⟨(by k_asm : News _ _ _ _) _ (by k_mem), List.forall_mem_nil _⟩) (by walk_at "u om") (by walk_at "u om") (by walk_at "u om") ?_; k_whole; intro ap_q aq_q vp_q pp_q qp_q t3p_q t4p_q xp_q yp_q t1p_q t2p_q hp_q tkq_q he1_q he2_q hbp_q kpp_q hn1_q hn2_q hpv_q hxp_q hyp0_q hyp1_q; (have F_q := after_oneF (by k_asm) (by k_asm) (by k_mem) kpp_q); (have N_q := after_oneN (by k_asm) (by k_asm) (U := by k_upd) kpp_q hbp_q); (have ne1_q := allNe_of hn1_q (by k_asm : News _ _ _ _)); (have ne2_q := allNe_of hn2_q (by k_asm : News _ _ _ _)); (replace N_q := new_entry (by k_asm) (new_entry (by k_asm) N_q hn2_q he2_q) hn1_q he1_q); (simp only [AllNe, and_true] at ne1_q ne2_q); (repeat (have _ := And.left ne1_q; replace ne1_q := And.right ne1_q)); (repeat (have _ := And.left ne2_q; replace ne2_q := And.right ne2_q)); walk_at "u end")))
    k_with "ct" => ((with_reducible show wpAny _ _ (call (Value.ref 145) [Value.ref _, Value.ref _]) _ _ _); k_dflt (first | (refine wpAny_call ?_; refine' texts_of_code (by k_asm) (by k_asm) (by k_asm) (by k_asm) rfl rfl (by walk_at "u dp") (by walk_at "u un") (by with_reducible assumption) (by k_asm) ?h1 ?h2 ?h3 ?h4 ?h5 ?h6 ?_; (case h1 => exact (fun p hp => by (repeat (first | exact hp | exact (by k_extra "sub") | refine List.Mem.tail _ ?_)))); (case h2 => k_mem); (case h3 => first | with_reducible assumption | exact rfl); (case h4 => first | with_reducible assumption | omega | (simp only [List.length_append, List.length_set, List.length_cons, List.length_nil]; omega) | exact (by decide)); (case h5 => k_extra "nvs"); (case h6 => first | with_reducible assumption | omega | (simp only [List.length_append, List.length_set, List.length_cons, List.length_nil]; omega) | exact (by decide)); k_whole; intro lp_q ysp_q hp_q tkq_q hly_q hty_q F_q N_q;  walk_at "u end")))
    k_with "ct" => ((with_reducible show wpAny _ _ (call (Value.ref 152) [Value.str _ _, _, _, Value.ref _]) _ _ _); k_dflt (first | (refine wpAny_call ?_; refine' listed_val (by k_asm) (by k_asm) (by k_asm) (by k_asm) rfl rfl (by walk_at "u dp") (by walk_at "u un") (by k_asm) ?h1 ?_; (case h1 => k_extra "numv"); k_whole; intro lp_q yp_q ep_q Tp_q hp_q tkq_q hyp_q F_q N_q;  walk_at "u end")))
    k_with "ct" => ((with_reducible show wpAny _ _ (call (Value.ref 152) [Value.str _ _, Value.ref _, _, Value.ref _]) _ _ _); k_dflt (first | (refine wpAny_call ?_; refine' listed_list (by k_asm) (by k_asm) (by k_asm) (by k_asm) rfl rfl (by walk_at "u dp") (by walk_at "u un") (by with_reducible assumption) (by k_asm) ?h1 ?h2 ?h3 ?h4 ?h5 ?h6 ?h7 ?_; (case h1 => exact (fun p hp => by (repeat (first | exact hp | exact (by k_extra "sub") | refine List.Mem.tail _ ?_)))); (case h2 => k_mem); (case h3 => first | with_reducible assumption | exact rfl); (case h4 => first | with_reducible assumption | omega | (simp only [List.length_append, List.length_set, List.length_cons, List.length_nil]; omega) | exact (by decide)); (case h5 => k_extra "nvs"); (case h6 => first | with_reducible assumption | omega | (simp only [List.length_append, List.length_set, List.length_cons, List.length_nil]; omega) | exact (by decide)); (case h7 => k_extra "oth"); k_whole; intro lp_q ysp_q ep_q Tp_q hp_q tkq_q hly_q hty_q F_q N_q;  walk_at "u end")))
    k_with "ct" => ((with_reducible show wpAny _ _ (call (Value.ref 140) [Value.str _ _, Value.ref _, _]) _ _ _); k_dflt (first | (refine wpAny_call ?_; refine' as_compared_code (by k_asm) (by k_asm) (by k_asm) (by k_asm) rfl rfl (by walk_at "u dp") (by walk_at "u un") (by k_asm) (by k_mem) (by first | with_reducible assumption | exact rfl) (by first | with_reducible assumption | omega | (simp only [List.length_append, List.length_set, List.length_cons, List.length_nil]; omega) | exact (by decide)) ?h4 ?h5 ?_; (case h4 => k_extra "vs"); (case h5 => k_extra "oth"); k_whole; intro lp_q ysp_q ep_q Tp_q hp_q tkq_q hly_q hty_q F_q N_q;  walk_at "u end")))
    k_with "ct" => ((with_reducible show wpAny _ _ (call (Value.ref 402) [Value.ref _]) _ _ _); k_dflt (first | (refine wpAny_call ?_; refine' bag_U (by k_asm) (by k_asm) (by k_asm) (by k_asm) rfl rfl (by walk_at "u dp") (by walk_at "u un") (by assumption) (by assumption) ?_; k_whole; intro bp_q xp_q yp_q t1p_q t2p_q hp_q tkq_q hep_q kpp_q hn1_q hxp_q hyp0_q hyp1_q; (have F_q := after_noneF (by k_asm) kpp_q); (have N_q := after_noneN (by k_asm) kpp_q); (have ne1_q := allNe_of hn1_q (by k_asm : News _ _ _ _)); (replace N_q := new_entry (by k_asm) N_q hn1_q hep_q); (simp only [AllNe, and_true] at ne1_q); (repeat (have _ := And.left ne1_q; replace ne1_q := And.right ne1_q)); walk_at "u end")))
    k_with "vs" => exact hrt
    k_with "oth" => exact Oth.more ho2 (List.forall_mem_cons.mpr ⟨by k_mem, List.forall_mem_nil _⟩)
    k_with "same" =>
      rename (∀ (j : Nat) (y : Value), _ → ToldAt (eqb op && !tp2) _ sts j y) => lt'
      exact fun i x y ex ey => same_told (lt' i x ex) (hrd i y ey) (fun p hp => List.mem_cons_of_mem _ (List.mem_append_left _ hp)) (fun p hp => by (repeat (first | exact List.mem_append_left _ hp | refine List.mem_append_right _ ?_ | refine List.Mem.tail _ ?_)))
    k_steps
    rename Fr _ _ _ _ => zF
    rename News _ _ _ _ => zN
    exact ⟨rfl, _, _, zF, news_of zN (fun p hp => by (repeat (first | exact hp | refine List.Mem.tail _ ?_ | refine List.mem_append_right _ ?_)))⟩
  case k11 =>
  rintro s' ⟨h11, tk11, F11, N11⟩
  clear F10 N10
  refine seqG F11 N11 (fun h₀ L m nw s0 s' => LMid h₀ L s0 m nw s') ?w12 ?k12
  case w12 =>
    k_with_none
    k_with "u lt" => (with_reducible (first | assumption | exact cl0 ‹_› | exact cl1 ‹_› | exact cl2 ‹_› | exact cl3 ‹_› | exact cl4 ‹_› | exact cl5 ‹_› | exact cl6 ‹_› | exact cl7 ‹_› | exact cl8 ‹_› | exact cl9 ‹_› | exact cl10 ‹_› | exact cl11 ‹_› | exact cr1 ‹_› | exact cr2 ‹_› | exact cr3 ‹_› | exact cr4 ‹_› | exact cr5 ‹_› | exact cr6 ‹_› | exact cr7 ‹_› | exact cr8 ‹_› | exact cr9 ‹_› | exact cr10 ‹_› | exact cr11 ‹_›))
    k_with "u room" => (first | exact room3 (by with_reducible assumption) rfl | exact room2 (by with_reducible assumption) rfl | exact room4 (by with_reducible assumption) rfl | exact room1 (by with_reducible assumption) | exact roomc (by with_reducible assumption) rfl | exact roome (by with_reducible assumption) rfl | exact roomd (by with_reducible assumption) rfl | exact roomn rfl | exact Nat.le_of_ble_eq_true rfl)
    k_with "call ref" => ((k_here; k_extra "ct"))
    k_with "u dp" => (((try simp only [depth_deeper, depth_in1, depth_caller]); (try dsimp only); first | walk_at "u room" | omega))
    k_with "u un" => (((try simp only [units_deeper, units_in1, units_caller]); (try dsimp only); first | walk_at "u room" | omega))
    k_with "u end" => (((try k_sweep); (try dsimp only); (try ((fail_if_success (with_reducible show wpAny _ _ _ _ _ _)); refine peel ?_)); (try k_fold)))
    k_with "u om" => (first | walk_at "u lt" | walk_at "u room" | exact Nat.le_of_ble_eq_true rfl | omega)
    k_with "k_ne" => (first | exact NeA.ne (by with_reducible assumption) | exact Ne.symm (NeA.ne (by with_reducible assumption)) | exact Nat.ne_of_gt (by walk_at "u lt") | exact Nat.ne_of_lt (by walk_at "u lt"))
    k_with "k_room" => (((try simp only [depth_under_make, depth_under_kw, depth_in1, depth_deeper, depth_caller, recursionLimit]); (try dsimp only); first | walk_at "u room" | omega))
    k_with "k_units" => (first | ((try simp only [units_in1, units_deeper, Around.mark_units, units_caller]); (try dsimp only); walk_at "u room") | (have hcL9 := cLine_is; (try simp only [units_in1, units_deeper, Around.mark_units, units_caller]); (try dsimp only); omega))
    k_with "om" => (with_reducible ((fail_if_success exact True.intro); (fail_if_success exact not_false); first | decide | exact n_lt0 rfl | exact n_le0 rfl | exact n_ltlt ‹_› rfl | exact n_lelt ‹_› rfl | exact n_lele ‹_› rfl | exact n_ltle ‹_› rfl | exact n_eqlt ‹_› rfl | exact n_lelt2 ‹_› ‹_› rfl | exact n_lelt3 ‹_› ‹_› rfl | exact Int.natCast_nonneg _ | exact i_ngt rfl | exact i_ge ‹_› rfl | exact i_gt ‹_› rfl | exact i_gtn ‹_› rfl | exact i_gt64 ‹_› | exact i_lt ‹_› rfl | exact i_lt64 ‹_› rfl | exact i_lelt ‹_› rfl | exact i_le ‹_› rfl | exact i_ne ‹_› rfl | exact i_nlt ‹_› rfl | exact i_ltn ‹_› ‹_› rfl | exact i_ltn2 ‹_› ‹_› rfl | exact i_neg ‹_› | exact i_eqn ‹_› | exact i_succ ‹_› | exact Int.add_one_le_of_lt ‹_› | exact i_sub_less ‹_› ‹_› | exact i_sub_less2 ‹_› ‹_› ‹_› | exact n_sum ‹_› ‹_› ‹_› ‹_› rfl))
    k_with "k_mem" => (first | exact List.mem_cons_self | with_reducible assumption | (refine List.mem_cons_of_mem _ ?_; k_mem) | (refine List.mem_append_right _ ?_; k_mem))
    k_with "k_all" => (exact AllNe.all (by with_reducible assumption))
    k_with "exec If" => ((k_here; refine wpAny_If ?_))
    k_with "compareOp NotEq ref ref" => ((k_here; k_dflt (k_extra "ne")))
    k_with "call ref" => ((k_here; (with_reducible show wpAny _ _ (call (Value.ref 437) _) _ _ _); k_dflt (refine wpAny_call ?_; refine HoldC.out ?_)))
    k_with "call type:range" => ((k_here; (rename Fr _ _ _ _ => F_q); (rename News _ _ _ _ => N_q); (with_unfolding_all refine range1_rows F_q N_q ?_); intro _ _ _ _ _ rg_q _ _ _))
    k_with "CompSrc" => ((k_here; k_dflt (k_extra "src")))
    k_with "exec Assign cons ListComp" => ((k_here; k_dflt (refine LCg.Assign_ListComp_U (F₀ := by k_asm) (by rfl) (by with_unfolding_all rfl) (by with_unfolding_all rfl) (by decide) (by rfl) (by decide) (by rfl) (by rfl) (by rfl) ?_)))
    k_with "SrcLP" => ((k_here; k_dflt (refine LCp.SrcLP.ledger (by rfl) (by k_asm) (by k_asm) (by k_mem) (by k_extra "size") ?_; intro g_q; k_extra "comp")))
    k_with "eval ListComp Name" => ((k_here; k_dflt (refine LCp.ListComp_P (F₀ := by k_asm) (by with_unfolding_all rfl) (by decide) (by rfl) (by decide) (by rfl) (by rfl) (by decide) ?_)))
    k_with "newList" => ((k_here; (with_reducible show wpAny _ _ (newList _) _ _ _); k_dflt (refine' newList_K ?k1_w10 ?k2_w10 ?_ ?z_w10; (case k1_w10 => k_asm); (case k2_w10 => k_asm); (case z_w10 => exact Nat.le_of_ble_eq_true rfl); k_whole; intro l_q h_q F_q N_q l1; k_lt l1; k_sweep)))
    k_with "subscriptTail Name Constant ref int" => ((k_here; k_dflt (first | ((with_reducible show wpAny _ _ (subscriptTail _ _ (Value.ref _) (Value.int 0 _)) _ _ _); refine pair_0 (by k_asm) (by k_mem) ?_) | ((with_reducible show wpAny _ _ (subscriptTail _ _ (Value.ref _) (Value.int 1 _)) _ _ _); refine pair_1 (by k_asm) (by k_mem) ?_))))
    k_with "compareOp Eq ref ref" => ((k_here; k_dflt (k_extra "eq")))
    k_with "compareOp NotEq bool bool" => ((k_here; k_dflt (refine ne_bool_self ?_)))
    k_with "eval ListComp Call" => ((k_here; k_dflt (refine LCg.ListComp_U (F₀ := by k_asm) (by with_unfolding_all rfl) (by decide) (by rfl) (by decide) (by rfl) ?_)))
    k_with "call builtin:isinstance" => ((k_here; (with_reducible show wpAny _ _ (call _ [_, Value.type "tuple"]) _ _ _); k_dflt (refine' isi_tup ?o_w15 ?N_w15 ?X_w15 ?_; (case N_w15 => k_asm); (case o_w15 => k_extra "oth"); (case X_w15 => k_in); intro _)))
    k_with "ct" => ((with_reducible show wpAny _ _ (call (Value.ref 449) [Value.ref _, Value.ref _]) _ _ _); k_dflt (first | (refine wpAny_call ?_; refine' is_same_code (by k_asm) (by k_asm) (by k_asm) (by k_asm) rfl rfl (by walk_at "u dp") (by walk_at "u un") (by k_asm) (by k_mem) (by k_mem) (by first | with_reducible assumption | exact rfl) (by first | with_reducible assumption | omega | exact rfl) (by first | omega | exact Nat.le_of_ble_eq_true rfl) ?h6 ?_; (case h6 => k_extra "same"); k_whole; intro hp_q tkq_q F_q N_q;  walk_at "u end")))
    k_with "ct" => ((with_reducible show wpAny _ _ (call (Value.ref 430) [Value.str _ _]) _ _ _); k_dflt (first | (refine wpAny_call ?_; refine' numbered_U (by k_asm) (by k_asm) (by k_asm) (by k_asm) rfl rfl (by walk_at "u dp") (by walk_at "u un")  ?_; k_whole; intro vp_q Tp_q hp_q tkq_q kpp_q hh_q fr_q tu_q;  (have ap_q := fresh_apart fr_q (by k_asm : News _ _ _ _)); (have F_q := after_noneF (by k_asm) kpp_q); (have N_q := after_noneN (by k_asm) kpp_q); (replace N_q := new_entries (by k_asm) N_q fr_q hh_q); walk_at "u end")))
    k_with "ct" => ((with_reducible show wpAny _ _ (call (Value.ref 135) [Value.str _ _]) _ _ _); k_dflt (first | (refine wpAny_call ?_; refine' is_equality_code (by k_asm) (by k_asm) (by k_asm) (by k_asm) rfl rfl (by walk_at "u dp") (by walk_at "u un")  ?_; k_whole; intro hp_q tkq_q kpp_q; (have F_q := after_noneF (by k_asm) kpp_q); (have N_q := after_noneN (by k_asm) kpp_q); walk_at "u end")))
    k_with "ct" => ((with_reducible show wpAny _ _ (call (Value.ref 409) [Value.ref _, Value.int _ _]) _ _ _); k_dflt (first | (refine wpAny_call ?_; refine' pick_code (by k_asm) (by k_asm) (by k_asm) (by k_asm) rfl rfl (by walk_at "u dp") (by walk_at "u un") (by exact List.forall_mem_cons.mpr ⟨(by k_asm : News _ _ _ _) _ (by k_mem), List.forall_mem_nil _⟩) (by walk_at "u om") (by walk_at "u om") (by walk_at "u om") (by walk_at "u om") (by walk_at "u om") ?_; k_whole; intro kp_q xp_q yp_q tkp_q t1p_q t2p_q hp_q tkq_q hkp0_q hkp1_q hxp_q hyp0_q hyp1_q kpp_q hbp_q; (have F_q := after_oneF (by k_asm) (by k_asm) (by k_mem) kpp_q); (have N_q := after_oneN (by k_asm) (by k_asm) (U := by k_upd) kpp_q hbp_q); walk_at "u end")))
    k_with "ct" => ((with_reducible show wpAny _ _ (call (Value.ref 416) [Value.ref _, Value.ref _]) _ _ _); k_dflt (first | (refine wpAny_call ?_; refine' one_code (by k_asm) (by k_asm) (by k_asm) (by k_asm) rfl rfl (by walk_at "u dp") (by walk_at "u un") (by exact List.forall_mem_cons.mpr ⟨(by k_asm : News _ _ _ _) _ (by k_mem), List.forall_mem_cons.mpr ⟨(by k_asm : News _ _ _ _) _ (by k_mem), List.forall_mem_nil _⟩⟩) (by (first | k_ne | omega)) (by walk_at "u om") (by walk_at "u om") (by walk_at "u om") (by (first | omega | decide | (simp only [List.length_cons, List.length_nil]; omega))) (by (first | omega | decide | (simp only [List.length_cons, List.length_nil]; omega))) ?_; k_whole; intro vp_q xp_q yp_q t1p_q t2p_q hp_q tkq_q hvp_q hxp_q hyp0_q hyp1_q kpp_q hbp_q; (have F_q := after_oneF (by k_asm) (by k_asm) (by k_mem) kpp_q); (have N_q := after_oneN (by k_asm) (by k_asm) (U := by k_upd) kpp_q hbp_q); walk_at "u end")))
    k_with "ct" => ((with_reducible show wpAny _ _ (call (Value.ref 444) [Value.ref _]) _ _ _); k_dflt (first | (refine wpAny_call ?_; refine' plain_code (by k_asm) (by k_asm) (by k_asm) (by k_asm) rfl rfl (by walk_at "u dp") (by walk_at "u un") (by exact List.forall_mem_cons.mpr ⟨(by k_asm : News _ _ _ _) _ (by k_mem), List.forall_mem_nil _⟩) (by walk_at "u om") (by walk_at "u om") (by walk_at "u om") ?_; k_whole; intro ap_q aq_q vp_q pp_q qp_q t3p_q t4p_q xp_q yp_q t1p_q t2p_q hp_q tkq_q he1_q he2_q hbp_q kpp_q hn1_q hn2_q hpv_q hxp_q hyp0_q hyp1_q; (have F_q := after_oneF (by k_asm) (by k_asm) (by k_mem) kpp_q); (have N_q := after_oneN (by k_asm) (by k_asm) (U := by k_upd) kpp_q hbp_q); (have ne1_q := allNe_of hn1_q (by k_asm : News _ _ _ _)); (have ne2_q := allNe_of hn2_q (by k_asm : News _ _ _ _)); (replace N_q := new_entry (by k_asm) (new_entry (by k_asm) N_q hn2_q he2_q) hn1_q he1_q); (simp only [AllNe, and_true] at ne1_q ne2_q); (repeat (have _ := And.left ne1_q; replace ne1_q := And.right ne1_q)); (repeat (have _ := And.left ne2_q; replace ne2_q := And.right ne2_q)); walk_at "u end")))
    k_with "ct" => ((with_reducible show wpAny _ _ (call (Value.ref 145) [Value.ref _, Value.ref _]) _ _ _); k_dflt (first | (refine wpAny_call ?_; refine' texts_of_code (by k_asm) (by k_asm) (by k_asm) (by k_asm) rfl rfl (by walk_at "u dp") (by walk_at "u un") (by with_reducible assumption) (by k_asm) ?h1 ?h2 ?h3 ?h4 ?h5 ?h6 ?_; (case h1 => exact (fun p hp => by (repeat (first | exact hp | exact (by k_extra "sub") | refine List.Mem.tail _ ?_)))); (case h2 => k_mem); (case h3 => first | with_reducible assumption | exact rfl); (case h4 => first | with_reducible assumption | omega | (simp only [List.length_append, List.length_set, List.length_cons, List.length_nil]; omega) | exact (by decide)); (case h5 => k_extra "nvs"); (case h6 => first | with_reducible assumption | omega | (simp only [List.length_append, List.length_set, List.length_cons, List.length_nil]; omega) | exact (by decide)); k_whole; intro lp_q ysp_q hp_q tkq_q hly_q hty_q F_q N_q;  walk_at "u end")))
    k_with "ct" => ((with_reducible show wpAny _ _ (call (Value.ref 152) [Value.str _ _, _, _, Value.ref _]) _ _ _); k_dflt (first | (refine wpAny_call ?_; refine' listed_val (by k_asm) (by k_asm) (by k_asm) (by k_asm) rfl rfl (by walk_at "u dp") (by walk_at "u un") (by k_asm) ?h1 ?_; (case h1 => k_extra "numv"); k_whole; intro lp_q yp_q ep_q Tp_q hp_q tkq_q hyp_q F_q N_q;  walk_at "u end")))
    k_with "ct" => ((with_reducible show wpAny _ _ (call (Value.ref 152) [Value.str _ _, Value.ref _, _, Value.ref _]) _ _ _); k_dflt (first | (refine wpAny_call ?_; refine' listed_list (by k_asm) (by k_asm) (by k_asm) (by k_asm) rfl rfl (by walk_at "u dp") (by walk_at "u un") (by with_reducible assumption) (by k_asm) ?h1 ?h2 ?h3 ?h4 ?h5 ?h6 ?h7 ?_; (case h1 => exact (fun p hp => by (repeat (first | exact hp | exact (by k_extra "sub") | refine List.Mem.tail _ ?_)))); (case h2 => k_mem); (case h3 => first | with_reducible assumption | exact rfl); (case h4 => first | with_reducible assumption | omega | (simp only [List.length_append, List.length_set, List.length_cons, List.length_nil]; omega) | exact (by decide)); (case h5 => k_extra "nvs"); (case h6 => first | with_reducible assumption | omega | (simp only [List.length_append, List.length_set, List.length_cons, List.length_nil]; omega) | exact (by decide)); (case h7 => k_extra "oth"); k_whole; intro lp_q ysp_q ep_q Tp_q hp_q tkq_q hly_q hty_q F_q N_q;  walk_at "u end")))
    k_with "ct" => ((with_reducible show wpAny _ _ (call (Value.ref 140) [Value.str _ _, Value.ref _, _]) _ _ _); k_dflt (first | (refine wpAny_call ?_; refine' as_compared_code (by k_asm) (by k_asm) (by k_asm) (by k_asm) rfl rfl (by walk_at "u dp") (by walk_at "u un") (by k_asm) (by k_mem) (by first | with_reducible assumption | exact rfl) (by first | with_reducible assumption | omega | (simp only [List.length_append, List.length_set, List.length_cons, List.length_nil]; omega) | exact (by decide)) ?h4 ?h5 ?_; (case h4 => k_extra "vs"); (case h5 => k_extra "oth"); k_whole; intro lp_q ysp_q ep_q Tp_q hp_q tkq_q hly_q hty_q F_q N_q;  walk_at "u end")))
    k_with "ct" => ((with_reducible show wpAny _ _ (call (Value.ref 402) [Value.ref _]) _ _ _); k_dflt (first | (refine wpAny_call ?_; refine' bag_U (by k_asm) (by k_asm) (by k_asm) (by k_asm) rfl rfl (by walk_at "u dp") (by walk_at "u un") (by assumption) (by assumption) ?_; k_whole; intro bp_q xp_q yp_q t1p_q t2p_q hp_q tkq_q hep_q kpp_q hn1_q hxp_q hyp0_q hyp1_q; (have F_q := after_noneF (by k_asm) kpp_q); (have N_q := after_noneN (by k_asm) kpp_q); (have ne1_q := allNe_of hn1_q (by k_asm : News _ _ _ _)); (replace N_q := new_entry (by k_asm) N_q hn1_q hep_q); (simp only [AllNe, and_true] at ne1_q); (repeat (have _ := And.left ne1_q; replace ne1_q := And.right ne1_q)); walk_at "u end")))
    k_with "sub" => exact List.mem_append_right _ (by assumption)
    k_with "nvs" => exact hnv
    k_with "oth" => exact Oth.more ho2 (List.forall_mem_cons.mpr ⟨by k_mem, List.forall_mem_nil _⟩)
    k_with "same" =>
      rename (∀ (j : Nat) (y : Value), _ → ToldAt (eqb op && !tp2) _ sts j y) => lt'
      exact fun i x y ex ey => same_told (lt' i x ex) (hrd i y ey) (fun p hp => List.mem_cons_of_mem _ (List.mem_append_left _ hp)) (fun p hp => by (repeat (first | exact List.mem_append_left _ hp | refine List.mem_append_right _ ?_ | refine List.Mem.tail _ ?_)))
    k_steps
    rename Fr _ _ _ _ => zF
    rename News _ _ _ _ => zN
    exact ⟨rfl, _, _, zF, news_of zN (fun p hp => by (repeat (first | exact hp | refine List.Mem.tail _ ?_ | refine List.mem_append_right _ ?_)))⟩
  case k12 =>
  rintro s' ⟨h12, tk12, F12, N12⟩
  clear F11 N11 hrd hyd
  refine seqG F12 N12 (fun h₀ L m nw s0 s' => ∃ (Dd : Addr) (yd : List Value) (ed : Nat) (T : Led), yd.length = ys.length ∧ (∀ (j : Nat) (y : Value), yd[j]? = some y → ToldAt (eqb op) T sts j y) ∧
    LMid h₀ L s0 (fun z => if z = Str.ofString "due" then some (.ref Dd) else m z)
      ((D, LCg.lst ys) :: (Dn, LCg.lst vn) :: (Dt, LCg.lst vt) :: (a1, tupO [v1, .ref c1]) :: (c1, tupO [.int p1 u1, .int q1 u2]) :: (a2, tupO [v2, .ref c2]) :: (c2, tupO [.int p2 u3, .int q2 u4]) :: (Dd, W.listOf yd.toArray ed) :: (T ++ OL)) s') ?w13 ?k13
  case w13 =>
    k_with_none
    k_with "u lt" => (with_reducible (first | assumption | exact cl0 ‹_› | exact cl1 ‹_› | exact cl2 ‹_› | exact cl3 ‹_› | exact cl4 ‹_› | exact cl5 ‹_› | exact cl6 ‹_› | exact cl7 ‹_› | exact cl8 ‹_› | exact cl9 ‹_› | exact cl10 ‹_› | exact cl11 ‹_› | exact cr1 ‹_› | exact cr2 ‹_› | exact cr3 ‹_› | exact cr4 ‹_› | exact cr5 ‹_› | exact cr6 ‹_› | exact cr7 ‹_› | exact cr8 ‹_› | exact cr9 ‹_› | exact cr10 ‹_› | exact cr11 ‹_›))
    k_with "u room" => (first | exact room3 (by with_reducible assumption) rfl | exact room2 (by with_reducible assumption) rfl | exact room4 (by with_reducible assumption) rfl | exact room1 (by with_reducible assumption) | exact roomc (by with_reducible assumption) rfl | exact roome (by with_reducible assumption) rfl | exact roomd (by with_reducible assumption) rfl | exact roomn rfl | exact Nat.le_of_ble_eq_true rfl)
    k_with "call ref" => ((k_here; k_extra "ct"))
    k_with "u dp" => (((try simp only [depth_deeper, depth_in1, depth_caller]); (try dsimp only); first | walk_at "u room" | omega))
    k_with "u un" => (((try simp only [units_deeper, units_in1, units_caller]); (try dsimp only); first | walk_at "u room" | omega))
    k_with "u end" => (((try k_sweep); (try dsimp only); (try ((fail_if_success (with_reducible show wpAny _ _ _ _ _ _)); refine peel ?_)); (try k_fold)))
    k_with "u om" => (first | walk_at "u lt" | walk_at "u room" | exact Nat.le_of_ble_eq_true rfl | omega)
    k_with "k_ne" => (first | exact NeA.ne (by with_reducible assumption) | exact Ne.symm (NeA.ne (by with_reducible assumption)) | exact Nat.ne_of_gt (by walk_at "u lt") | exact Nat.ne_of_lt (by walk_at "u lt"))
    k_with "k_room" => (((try simp only [depth_under_make, depth_under_kw, depth_in1, depth_deeper, depth_caller, recursionLimit]); (try dsimp only); first | walk_at "u room" | omega))
    k_with "k_units" => (first | ((try simp only [units_in1, units_deeper, Around.mark_units, units_caller]); (try dsimp only); walk_at "u room") | (have hcL9 := cLine_is; (try simp only [units_in1, units_deeper, Around.mark_units, units_caller]); (try dsimp only); omega))
    k_with "om" => (with_reducible ((fail_if_success exact True.intro); (fail_if_success exact not_false); first | decide | exact n_lt0 rfl | exact n_le0 rfl | exact n_ltlt ‹_› rfl | exact n_lelt ‹_› rfl | exact n_lele ‹_› rfl | exact n_ltle ‹_› rfl | exact n_eqlt ‹_› rfl | exact n_lelt2 ‹_› ‹_› rfl | exact n_lelt3 ‹_› ‹_› rfl | exact Int.natCast_nonneg _ | exact i_ngt rfl | exact i_ge ‹_› rfl | exact i_gt ‹_› rfl | exact i_gtn ‹_› rfl | exact i_gt64 ‹_› | exact i_lt ‹_› rfl | exact i_lt64 ‹_› rfl | exact i_lelt ‹_› rfl | exact i_le ‹_› rfl | exact i_ne ‹_› rfl | exact i_nlt ‹_› rfl | exact i_ltn ‹_› ‹_› rfl | exact i_ltn2 ‹_› ‹_› rfl | exact i_neg ‹_› | exact i_eqn ‹_› | exact i_succ ‹_› | exact Int.add_one_le_of_lt ‹_› | exact i_sub_less ‹_› ‹_› | exact i_sub_less2 ‹_› ‹_› ‹_› | exact n_sum ‹_› ‹_› ‹_› ‹_› rfl))
    k_with "k_mem" => (first | exact List.mem_cons_self | with_reducible assumption | (refine List.mem_cons_of_mem _ ?_; k_mem) | (refine List.mem_append_right _ ?_; k_mem))
    k_with "k_all" => (exact AllNe.all (by with_reducible assumption))
    k_with "exec If" => ((k_here; refine wpAny_If ?_))
    k_with "compareOp NotEq ref ref" => ((k_here; k_dflt (k_extra "ne")))
    k_with "call ref" => ((k_here; (with_reducible show wpAny _ _ (call (Value.ref 437) _) _ _ _); k_dflt (refine wpAny_call ?_; refine HoldC.out ?_)))
    k_with "call type:range" => ((k_here; (rename Fr _ _ _ _ => F_q); (rename News _ _ _ _ => N_q); (with_unfolding_all refine range1_rows F_q N_q ?_); intro _ _ _ _ _ rg_q _ _ _))
    k_with "CompSrc" => ((k_here; k_dflt (k_extra "src")))
    k_with "exec Assign cons ListComp" => ((k_here; k_dflt (refine LCg.Assign_ListComp_U (F₀ := by k_asm) (by rfl) (by with_unfolding_all rfl) (by with_unfolding_all rfl) (by decide) (by rfl) (by decide) (by rfl) (by rfl) (by rfl) ?_)))
    k_with "SrcLP" => ((k_here; k_dflt (refine LCp.SrcLP.ledger (by rfl) (by k_asm) (by k_asm) (by k_mem) (by k_extra "size") ?_; intro g_q; k_extra "comp")))
    k_with "eval ListComp Name" => ((k_here; k_dflt (refine LCp.ListComp_P (F₀ := by k_asm) (by with_unfolding_all rfl) (by decide) (by rfl) (by decide) (by rfl) (by rfl) (by decide) ?_)))
    k_with "newList" => ((k_here; (with_reducible show wpAny _ _ (newList _) _ _ _); k_dflt (refine' newList_K ?k1_w10 ?k2_w10 ?_ ?z_w10; (case k1_w10 => k_asm); (case k2_w10 => k_asm); (case z_w10 => exact Nat.le_of_ble_eq_true rfl); k_whole; intro l_q h_q F_q N_q l1; k_lt l1; k_sweep)))
    k_with "subscriptTail Name Constant ref int" => ((k_here; k_dflt (first | ((with_reducible show wpAny _ _ (subscriptTail _ _ (Value.ref _) (Value.int 0 _)) _ _ _); refine pair_0 (by k_asm) (by k_mem) ?_) | ((with_reducible show wpAny _ _ (subscriptTail _ _ (Value.ref _) (Value.int 1 _)) _ _ _); refine pair_1 (by k_asm) (by k_mem) ?_))))
    k_with "compareOp Eq ref ref" => ((k_here; k_dflt (k_extra "eq")))
    k_with "compareOp NotEq bool bool" => ((k_here; k_dflt (refine ne_bool_self ?_)))
    k_with "eval ListComp Call" => ((k_here; k_dflt (refine LCg.ListComp_U (F₀ := by k_asm) (by with_unfolding_all rfl) (by decide) (by rfl) (by decide) (by rfl) ?_)))
    k_with "call builtin:isinstance" => ((k_here; (with_reducible show wpAny _ _ (call _ [_, Value.type "tuple"]) _ _ _); k_dflt (refine' isi_tup ?o_w15 ?N_w15 ?X_w15 ?_; (case N_w15 => k_asm); (case o_w15 => k_extra "oth"); (case X_w15 => k_in); intro _)))
    k_with "ct" => ((with_reducible show wpAny _ _ (call (Value.ref 449) [Value.ref _, Value.ref _]) _ _ _); k_dflt (first | (refine wpAny_call ?_; refine' is_same_code (by k_asm) (by k_asm) (by k_asm) (by k_asm) rfl rfl (by walk_at "u dp") (by walk_at "u un") (by k_asm) (by k_mem) (by k_mem) (by first | with_reducible assumption | exact rfl) (by first | with_reducible assumption | omega | exact rfl) (by first | omega | exact Nat.le_of_ble_eq_true rfl) ?h6 ?_; (case h6 => k_extra "same"); k_whole; intro hp_q tkq_q F_q N_q;  walk_at "u end")))
    k_with "ct" => ((with_reducible show wpAny _ _ (call (Value.ref 430) [Value.str _ _]) _ _ _); k_dflt (first | (refine wpAny_call ?_; refine' numbered_U (by k_asm) (by k_asm) (by k_asm) (by k_asm) rfl rfl (by walk_at "u dp") (by walk_at "u un")  ?_; k_whole; intro vp_q Tp_q hp_q tkq_q kpp_q hh_q fr_q tu_q;  (have ap_q := fresh_apart fr_q (by k_asm : News _ _ _ _)); (have F_q := after_noneF (by k_asm) kpp_q); (have N_q := after_noneN (by k_asm) kpp_q); (replace N_q := new_entries (by k_asm) N_q fr_q hh_q); walk_at "u end")))
    k_with "ct" => ((with_reducible show wpAny _ _ (call (Value.ref 135) [Value.str _ _]) _ _ _); k_dflt (first | (refine wpAny_call ?_; refine' is_equality_code (by k_asm) (by k_asm) (by k_asm) (by k_asm) rfl rfl (by walk_at "u dp") (by walk_at "u un")  ?_; k_whole; intro hp_q tkq_q kpp_q; (have F_q := after_noneF (by k_asm) kpp_q); (have N_q := after_noneN (by k_asm) kpp_q); walk_at "u end")))
    k_with "ct" => ((with_reducible show wpAny _ _ (call (Value.ref 409) [Value.ref _, Value.int _ _]) _ _ _); k_dflt (first | (refine wpAny_call ?_; refine' pick_code (by k_asm) (by k_asm) (by k_asm) (by k_asm) rfl rfl (by walk_at "u dp") (by walk_at "u un") (by exact List.forall_mem_cons.mpr ⟨(by k_asm : News _ _ _ _) _ (by k_mem), List.forall_mem_nil _⟩) (by walk_at "u om") (by walk_at "u om") (by walk_at "u om") (by walk_at "u om") (by walk_at "u om") ?_; k_whole; intro kp_q xp_q yp_q tkp_q t1p_q t2p_q hp_q tkq_q hkp0_q hkp1_q hxp_q hyp0_q hyp1_q kpp_q hbp_q; (have F_q := after_oneF (by k_asm) (by k_asm) (by k_mem) kpp_q); (have N_q := after_oneN (by k_asm) (by k_asm) (U := by k_upd) kpp_q hbp_q); walk_at "u end")))
    k_with "ct" => ((with_reducible show wpAny _ _ (call (Value.ref 416) [Value.ref _, Value.ref _]) _ _ _); k_dflt (first | (refine wpAny_call ?_; refine' one_code (by k_asm) (by k_asm) (by k_asm) (by k_asm) rfl rfl (by walk_at "u dp") (by walk_at "u un") (by exact List.forall_mem_cons.mpr ⟨(by k_asm : News _ _ _ _) _ (by k_mem), List.forall_mem_cons.mpr ⟨(by k_asm : News _ _ _ _) _ (by k_mem), List.forall_mem_nil _⟩⟩) (by (first | k_ne | omega)) (by walk_at "u om") (by walk_at "u om") (by walk_at "u om") (by (first | omega | decide | (simp only [List.length_cons, List.length_nil]; omega))) (by (first | omega | decide | (simp only [List.length_cons, List.length_nil]; omega))) ?_; k_whole; intro vp_q xp_q yp_q t1p_q t2p_q hp_q tkq_q hvp_q hxp_q hyp0_q hyp1_q kpp_q hbp_q; (have F_q := after_oneF (by k_asm) (by k_asm) (by k_mem) kpp_q); (have N_q := after_oneN (by k_asm) (by k_asm) (U := by k_upd) kpp_q hbp_q); walk_at "u end")))
    k_with "ct" => ((with_reducible show wpAny _ _ (call (Value.ref 444) [Value.ref _]) _ _ _); k_dflt (first | (refine wpAny_call ?_; refine' plain_code (by k_asm) (by k_asm) (by k_asm) (by k_asm) rfl rfl (by walk_at "u dp") (by walk_at "u un") (by exact List.forall_mem_cons.mpr ⟨(by k_asm : News _ _ _ _) _ (by k_mem), List.forall_mem_nil _⟩) (by walk_at "u om") (by walk_at "u om") (by walk_at "u om") ?_; k_whole; intro ap_q aq_q vp_q pp_q qp_q t3p_q t4p_q xp_q yp_q t1p_q t2p_q hp_q tkq_q he1_q he2_q hbp_q kpp_q hn1_q hn2_q hpv_q hxp_q hyp0_q hyp1_q; (have F_q := after_oneF (by k_asm) (by k_asm) (by k_mem) kpp_q); (have N_q := after_oneN (by k_asm) (by k_asm) (U := by k_upd) kpp_q hbp_q); (have ne1_q := allNe_of hn1_q (by k_asm : News _ _ _ _)); (have ne2_q := allNe_of hn2_q (by k_asm : News _ _ _ _)); (replace N_q := new_entry (by k_asm) (new_entry (by k_asm) N_q hn2_q he2_q) hn1_q he1_q); (simp only [AllNe, and_true] at ne1_q ne2_q); (repeat (have _ := And.left ne1_q; replace ne1_q := And.right ne1_q)); (repeat (have _ := And.left ne2_q; replace ne2_q := And.right ne2_q)); walk_at "u end")))
    k_with "ct" => ((with_reducible show wpAny _ _ (call (Value.ref 145) [Value.ref _, Value.ref _]) _ _ _); k_dflt (first | (refine wpAny_call ?_; refine' texts_of_code (by k_asm) (by k_asm) (by k_asm) (by k_asm) rfl rfl (by walk_at "u dp") (by walk_at "u un") (by with_reducible assumption) (by k_asm) ?h1 ?h2 ?h3 ?h4 ?h5 ?h6 ?_; (case h1 => exact (fun p hp => by (repeat (first | exact hp | exact (by k_extra "sub") | refine List.Mem.tail _ ?_)))); (case h2 => k_mem); (case h3 => first | with_reducible assumption | exact rfl); (case h4 => first | with_reducible assumption | omega | (simp only [List.length_append, List.length_set, List.length_cons, List.length_nil]; omega) | exact (by decide)); (case h5 => k_extra "nvs"); (case h6 => first | with_reducible assumption | omega | (simp only [List.length_append, List.length_set, List.length_cons, List.length_nil]; omega) | exact (by decide)); k_whole; intro lp_q ysp_q hp_q tkq_q hly_q hty_q F_q N_q;  walk_at "u end")))
    k_with "ct" => ((with_reducible show wpAny _ _ (call (Value.ref 152) [Value.str _ _, _, _, Value.ref _]) _ _ _); k_dflt (first | (refine wpAny_call ?_; refine' listed_val (by k_asm) (by k_asm) (by k_asm) (by k_asm) rfl rfl (by walk_at "u dp") (by walk_at "u un") (by k_asm) ?h1 ?_; (case h1 => k_extra "numv"); k_whole; intro lp_q yp_q ep_q Tp_q hp_q tkq_q hyp_q F_q N_q;  walk_at "u end")))
    k_with "ct" => ((with_reducible show wpAny _ _ (call (Value.ref 152) [Value.str _ _, Value.ref _, _, Value.ref _]) _ _ _); k_dflt (first | (refine wpAny_call ?_; refine' listed_list (by k_asm) (by k_asm) (by k_asm) (by k_asm) rfl rfl (by walk_at "u dp") (by walk_at "u un") (by with_reducible assumption) (by k_asm) ?h1 ?h2 ?h3 ?h4 ?h5 ?h6 ?h7 ?_; (case h1 => exact (fun p hp => by (repeat (first | exact hp | exact (by k_extra "sub") | refine List.Mem.tail _ ?_)))); (case h2 => k_mem); (case h3 => first | with_reducible assumption | exact rfl); (case h4 => first | with_reducible assumption | omega | (simp only [List.length_append, List.length_set, List.length_cons, List.length_nil]; omega) | exact (by decide)); (case h5 => k_extra "nvs"); (case h6 => first | with_reducible assumption | omega | (simp only [List.length_append, List.length_set, List.length_cons, List.length_nil]; omega) | exact (by decide)); (case h7 => k_extra "oth"); k_whole; intro lp_q ysp_q ep_q Tp_q hp_q tkq_q hly_q hty_q F_q N_q;  walk_at "u end")))
    k_with "ct" => ((with_reducible show wpAny _ _ (call (Value.ref 140) [Value.str _ _, Value.ref _, _]) _ _ _); k_dflt (first | (refine wpAny_call ?_; refine' as_compared_code (by k_asm) (by k_asm) (by k_asm) (by k_asm) rfl rfl (by walk_at "u dp") (by walk_at "u un") (by k_asm) (by k_mem) (by first | with_reducible assumption | exact rfl) (by first | with_reducible assumption | omega | (simp only [List.length_append, List.length_set, List.length_cons, List.length_nil]; omega) | exact (by decide)) ?h4 ?h5 ?_; (case h4 => k_extra "vs"); (case h5 => k_extra "oth"); k_whole; intro lp_q ysp_q ep_q Tp_q hp_q tkq_q hly_q hty_q F_q N_q;  walk_at "u end")))
    k_with "ct" => ((with_reducible show wpAny _ _ (call (Value.ref 402) [Value.ref _]) _ _ _); k_dflt (first | (refine wpAny_call ?_; refine' bag_U (by k_asm) (by k_asm) (by k_asm) (by k_asm) rfl rfl (by walk_at "u dp") (by walk_at "u un") (by assumption) (by assumption) ?_; k_whole; intro bp_q xp_q yp_q t1p_q t2p_q hp_q tkq_q hep_q kpp_q hn1_q hxp_q hyp0_q hyp1_q; (have F_q := after_noneF (by k_asm) kpp_q); (have N_q := after_noneN (by k_asm) kpp_q); (have ne1_q := allNe_of hn1_q (by k_asm : News _ _ _ _)); (replace N_q := new_entry (by k_asm) N_q hn1_q hep_q); (simp only [AllNe, and_true] at ne1_q); (repeat (have _ := And.left ne1_q; replace ne1_q := And.right ne1_q)); walk_at "u end")))
    k_with "size" => exact size_ok (by omega)
    k_with "oth" => exact Oth.more ho2 (List.forall_mem_cons.mpr ⟨by k_mem, List.forall_mem_nil _⟩)
    k_with "src" =>
      refine LCg.CompSrc.ledger (by rfl) (by k_asm) (by k_asm) (by k_mem) (by k_extra "size") ?_
      intro g'
      refine comp_map (fun T j y => ∃ st, sts[j]? = some st ∧ TupAt T y (numbered st).1 (numbered st).2) (fun A B j y h r => by obtain ⟨st, e, t⟩ := r; exact ⟨st, e, t.more h⟩) (fun T => .inr ⟨_, List.mem_append_right _ (by k_mem), rfl, _, rfl⟩) ?_ ?_
    k_steps
    · rename Fr _ _ _ _ => zF
      rename News _ _ _ _ => zN
      refine ⟨rfl, Dt, vt, vt.length, [], hvt, fun j y e => ?_, _, _, zF, news_of zN ?_⟩
      · obtain ⟨st, t2, e1, e2, ht⟩ := hrt j y e
        refine ⟨st, e1, ?_⟩
        rw [if_pos (by simp [*])]
        exact ⟨t2, e2⟩
      · intro p hp
        repeat (rcases List.mem_cons.mp hp with rfl | hp; · k_mem)
        repeat (first | exact List.mem_append_right _ hp | refine List.Mem.tail _ ?_)
    · refine HoldC.mk ?_
      intro i T1 yy v I1 oI C1 oC D1 m₂ h5 tk5 E' hi hv hC hxx F5 N5
      obtain ⟨st, t2, e1, rfl, ht⟩ := hrt i v (by simpa using hv)
      k_steps
      rename Fr _ _ _ _ => zF
      rename News _ _ _ _ => zN
      rename TupAt _ _ _ _ => zt
      rename Apt _ _ => za
      exact ⟨_, _, _, rfl, zF, zN, za, st, e1, zt⟩
    · refine HoldC.mk ?_
      intro T1 yy hl hr
      k_steps
      rename Fr _ _ _ _ => zF
      rename News _ _ _ _ => zN
      refine ⟨rfl, _, yy, yy.length, T1, by rw [hl, List.size_toArray, hvt], fun j y e => ?_, _, _, zF, news_of zN ?_⟩
      · obtain ⟨st, e1, zt⟩ := hr j y e
        refine ⟨st, e1, ?_⟩
        rw [if_neg (by simp [*])]
        exact zt
      · intro p hp
        repeat (rcases List.mem_cons.mp hp with rfl | hp; · first | k_mem | (refine List.mem_cons_of_mem _ (List.mem_append_right _ ?_); k_mem))
        rcases List.mem_append.mp hp with hp | hp
        · exact List.mem_cons_of_mem _ (List.mem_append_left _ hp)
        · refine List.mem_cons_of_mem _ (List.mem_append_right _ ?_)
          repeat (first | exact List.mem_append_right _ hp | refine List.Mem.tail _ ?_)
  case k13 =>
  rintro s' ⟨Dd, yd, ed, Td, hyd, hrd, h13, tk13, F13, N13⟩
  clear F12 N12
  have hrd2 := HoldC.mk hrd
  clear hrd
  refine seqG F13 N13 (fun h₀ L m nw s0 s' => LMid h₀ L s0 m nw s') ?w14 ?k14
  case w14 =>
    k_with_none
    k_with "u lt" => (with_reducible (first | assumption | exact cl0 ‹_› | exact cl1 ‹_› | exact cl2 ‹_› | exact cl3 ‹_› | exact cl4 ‹_› | exact cl5 ‹_› | exact cl6 ‹_› | exact cl7 ‹_› | exact cl8 ‹_› | exact cl9 ‹_› | exact cl10 ‹_› | exact cl11 ‹_› | exact cr1 ‹_› | exact cr2 ‹_› | exact cr3 ‹_› | exact cr4 ‹_› | exact cr5 ‹_› | exact cr6 ‹_› | exact cr7 ‹_› | exact cr8 ‹_› | exact cr9 ‹_› | exact cr10 ‹_› | exact cr11 ‹_›))
    k_with "u room" => (first | exact room3 (by with_reducible assumption) rfl | exact room2 (by with_reducible assumption) rfl | exact room4 (by with_reducible assumption) rfl | exact room1 (by with_reducible assumption) | exact roomc (by with_reducible assumption) rfl | exact roome (by with_reducible assumption) rfl | exact roomd (by with_reducible assumption) rfl | exact roomn rfl | exact Nat.le_of_ble_eq_true rfl)
    k_with "call ref" => ((k_here; k_extra "ct"))
    k_with "u dp" => (((try simp only [depth_deeper, depth_in1, depth_caller]); (try dsimp only); first | walk_at "u room" | omega))
    k_with "u un" => (((try simp only [units_deeper, units_in1, units_caller]); (try dsimp only); first | walk_at "u room" | omega))
    k_with "u end" => (((try k_sweep); (try dsimp only); (try ((fail_if_success (with_reducible show wpAny _ _ _ _ _ _)); refine peel ?_)); (try k_fold)))
    k_with "u om" => (first | walk_at "u lt" | walk_at "u room" | exact Nat.le_of_ble_eq_true rfl | omega)
    k_with "k_ne" => (first | exact NeA.ne (by with_reducible assumption) | exact Ne.symm (NeA.ne (by with_reducible assumption)) | exact Nat.ne_of_gt (by walk_at "u lt") | exact Nat.ne_of_lt (by walk_at "u lt"))
    k_with "k_room" => (((try simp only [depth_under_make, depth_under_kw, depth_in1, depth_deeper, depth_caller, recursionLimit]); (try dsimp only); first | walk_at "u room" | omega))
    k_with "k_units" => (first | ((try simp only [units_in1, units_deeper, Around.mark_units, units_caller]); (try dsimp only); walk_at "u room") | (have hcL9 := cLine_is; (try simp only [units_in1, units_deeper, Around.mark_units, units_caller]); (try dsimp only); omega))
    k_with "om" => (with_reducible ((fail_if_success exact True.intro); (fail_if_success exact not_false); first | decide | exact n_lt0 rfl | exact n_le0 rfl | exact n_ltlt ‹_› rfl | exact n_lelt ‹_› rfl | exact n_lele ‹_› rfl | exact n_ltle ‹_› rfl | exact n_eqlt ‹_› rfl | exact n_lelt2 ‹_› ‹_› rfl | exact n_lelt3 ‹_› ‹_› rfl | exact Int.natCast_nonneg _ | exact i_ngt rfl | exact i_ge ‹_› rfl | exact i_gt ‹_› rfl | exact i_gtn ‹_› rfl | exact i_gt64 ‹_› | exact i_lt ‹_› rfl | exact i_lt64 ‹_› rfl | exact i_lelt ‹_› rfl | exact i_le ‹_› rfl | exact i_ne ‹_› rfl | exact i_nlt ‹_› rfl | exact i_ltn ‹_› ‹_› rfl | exact i_ltn2 ‹_› ‹_› rfl | exact i_neg ‹_› | exact i_eqn ‹_› | exact i_succ ‹_› | exact Int.add_one_le_of_lt ‹_› | exact i_sub_less ‹_› ‹_› | exact i_sub_less2 ‹_› ‹_› ‹_› | exact n_sum ‹_› ‹_› ‹_› ‹_› rfl))
    k_with "k_mem" => (first | exact List.mem_cons_self | with_reducible assumption | (refine List.mem_cons_of_mem _ ?_; k_mem) | (refine List.mem_append_right _ ?_; k_mem))
    k_with "k_all" => (exact AllNe.all (by with_reducible assumption))
    k_with "exec If" => ((k_here; refine wpAny_If ?_))
    k_with "compareOp NotEq ref ref" => ((k_here; k_dflt (k_extra "ne")))
    k_with "call ref" => ((k_here; (with_reducible show wpAny _ _ (call (Value.ref 437) _) _ _ _); k_dflt (refine wpAny_call ?_; refine HoldC.out ?_)))
    k_with "call type:range" => ((k_here; (rename Fr _ _ _ _ => F_q); (rename News _ _ _ _ => N_q); (with_unfolding_all refine range1_rows F_q N_q ?_); intro _ _ _ _ _ rg_q _ _ _))
    k_with "CompSrc" => ((k_here; k_dflt (k_extra "src")))
    k_with "exec Assign cons ListComp" => ((k_here; k_dflt (refine LCg.Assign_ListComp_U (F₀ := by k_asm) (by rfl) (by with_unfolding_all rfl) (by with_unfolding_all rfl) (by decide) (by rfl) (by decide) (by rfl) (by rfl) (by rfl) ?_)))
    k_with "SrcLP" => ((k_here; k_dflt (refine LCp.SrcLP.ledger (by rfl) (by k_asm) (by k_asm) (by k_mem) (by k_extra "size") ?_; intro g_q; k_extra "comp")))
    k_with "eval ListComp Name" => ((k_here; k_dflt (refine LCp.ListComp_P (F₀ := by k_asm) (by with_unfolding_all rfl) (by decide) (by rfl) (by decide) (by rfl) (by rfl) (by decide) ?_)))
    k_with "newList" => ((k_here; (with_reducible show wpAny _ _ (newList _) _ _ _); k_dflt (refine' newList_K ?k1_w10 ?k2_w10 ?_ ?z_w10; (case k1_w10 => k_asm); (case k2_w10 => k_asm); (case z_w10 => exact Nat.le_of_ble_eq_true rfl); k_whole; intro l_q h_q F_q N_q l1; k_lt l1; k_sweep)))
    k_with "subscriptTail Name Constant ref int" => ((k_here; k_dflt (first | ((with_reducible show wpAny _ _ (subscriptTail _ _ (Value.ref _) (Value.int 0 _)) _ _ _); refine pair_0 (by k_asm) (by k_mem) ?_) | ((with_reducible show wpAny _ _ (subscriptTail _ _ (Value.ref _) (Value.int 1 _)) _ _ _); refine pair_1 (by k_asm) (by k_mem) ?_))))
    k_with "compareOp Eq ref ref" => ((k_here; k_dflt (k_extra "eq")))
    k_with "compareOp NotEq bool bool" => ((k_here; k_dflt (refine ne_bool_self ?_)))
    k_with "eval ListComp Call" => ((k_here; k_dflt (refine LCg.ListComp_U (F₀ := by k_asm) (by with_unfolding_all rfl) (by decide) (by rfl) (by decide) (by rfl) ?_)))
    k_with "call builtin:isinstance" => ((k_here; (with_reducible show wpAny _ _ (call _ [_, Value.type "tuple"]) _ _ _); k_dflt (refine' isi_tup ?o_w15 ?N_w15 ?X_w15 ?_; (case N_w15 => k_asm); (case o_w15 => k_extra "oth"); (case X_w15 => k_in); intro _)))
    k_with "ct" => ((with_reducible show wpAny _ _ (call (Value.ref 449) [Value.ref _, Value.ref _]) _ _ _); k_dflt (first | (refine wpAny_call ?_; refine' is_same_code (by k_asm) (by k_asm) (by k_asm) (by k_asm) rfl rfl (by walk_at "u dp") (by walk_at "u un") (by k_asm) (by k_mem) (by k_mem) (by first | with_reducible assumption | exact rfl) (by first | with_reducible assumption | omega | exact rfl) (by first | omega | exact Nat.le_of_ble_eq_true rfl) ?h6 ?_; (case h6 => k_extra "same"); k_whole; intro hp_q tkq_q F_q N_q;  walk_at "u end")))
    k_with "ct" => ((with_reducible show wpAny _ _ (call (Value.ref 430) [Value.str _ _]) _ _ _); k_dflt (first | (refine wpAny_call ?_; refine' numbered_U (by k_asm) (by k_asm) (by k_asm) (by k_asm) rfl rfl (by walk_at "u dp") (by walk_at "u un")  ?_; k_whole; intro vp_q Tp_q hp_q tkq_q kpp_q hh_q fr_q tu_q;  (have ap_q := fresh_apart fr_q (by k_asm : News _ _ _ _)); (have F_q := after_noneF (by k_asm) kpp_q); (have N_q := after_noneN (by k_asm) kpp_q); (replace N_q := new_entries (by k_asm) N_q fr_q hh_q); walk_at "u end")))
    k_with "ct" => ((with_reducible show wpAny _ _ (call (Value.ref 135) [Value.str _ _]) _ _ _); k_dflt (first | (refine wpAny_call ?_; refine' is_equality_code (by k_asm) (by k_asm) (by k_asm) (by k_asm) rfl rfl (by walk_at "u dp") (by walk_at "u un")  ?_; k_whole; intro hp_q tkq_q kpp_q; (have F_q := after_noneF (by k_asm) kpp_q); (have N_q := after_noneN (by k_asm) kpp_q); walk_at "u end")))
    k_with "ct" => ((with_reducible show wpAny _ _ (call (Value.ref 409) [Value.ref _, Value.int _ _]) _ _ _); k_dflt (first | (refine wpAny_call ?_; refine' pick_code (by k_asm) (by k_asm) (by k_asm) (by k_asm) rfl rfl (by walk_at "u dp") (by walk_at "u un") (by exact List.forall_mem_cons.mpr ⟨(by k_asm : News _ _ _ _) _ (by k_mem), List.forall_mem_nil _⟩) (by walk_at "u om") (by walk_at "u om") (by walk_at "u om") (by walk_at "u om") (by walk_at "u om") ?_; k_whole; intro kp_q xp_q yp_q tkp_q t1p_q t2p_q hp_q tkq_q hkp0_q hkp1_q hxp_q hyp0_q hyp1_q kpp_q hbp_q; (have F_q := after_oneF (by k_asm) (by k_asm) (by k_mem) kpp_q); (have N_q := after_oneN (by k_asm) (by k_asm) (U := by k_upd) kpp_q hbp_q); walk_at "u end")))
    k_with "ct" => ((with_reducible show wpAny _ _ (call (Value.ref 416) [Value.ref _, Value.ref _]) _ _ _); k_dflt (first | (refine wpAny_call ?_; refine' one_code (by k_asm) (by k_asm) (by k_asm) (by k_asm) rfl rfl (by walk_at "u dp") (by walk_at "u un") (by exact List.forall_mem_cons.mpr ⟨(by k_asm : News _ _ _ _) _ (by k_mem), List.forall_mem_cons.mpr ⟨(by k_asm : News _ _ _ _) _ (by k_mem), List.forall_mem_nil _⟩⟩) (by (first | k_ne | omega)) (by walk_at "u om") (by walk_at "u om") (by walk_at "u om") (by (first | omega | decide | (simp only [List.length_cons, List.length_nil]; omega))) (by (first | omega | decide | (simp only [List.length_cons, List.length_nil]; omega))) ?_; k_whole; intro vp_q xp_q yp_q t1p_q t2p_q hp_q tkq_q hvp_q hxp_q hyp0_q hyp1_q kpp_q hbp_q; (have F_q := after_oneF (by k_asm) (by k_asm) (by k_mem) kpp_q); (have N_q := after_oneN (by k_asm) (by k_asm) (U := by k_upd) kpp_q hbp_q); walk_at "u end")))
    k_with "ct" => ((with_reducible show wpAny _ _ (call (Value.ref 444) [Value.ref _]) _ _ _); k_dflt (first | (refine wpAny_call ?_; refine' plain_code (by k_asm) (by k_asm) (by k_asm) (by k_asm) rfl rfl (by walk_at "u dp") (by walk_at "u un") (by exact List.forall_mem_cons.mpr ⟨(by k_asm : News _ _ _ _) _ (by k_mem), List.forall_mem_nil _⟩) (by walk_at "u om") (by walk_at "u om") (by walk_at "u om") ?_; k_whole; intro ap_q aq_q vp_q pp_q qp_q t3p_q t4p_q xp_q yp_q t1p_q t2p_q hp_q tkq_q he1_q he2_q hbp_q kpp_q hn1_q hn2_q hpv_q hxp_q hyp0_q hyp1_q; (have F_q := after_oneF (by k_asm) (by k_asm) (by k_mem) kpp_q); (have N_q := after_oneN (by k_asm) (by k_asm) (U := by k_upd) kpp_q hbp_q); (have ne1_q := allNe_of hn1_q (by k_asm : News _ _ _ _)); (have ne2_q := allNe_of hn2_q (by k_asm : News _ _ _ _)); (replace N_q := new_entry (by k_asm) (new_entry (by k_asm) N_q hn2_q he2_q) hn1_q he1_q); (simp only [AllNe, and_true] at ne1_q ne2_q); (repeat (have _ := And.left ne1_q; replace ne1_q := And.right ne1_q)); (repeat (have _ := And.left ne2_q; replace ne2_q := And.right ne2_q)); walk_at "u end")))
    k_with "ct" => ((with_reducible show wpAny _ _ (call (Value.ref 145) [Value.ref _, Value.ref _]) _ _ _); k_dflt (first | (refine wpAny_call ?_; refine' texts_of_code (by k_asm) (by k_asm) (by k_asm) (by k_asm) rfl rfl (by walk_at "u dp") (by walk_at "u un") (by with_reducible assumption) (by k_asm) ?h1 ?h2 ?h3 ?h4 ?h5 ?h6 ?_; (case h1 => exact (fun p hp => by (repeat (first | exact hp | exact (by k_extra "sub") | refine List.Mem.tail _ ?_)))); (case h2 => k_mem); (case h3 => first | with_reducible assumption | exact rfl); (case h4 => first | with_reducible assumption | omega | (simp only [List.length_append, List.length_set, List.length_cons, List.length_nil]; omega) | exact (by decide)); (case h5 => k_extra "nvs"); (case h6 => first | with_reducible assumption | omega | (simp only [List.length_append, List.length_set, List.length_cons, List.length_nil]; omega) | exact (by decide)); k_whole; intro lp_q ysp_q hp_q tkq_q hly_q hty_q F_q N_q;  walk_at "u end")))
    k_with "ct" => ((with_reducible show wpAny _ _ (call (Value.ref 152) [Value.str _ _, _, _, Value.ref _]) _ _ _); k_dflt (first | (refine wpAny_call ?_; refine' listed_val (by k_asm) (by k_asm) (by k_asm) (by k_asm) rfl rfl (by walk_at "u dp") (by walk_at "u un") (by k_asm) ?h1 ?_; (case h1 => k_extra "numv"); k_whole; intro lp_q yp_q ep_q Tp_q hp_q tkq_q hyp_q F_q N_q;  walk_at "u end")))
    k_with "ct" => ((with_reducible show wpAny _ _ (call (Value.ref 152) [Value.str _ _, Value.ref _, _, Value.ref _]) _ _ _); k_dflt (first | (refine wpAny_call ?_; refine' listed_list (by k_asm) (by k_asm) (by k_asm) (by k_asm) rfl rfl (by walk_at "u dp") (by walk_at "u un") (by with_reducible assumption) (by k_asm) ?h1 ?h2 ?h3 ?h4 ?h5 ?h6 ?h7 ?_; (case h1 => exact (fun p hp => by (repeat (first | exact hp | exact (by k_extra "sub") | refine List.Mem.tail _ ?_)))); (case h2 => k_mem); (case h3 => first | with_reducible assumption | exact rfl); (case h4 => first | with_reducible assumption | omega | (simp only [List.length_append, List.length_set, List.length_cons, List.length_nil]; omega) | exact (by decide)); (case h5 => k_extra "nvs"); (case h6 => first | with_reducible assumption | omega | (simp only [List.length_append, List.length_set, List.length_cons, List.length_nil]; omega) | exact (by decide)); (case h7 => k_extra "oth"); k_whole; intro lp_q ysp_q ep_q Tp_q hp_q tkq_q hly_q hty_q F_q N_q;  walk_at "u end")))
    k_with "ct" => ((with_reducible show wpAny _ _ (call (Value.ref 140) [Value.str _ _, Value.ref _, _]) _ _ _); k_dflt (first | (refine wpAny_call ?_; refine' as_compared_code (by k_asm) (by k_asm) (by k_asm) (by k_asm) rfl rfl (by walk_at "u dp") (by walk_at "u un") (by k_asm) (by k_mem) (by first | with_reducible assumption | exact rfl) (by first | with_reducible assumption | omega | (simp only [List.length_append, List.length_set, List.length_cons, List.length_nil]; omega) | exact (by decide)) ?h4 ?h5 ?_; (case h4 => k_extra "vs"); (case h5 => k_extra "oth"); k_whole; intro lp_q ysp_q ep_q Tp_q hp_q tkq_q hly_q hty_q F_q N_q;  walk_at "u end")))
    k_with "ct" => ((with_reducible show wpAny _ _ (call (Value.ref 402) [Value.ref _]) _ _ _); k_dflt (first | (refine wpAny_call ?_; refine' bag_U (by k_asm) (by k_asm) (by k_asm) (by k_asm) rfl rfl (by walk_at "u dp") (by walk_at "u un") (by assumption) (by assumption) ?_; k_whole; intro bp_q xp_q yp_q t1p_q t2p_q hp_q tkq_q hep_q kpp_q hn1_q hxp_q hyp0_q hyp1_q; (have F_q := after_noneF (by k_asm) kpp_q); (have N_q := after_noneN (by k_asm) kpp_q); (have ne1_q := allNe_of hn1_q (by k_asm : News _ _ _ _)); (replace N_q := new_entry (by k_asm) N_q hn1_q hep_q); (simp only [AllNe, and_true] at ne1_q); (repeat (have _ := And.left ne1_q; replace ne1_q := And.right ne1_q)); walk_at "u end")))
    k_with "sub" => exact List.mem_append_right _ (by assumption)
    k_with "nvs" => exact hnv
    k_with "oth" => exact Oth.lst (a := Dn) (vs := vn) (by k_mem)
    k_with "same" =>
      rename (∀ (j : Nat) (y : Value), _ → ToldAt _ _ sts j y) => lt'
      exact fun i x y ex ey => same_told (told_not lt' i x ex) (hrd2.out i y ey) (fun p hp => List.mem_cons_of_mem _ (List.mem_append_left _ hp)) (fun p hp => by (repeat (first | exact List.mem_append_left _ hp | refine List.mem_append_right _ ?_ | refine List.Mem.tail _ ?_)))
    k_steps
    rename Fr _ _ _ _ => zF
    rename News _ _ _ _ => zN
    exact ⟨rfl, _, _, zF, news_of zN (fun p hp => by (repeat (first | exact hp | refine List.Mem.tail _ ?_ | refine List.mem_append_right _ ?_)))⟩
  case k14 =>
  rintro s' ⟨h14, tk14, F14, N14⟩
  clear F13 N13 hrd2 hyd
  refine seqG F14 N14 (fun h₀ L m nw s0 s' => ∃ (Dv : Addr) (y : Value) (ev : Nat), Due1 op v1 c1 y ∧
    LMid h₀ L s0 (fun z => if z = Str.ofString "due" then some (.ref Dv) else m z)
      ((D, LCg.lst ys) :: (Dn, LCg.lst vn) :: (Dt, LCg.lst vt) :: (a1, tupO [v1, .ref c1]) :: (c1, tupO [.int p1 u1, .int q1 u2]) :: (a2, tupO [v2, .ref c2]) :: (c2, tupO [.int p2 u3, .int q2 u4]) :: (Dv, W.listOf #[y] ev) :: OL) s') ?w15 ?k15
  case w15 =>
    k_with_none
    k_with "u lt" => (with_reducible (first | assumption | exact cl0 ‹_› | exact cl1 ‹_› | exact cl2 ‹_› | exact cl3 ‹_› | exact cl4 ‹_› | exact cl5 ‹_› | exact cl6 ‹_› | exact cl7 ‹_› | exact cl8 ‹_› | exact cl9 ‹_› | exact cl10 ‹_› | exact cl11 ‹_› | exact cr1 ‹_› | exact cr2 ‹_› | exact cr3 ‹_› | exact cr4 ‹_› | exact cr5 ‹_› | exact cr6 ‹_› | exact cr7 ‹_› | exact cr8 ‹_› | exact cr9 ‹_› | exact cr10 ‹_› | exact cr11 ‹_›))
    k_with "u room" => (first | exact room3 (by with_reducible assumption) rfl | exact room2 (by with_reducible assumption) rfl | exact room4 (by with_reducible assumption) rfl | exact room1 (by with_reducible assumption) | exact roomc (by with_reducible assumption) rfl | exact roome (by with_reducible assumption) rfl | exact roomd (by with_reducible assumption) rfl | exact roomn rfl | exact Nat.le_of_ble_eq_true rfl)
    k_with "call ref" => ((k_here; k_extra "ct"))
    k_with "u dp" => (((try simp only [depth_deeper, depth_in1, depth_caller]); (try dsimp only); first | walk_at "u room" | omega))
    k_with "u un" => (((try simp only [units_deeper, units_in1, units_caller]); (try dsimp only); first | walk_at "u room" | omega))
    k_with "u end" => (((try k_sweep); (try dsimp only); (try ((fail_if_success (with_reducible show wpAny _ _ _ _ _ _)); refine peel ?_)); (try k_fold)))
    k_with "u om" => (first | walk_at "u lt" | walk_at "u room" | exact Nat.le_of_ble_eq_true rfl | omega)
    k_with "k_ne" => (first | exact NeA.ne (by with_reducible assumption) | exact Ne.symm (NeA.ne (by with_reducible assumption)) | exact Nat.ne_of_gt (by walk_at "u lt") | exact Nat.ne_of_lt (by walk_at "u lt"))
    k_with "k_room" => (((try simp only [depth_under_make, depth_under_kw, depth_in1, depth_deeper, depth_caller, recursionLimit]); (try dsimp only); first | walk_at "u room" | omega))
    k_with "k_units" => (first | ((try simp only [units_in1, units_deeper, Around.mark_units, units_caller]); (try dsimp only); walk_at "u room") | (have hcL9 := cLine_is; (try simp only [units_in1, units_deeper, Around.mark_units, units_caller]); (try dsimp only); omega))
    k_with "om" => (with_reducible ((fail_if_success exact True.intro); (fail_if_success exact not_false); first | decide | exact n_lt0 rfl | exact n_le0 rfl | exact n_ltlt ‹_› rfl | exact n_lelt ‹_› rfl | exact n_lele ‹_› rfl | exact n_ltle ‹_› rfl | exact n_eqlt ‹_› rfl | exact n_lelt2 ‹_› ‹_› rfl | exact n_lelt3 ‹_› ‹_› rfl | exact Int.natCast_nonneg _ | exact i_ngt rfl | exact i_ge ‹_› rfl | exact i_gt ‹_› rfl | exact i_gtn ‹_› rfl | exact i_gt64 ‹_› | exact i_lt ‹_› rfl | exact i_lt64 ‹_› rfl | exact i_lelt ‹_› rfl | exact i_le ‹_› rfl | exact i_ne ‹_› rfl | exact i_nlt ‹_› rfl | exact i_ltn ‹_› ‹_› rfl | exact i_ltn2 ‹_› ‹_› rfl | exact i_neg ‹_› | exact i_eqn ‹_› | exact i_succ ‹_› | exact Int.add_one_le_of_lt ‹_› | exact i_sub_less ‹_› ‹_› | exact i_sub_less2 ‹_› ‹_› ‹_› | exact n_sum ‹_› ‹_› ‹_› ‹_› rfl))
    k_with "k_mem" => (first | exact List.mem_cons_self | with_reducible assumption | (refine List.mem_cons_of_mem _ ?_; k_mem) | (refine List.mem_append_right _ ?_; k_mem))
    k_with "k_all" => (exact AllNe.all (by with_reducible assumption))
    k_with "exec If" => ((k_here; refine wpAny_If ?_))
    k_with "compareOp NotEq ref ref" => ((k_here; k_dflt (k_extra "ne")))
    k_with "call ref" => ((k_here; (with_reducible show wpAny _ _ (call (Value.ref 437) _) _ _ _); k_dflt (refine wpAny_call ?_; refine HoldC.out ?_)))
    k_with "call type:range" => ((k_here; (rename Fr _ _ _ _ => F_q); (rename News _ _ _ _ => N_q); (with_unfolding_all refine range1_rows F_q N_q ?_); intro _ _ _ _ _ rg_q _ _ _))
    k_with "CompSrc" => ((k_here; k_dflt (k_extra "src")))
    k_with "exec Assign cons ListComp" => ((k_here; k_dflt (refine LCg.Assign_ListComp_U (F₀ := by k_asm) (by rfl) (by with_unfolding_all rfl) (by with_unfolding_all rfl) (by decide) (by rfl) (by decide) (by rfl) (by rfl) (by rfl) ?_)))
    k_with "SrcLP" => ((k_here; k_dflt (refine LCp.SrcLP.ledger (by rfl) (by k_asm) (by k_asm) (by k_mem) (by k_extra "size") ?_; intro g_q; k_extra "comp")))
    k_with "eval ListComp Name" => ((k_here; k_dflt (refine LCp.ListComp_P (F₀ := by k_asm) (by with_unfolding_all rfl) (by decide) (by rfl) (by decide) (by rfl) (by rfl) (by decide) ?_)))
    k_with "newList" => ((k_here; (with_reducible show wpAny _ _ (newList _) _ _ _); k_dflt (refine' newList_K ?k1_w10 ?k2_w10 ?_ ?z_w10; (case k1_w10 => k_asm); (case k2_w10 => k_asm); (case z_w10 => exact Nat.le_of_ble_eq_true rfl); k_whole; intro l_q h_q F_q N_q l1; k_lt l1; k_sweep)))
    k_with "subscriptTail Name Constant ref int" => ((k_here; k_dflt (first | ((with_reducible show wpAny _ _ (subscriptTail _ _ (Value.ref _) (Value.int 0 _)) _ _ _); refine pair_0 (by k_asm) (by k_mem) ?_) | ((with_reducible show wpAny _ _ (subscriptTail _ _ (Value.ref _) (Value.int 1 _)) _ _ _); refine pair_1 (by k_asm) (by k_mem) ?_))))
    k_with "compareOp Eq ref ref" => ((k_here; k_dflt (k_extra "eq")))
    k_with "compareOp NotEq bool bool" => ((k_here; k_dflt (refine ne_bool_self ?_)))
    k_with "eval ListComp Call" => ((k_here; k_dflt (refine LCg.ListComp_U (F₀ := by k_asm) (by with_unfolding_all rfl) (by decide) (by rfl) (by decide) (by rfl) ?_)))
    k_with "call builtin:isinstance" => ((k_here; (with_reducible show wpAny _ _ (call _ [_, Value.type "tuple"]) _ _ _); k_dflt (refine' isi_tup ?o_w15 ?N_w15 ?X_w15 ?_; (case N_w15 => k_asm); (case o_w15 => k_extra "oth"); (case X_w15 => k_in); intro _)))
    k_with "ct" => ((with_reducible show wpAny _ _ (call (Value.ref 449) [Value.ref _, Value.ref _]) _ _ _); k_dflt (first | (refine wpAny_call ?_; refine' is_same_code (by k_asm) (by k_asm) (by k_asm) (by k_asm) rfl rfl (by walk_at "u dp") (by walk_at "u un") (by k_asm) (by k_mem) (by k_mem) (by first | with_reducible assumption | exact rfl) (by first | with_reducible assumption | omega | exact rfl) (by first | omega | exact Nat.le_of_ble_eq_true rfl) ?h6 ?_; (case h6 => k_extra "same"); k_whole; intro hp_q tkq_q F_q N_q;  walk_at "u end")))
    k_with "ct" => ((with_reducible show wpAny _ _ (call (Value.ref 430) [Value.str _ _]) _ _ _); k_dflt (first | (refine wpAny_call ?_; refine' numbered_U (by k_asm) (by k_asm) (by k_asm) (by k_asm) rfl rfl (by walk_at "u dp") (by walk_at "u un")  ?_; k_whole; intro vp_q Tp_q hp_q tkq_q kpp_q hh_q fr_q tu_q;  (have ap_q := fresh_apart fr_q (by k_asm : News _ _ _ _)); (have F_q := after_noneF (by k_asm) kpp_q); (have N_q := after_noneN (by k_asm) kpp_q); (replace N_q := new_entries (by k_asm) N_q fr_q hh_q); walk_at "u end")))
    k_with "ct" => ((with_reducible show wpAny _ _ (call (Value.ref 135) [Value.str _ _]) _ _ _); k_dflt (first | (refine wpAny_call ?_; refine' is_equality_code (by k_asm) (by k_asm) (by k_asm) (by k_asm) rfl rfl (by walk_at "u dp") (by walk_at "u un")  ?_; k_whole; intro hp_q tkq_q kpp_q; (have F_q := after_noneF (by k_asm) kpp_q); (have N_q := after_noneN (by k_asm) kpp_q); walk_at "u end")))
    k_with "ct" => ((with_reducible show wpAny _ _ (call (Value.ref 409) [Value.ref _, Value.int _ _]) _ _ _); k_dflt (first | (refine wpAny_call ?_; refine' pick_code (by k_asm) (by k_asm) (by k_asm) (by k_asm) rfl rfl (by walk_at "u dp") (by walk_at "u un") (by exact List.forall_mem_cons.mpr ⟨(by k_asm : News _ _ _ _) _ (by k_mem), List.forall_mem_nil _⟩) (by walk_at "u om") (by walk_at "u om") (by walk_at "u om") (by walk_at "u om") (by walk_at "u om") ?_; k_whole; intro kp_q xp_q yp_q tkp_q t1p_q t2p_q hp_q tkq_q hkp0_q hkp1_q hxp_q hyp0_q hyp1_q kpp_q hbp_q; (have F_q := after_oneF (by k_asm) (by k_asm) (by k_mem) kpp_q); (have N_q := after_oneN (by k_asm) (by k_asm) (U := by k_upd) kpp_q hbp_q); walk_at "u end")))
    k_with "ct" => ((with_reducible show wpAny _ _ (call (Value.ref 416) [Value.ref _, Value.ref _]) _ _ _); k_dflt (first | (refine wpAny_call ?_; refine' one_code (by k_asm) (by k_asm) (by k_asm) (by k_asm) rfl rfl (by walk_at "u dp") (by walk_at "u un") (by exact List.forall_mem_cons.mpr ⟨(by k_asm : News _ _ _ _) _ (by k_mem), List.forall_mem_cons.mpr ⟨(by k_asm : News _ _ _ _) _ (by k_mem), List.forall_mem_nil _⟩⟩) (by (first | k_ne | omega)) (by walk_at "u om") (by walk_at "u om") (by walk_at "u om") (by (first | omega | decide | (simp only [List.length_cons, List.length_nil]; omega))) (by (first | omega | decide | (simp only [List.length_cons, List.length_nil]; omega))) ?_; k_whole; intro vp_q xp_q yp_q t1p_q t2p_q hp_q tkq_q hvp_q hxp_q hyp0_q hyp1_q kpp_q hbp_q; (have F_q := after_oneF (by k_asm) (by k_asm) (by k_mem) kpp_q); (have N_q := after_oneN (by k_asm) (by k_asm) (U := by k_upd) kpp_q hbp_q); walk_at "u end")))
    k_with "ct" => ((with_reducible show wpAny _ _ (call (Value.ref 444) [Value.ref _]) _ _ _); k_dflt (first | (refine wpAny_call ?_; refine' plain_code (by k_asm) (by k_asm) (by k_asm) (by k_asm) rfl rfl (by walk_at "u dp") (by walk_at "u un") (by exact List.forall_mem_cons.mpr ⟨(by k_asm : News _ _ _ _) _ (by k_mem), List.forall_mem_nil _⟩) (by walk_at "u om") (by walk_at "u om") (by walk_at "u om") ?_; k_whole; intro ap_q aq_q vp_q pp_q qp_q t3p_q t4p_q xp_q yp_q t1p_q t2p_q hp_q tkq_q he1_q he2_q hbp_q kpp_q hn1_q hn2_q hpv_q hxp_q hyp0_q hyp1_q; (have F_q := after_oneF (by k_asm) (by k_asm) (by k_mem) kpp_q); (have N_q := after_oneN (by k_asm) (by k_asm) (U := by k_upd) kpp_q hbp_q); (have ne1_q := allNe_of hn1_q (by k_asm : News _ _ _ _)); (have ne2_q := allNe_of hn2_q (by k_asm : News _ _ _ _)); (replace N_q := new_entry (by k_asm) (new_entry (by k_asm) N_q hn2_q he2_q) hn1_q he1_q); (simp only [AllNe, and_true] at ne1_q ne2_q); (repeat (have _ := And.left ne1_q; replace ne1_q := And.right ne1_q)); (repeat (have _ := And.left ne2_q; replace ne2_q := And.right ne2_q)); walk_at "u end")))
    k_with "ct" => ((with_reducible show wpAny _ _ (call (Value.ref 145) [Value.ref _, Value.ref _]) _ _ _); k_dflt (first | (refine wpAny_call ?_; refine' texts_of_code (by k_asm) (by k_asm) (by k_asm) (by k_asm) rfl rfl (by walk_at "u dp") (by walk_at "u un") (by with_reducible assumption) (by k_asm) ?h1 ?h2 ?h3 ?h4 ?h5 ?h6 ?_; (case h1 => exact (fun p hp => by (repeat (first | exact hp | exact (by k_extra "sub") | refine List.Mem.tail _ ?_)))); (case h2 => k_mem); (case h3 => first | with_reducible assumption | exact rfl); (case h4 => first | with_reducible assumption | omega | (simp only [List.length_append, List.length_set, List.length_cons, List.length_nil]; omega) | exact (by decide)); (case h5 => k_extra "nvs"); (case h6 => first | with_reducible assumption | omega | (simp only [List.length_append, List.length_set, List.length_cons, List.length_nil]; omega) | exact (by decide)); k_whole; intro lp_q ysp_q hp_q tkq_q hly_q hty_q F_q N_q;  walk_at "u end")))
    k_with "ct" => ((with_reducible show wpAny _ _ (call (Value.ref 152) [Value.str _ _, _, _, Value.ref _]) _ _ _); k_dflt (first | (refine wpAny_call ?_; refine' listed_val (by k_asm) (by k_asm) (by k_asm) (by k_asm) rfl rfl (by walk_at "u dp") (by walk_at "u un") (by k_asm) ?h1 ?_; (case h1 => k_extra "numv"); k_whole; intro lp_q yp_q ep_q Tp_q hp_q tkq_q hyp_q F_q N_q;  walk_at "u end")))
    k_with "ct" => ((with_reducible show wpAny _ _ (call (Value.ref 152) [Value.str _ _, Value.ref _, _, Value.ref _]) _ _ _); k_dflt (first | (refine wpAny_call ?_; refine' listed_list (by k_asm) (by k_asm) (by k_asm) (by k_asm) rfl rfl (by walk_at "u dp") (by walk_at "u un") (by with_reducible assumption) (by k_asm) ?h1 ?h2 ?h3 ?h4 ?h5 ?h6 ?h7 ?_; (case h1 => exact (fun p hp => by (repeat (first | exact hp | exact (by k_extra "sub") | refine List.Mem.tail _ ?_)))); (case h2 => k_mem); (case h3 => first | with_reducible assumption | exact rfl); (case h4 => first | with_reducible assumption | omega | (simp only [List.length_append, List.length_set, List.length_cons, List.length_nil]; omega) | exact (by decide)); (case h5 => k_extra "nvs"); (case h6 => first | with_reducible assumption | omega | (simp only [List.length_append, List.length_set, List.length_cons, List.length_nil]; omega) | exact (by decide)); (case h7 => k_extra "oth"); k_whole; intro lp_q ysp_q ep_q Tp_q hp_q tkq_q hly_q hty_q F_q N_q;  walk_at "u end")))
    k_with "ct" => ((with_reducible show wpAny _ _ (call (Value.ref 140) [Value.str _ _, Value.ref _, _]) _ _ _); k_dflt (first | (refine wpAny_call ?_; refine' as_compared_code (by k_asm) (by k_asm) (by k_asm) (by k_asm) rfl rfl (by walk_at "u dp") (by walk_at "u un") (by k_asm) (by k_mem) (by first | with_reducible assumption | exact rfl) (by first | with_reducible assumption | omega | (simp only [List.length_append, List.length_set, List.length_cons, List.length_nil]; omega) | exact (by decide)) ?h4 ?h5 ?_; (case h4 => k_extra "vs"); (case h5 => k_extra "oth"); k_whole; intro lp_q ysp_q ep_q Tp_q hp_q tkq_q hly_q hty_q F_q N_q;  walk_at "u end")))
    k_with "ct" => ((with_reducible show wpAny _ _ (call (Value.ref 402) [Value.ref _]) _ _ _); k_dflt (first | (refine wpAny_call ?_; refine' bag_U (by k_asm) (by k_asm) (by k_asm) (by k_asm) rfl rfl (by walk_at "u dp") (by walk_at "u un") (by assumption) (by assumption) ?_; k_whole; intro bp_q xp_q yp_q t1p_q t2p_q hp_q tkq_q hep_q kpp_q hn1_q hxp_q hyp0_q hyp1_q; (have F_q := after_noneF (by k_asm) kpp_q); (have N_q := after_noneN (by k_asm) kpp_q); (have ne1_q := allNe_of hn1_q (by k_asm : News _ _ _ _)); (replace N_q := new_entry (by k_asm) N_q hn1_q hep_q); (simp only [AllNe, and_true] at ne1_q); (repeat (have _ := And.left ne1_q; replace ne1_q := And.right ne1_q)); walk_at "u end")))
    k_steps
    · rename (eqb op = true) => q1
      rename Fr _ _ _ _ => zF
      rename News _ _ _ _ => zN
      refine' ⟨rfl, _, v1, _, ⟨by rw [if_pos q1]⟩, _, _, zF, news_of zN ?nw⟩
      case nw =>
        intro p hp
        repeat (rcases List.mem_cons.mp hp with rfl | hp; · k_mem)
        repeat (first | exact hp | refine List.Mem.tail _ ?_ | refine List.mem_append_right _ ?_)
    · rename (eqb op = false) => q1
      rename Fr _ _ _ _ => zF
      rename News _ _ _ _ => zN
      refine' ⟨rfl, _, Value.ref c1, _, ⟨by rw [if_neg (by rw [q1]; exact Bool.false_ne_true)]⟩, _, _, zF, news_of zN ?nw⟩
      case nw =>
        intro p hp
        repeat (rcases List.mem_cons.mp hp with rfl | hp; · k_mem)
        repeat (first | exact hp | refine List.Mem.tail _ ?_ | refine List.mem_append_right _ ?_)
  case k15 =>
  rintro s' ⟨Dv, yv, ev, hyv, h15, tk15, F15, N15⟩
  clear F14 N14
  refine seqG F15 N15 (fun h₀ L m nw s0 s' => LMid h₀ L s0 m nw s') ?w16 ?k16
  case w16 =>
    k_with "numv" => exact NumV.more hnv1 (List.forall_mem_cons.mpr ⟨by k_mem, List.forall_mem_nil _⟩)
    k_with "same" =>
      rename Told1 _ _ _ _ _ _ => lt'
      exact same_val1 hv1 lt' hyv (by k_mem) (fun p hp => List.mem_cons_of_mem _ hp)
    k_steps
    rename Fr _ _ _ _ => zF
    rename News _ _ _ _ => zN
    exact ⟨rfl, _, _, zF, news_of zN (fun p hp => by (repeat (first | exact hp | refine List.Mem.tail _ ?_ | refine List.mem_append_right _ ?_)))⟩
  case k16 =>
  rintro s' ⟨h16, tk16, F16, N16⟩
  clear F15 N15 hyv
  have hst0 := hst1.out
  clear hst1
  k_with_none
  k_with "u lt" => (with_reducible (first | assumption | exact cl0 ‹_› | exact cl1 ‹_› | exact cl2 ‹_› | exact cl3 ‹_› | exact cl4 ‹_› | exact cl5 ‹_› | exact cl6 ‹_› | exact cl7 ‹_› | exact cl8 ‹_› | exact cl9 ‹_› | exact cl10 ‹_› | exact cl11 ‹_› | exact cr1 ‹_› | exact cr2 ‹_› | exact cr3 ‹_› | exact cr4 ‹_› | exact cr5 ‹_› | exact cr6 ‹_› | exact cr7 ‹_› | exact cr8 ‹_› | exact cr9 ‹_› | exact cr10 ‹_› | exact cr11 ‹_›))
  k_with "u room" => (first | exact room3 (by with_reducible assumption) rfl | exact room2 (by with_reducible assumption) rfl | exact room4 (by with_reducible assumption) rfl | exact room1 (by with_reducible assumption) | exact roomc (by with_reducible assumption) rfl | exact roome (by with_reducible assumption) rfl | exact roomd (by with_reducible assumption) rfl | exact roomn rfl | exact Nat.le_of_ble_eq_true rfl)
  k_with "call ref" => ((k_here; k_extra "ct"))
  k_with "u dp" => (((try simp only [depth_deeper, depth_in1, depth_caller]); (try dsimp only); first | walk_at "u room" | omega))
  k_with "u un" => (((try simp only [units_deeper, units_in1, units_caller]); (try dsimp only); first | walk_at "u room" | omega))
  k_with "u end" => (((try k_sweep); (try dsimp only); (try ((fail_if_success (with_reducible show wpAny _ _ _ _ _ _)); refine peel ?_)); (try k_fold)))
  k_with "u om" => (first | walk_at "u lt" | walk_at "u room" | exact Nat.le_of_ble_eq_true rfl | omega)
  k_with "k_ne" => (first | exact NeA.ne (by with_reducible assumption) | exact Ne.symm (NeA.ne (by with_reducible assumption)) | exact Nat.ne_of_gt (by walk_at "u lt") | exact Nat.ne_of_lt (by walk_at "u lt"))
  k_with "k_room" => (((try simp only [depth_under_make, depth_under_kw, depth_in1, depth_deeper, depth_caller, recursionLimit]); (try dsimp only); first | walk_at "u room" | omega))
  k_with "k_units" => (first | ((try simp only [units_in1, units_deeper, Around.mark_units, units_caller]); (try dsimp only); walk_at "u room") | (have hcL9 := cLine_is; (try simp only [units_in1, units_deeper, Around.mark_units, units_caller]); (try dsimp only); omega))
  k_with "om" => (with_reducible ((fail_if_success exact True.intro); (fail_if_success exact not_false); first | decide | exact n_lt0 rfl | exact n_le0 rfl | exact n_ltlt ‹_› rfl | exact n_lelt ‹_› rfl | exact n_lele ‹_› rfl | exact n_ltle ‹_› rfl | exact n_eqlt ‹_› rfl | exact n_lelt2 ‹_› ‹_› rfl | exact n_lelt3 ‹_› ‹_› rfl | exact Int.natCast_nonneg _ | exact i_ngt rfl | exact i_ge ‹_› rfl | exact i_gt ‹_› rfl | exact i_gtn ‹_› rfl | exact i_gt64 ‹_› | exact i_lt ‹_› rfl | exact i_lt64 ‹_› rfl | exact i_lelt ‹_› rfl | exact i_le ‹_› rfl | exact i_ne ‹_› rfl | exact i_nlt ‹_› rfl | exact i_ltn ‹_› ‹_› rfl | exact i_ltn2 ‹_› ‹_› rfl | exact i_neg ‹_› | exact i_eqn ‹_› | exact i_succ ‹_› | exact Int.add_one_le_of_lt ‹_› | exact i_sub_less ‹_› ‹_› | exact i_sub_less2 ‹_› ‹_› ‹_› | exact n_sum ‹_› ‹_› ‹_› ‹_› rfl))
  k_with "k_mem" => (first | exact List.mem_cons_self | with_reducible assumption | (refine List.mem_cons_of_mem _ ?_; k_mem) | (refine List.mem_append_right _ ?_; k_mem))
  k_with "k_all" => (exact AllNe.all (by with_reducible assumption))
  k_with "exec If" => ((k_here; refine wpAny_If ?_))
  k_with "compareOp NotEq ref ref" => ((k_here; k_dflt (k_extra "ne")))
  k_with "call ref" => ((k_here; (with_reducible show wpAny _ _ (call (Value.ref 437) _) _ _ _); k_dflt (refine wpAny_call ?_; refine HoldC.out ?_)))
  k_with "call type:range" => ((k_here; (rename Fr _ _ _ _ => F_q); (rename News _ _ _ _ => N_q); (with_unfolding_all refine range1_rows F_q N_q ?_); intro _ _ _ _ _ rg_q _ _ _))
  k_with "CompSrc" => ((k_here; k_dflt (k_extra "src")))
  k_with "exec Assign cons ListComp" => ((k_here; k_dflt (refine LCg.Assign_ListComp_U (F₀ := by k_asm) (by rfl) (by with_unfolding_all rfl) (by with_unfolding_all rfl) (by decide) (by rfl) (by decide) (by rfl) (by rfl) (by rfl) ?_)))
  k_with "SrcLP" => ((k_here; k_dflt (refine LCp.SrcLP.ledger (by rfl) (by k_asm) (by k_asm) (by k_mem) (by k_extra "size") ?_; intro g_q; k_extra "comp")))
  k_with "eval ListComp Name" => ((k_here; k_dflt (refine LCp.ListComp_P (F₀ := by k_asm) (by with_unfolding_all rfl) (by decide) (by rfl) (by decide) (by rfl) (by rfl) (by decide) ?_)))
  k_with "newList" => ((k_here; (with_reducible show wpAny _ _ (newList _) _ _ _); k_dflt (refine' newList_K ?k1_w10 ?k2_w10 ?_ ?z_w10; (case k1_w10 => k_asm); (case k2_w10 => k_asm); (case z_w10 => exact Nat.le_of_ble_eq_true rfl); k_whole; intro l_q h_q F_q N_q l1; k_lt l1; k_sweep)))
  k_with "subscriptTail Name Constant ref int" => ((k_here; k_dflt (first | ((with_reducible show wpAny _ _ (subscriptTail _ _ (Value.ref _) (Value.int 0 _)) _ _ _); refine pair_0 (by k_asm) (by k_mem) ?_) | ((with_reducible show wpAny _ _ (subscriptTail _ _ (Value.ref _) (Value.int 1 _)) _ _ _); refine pair_1 (by k_asm) (by k_mem) ?_))))
  k_with "compareOp Eq ref ref" => ((k_here; k_dflt (k_extra "eq")))
  k_with "compareOp NotEq bool bool" => ((k_here; k_dflt (refine ne_bool_self ?_)))
  k_with "eval ListComp Call" => ((k_here; k_dflt (refine LCg.ListComp_U (F₀ := by k_asm) (by with_unfolding_all rfl) (by decide) (by rfl) (by decide) (by rfl) ?_)))
  k_with "call builtin:isinstance" => ((k_here; (with_reducible show wpAny _ _ (call _ [_, Value.type "tuple"]) _ _ _); k_dflt (refine' isi_tup ?o_w15 ?N_w15 ?X_w15 ?_; (case N_w15 => k_asm); (case o_w15 => k_extra "oth"); (case X_w15 => k_in); intro _)))
  k_with "ct" => ((with_reducible show wpAny _ _ (call (Value.ref 449) [Value.ref _, Value.ref _]) _ _ _); k_dflt (first | (refine wpAny_call ?_; refine' is_same_code (by k_asm) (by k_asm) (by k_asm) (by k_asm) rfl rfl (by walk_at "u dp") (by walk_at "u un") (by k_asm) (by k_mem) (by k_mem) (by first | with_reducible assumption | exact rfl) (by first | with_reducible assumption | omega | exact rfl) (by first | omega | exact Nat.le_of_ble_eq_true rfl) ?h6 ?_; (case h6 => k_extra "same"); k_whole; intro hp_q tkq_q F_q N_q;  walk_at "u end")))
  k_with "ct" => ((with_reducible show wpAny _ _ (call (Value.ref 430) [Value.str _ _]) _ _ _); k_dflt (first | (refine wpAny_call ?_; refine' numbered_U (by k_asm) (by k_asm) (by k_asm) (by k_asm) rfl rfl (by walk_at "u dp") (by walk_at "u un")  ?_; k_whole; intro vp_q Tp_q hp_q tkq_q kpp_q hh_q fr_q tu_q;  (have ap_q := fresh_apart fr_q (by k_asm : News _ _ _ _)); (have F_q := after_noneF (by k_asm) kpp_q); (have N_q := after_noneN (by k_asm) kpp_q); (replace N_q := new_entries (by k_asm) N_q fr_q hh_q); walk_at "u end")))
  k_with "ct" => ((with_reducible show wpAny _ _ (call (Value.ref 135) [Value.str _ _]) _ _ _); k_dflt (first | (refine wpAny_call ?_; refine' is_equality_code (by k_asm) (by k_asm) (by k_asm) (by k_asm) rfl rfl (by walk_at "u dp") (by walk_at "u un")  ?_; k_whole; intro hp_q tkq_q kpp_q; (have F_q := after_noneF (by k_asm) kpp_q); (have N_q := after_noneN (by k_asm) kpp_q); walk_at "u end")))
  k_with "ct" => ((with_reducible show wpAny _ _ (call (Value.ref 409) [Value.ref _, Value.int _ _]) _ _ _); k_dflt (first | (refine wpAny_call ?_; refine' pick_code (by k_asm) (by k_asm) (by k_asm) (by k_asm) rfl rfl (by walk_at "u dp") (by walk_at "u un") (by exact List.forall_mem_cons.mpr ⟨(by k_asm : News _ _ _ _) _ (by k_mem), List.forall_mem_nil _⟩) (by walk_at "u om") (by walk_at "u om") (by walk_at "u om") (by walk_at "u om") (by walk_at "u om") ?_; k_whole; intro kp_q xp_q yp_q tkp_q t1p_q t2p_q hp_q tkq_q hkp0_q hkp1_q hxp_q hyp0_q hyp1_q kpp_q hbp_q; (have F_q := after_oneF (by k_asm) (by k_asm) (by k_mem) kpp_q); (have N_q := after_oneN (by k_asm) (by k_asm) (U := by k_upd) kpp_q hbp_q); walk_at "u end")))
  k_with "ct" => ((with_reducible show wpAny _ _ (call (Value.ref 416) [Value.ref _, Value.ref _]) _ _ _); k_dflt (first | (refine wpAny_call ?_; refine' one_code (by k_asm) (by k_asm) (by k_asm) (by k_asm) rfl rfl (by walk_at "u dp") (by walk_at "u un") (by exact List.forall_mem_cons.mpr ⟨(by k_asm : News _ _ _ _) _ (by k_mem), List.forall_mem_cons.mpr ⟨(by k_asm : News _ _ _ _) _ (by k_mem), List.forall_mem_nil _⟩⟩) (by (first | k_ne | omega)) (by walk_at "u om") (by walk_at "u om") (by walk_at "u om") (by (first | omega | decide | (simp only [List.length_cons, List.length_nil]; omega))) (by (first | omega | decide | (simp only [List.length_cons, List.length_nil]; omega))) ?_; k_whole; intro vp_q xp_q yp_q t1p_q t2p_q hp_q tkq_q hvp_q hxp_q hyp0_q hyp1_q kpp_q hbp_q; (have F_q := after_oneF (by k_asm) (by k_asm) (by k_mem) kpp_q); (have N_q := after_oneN (by k_asm) (by k_asm) (U := by k_upd) kpp_q hbp_q); walk_at "u end")))
  k_with "ct" => ((with_reducible show wpAny _ _ (call (Value.ref 444) [Value.ref _]) _ _ _); k_dflt (first | (refine wpAny_call ?_; refine' plain_code (by k_asm) (by k_asm) (by k_asm) (by k_asm) rfl rfl (by walk_at "u dp") (by walk_at "u un") (by exact List.forall_mem_cons.mpr ⟨(by k_asm : News _ _ _ _) _ (by k_mem), List.forall_mem_nil _⟩) (by walk_at "u om") (by walk_at "u om") (by walk_at "u om") ?_; k_whole; intro ap_q aq_q vp_q pp_q qp_q t3p_q t4p_q xp_q yp_q t1p_q t2p_q hp_q tkq_q he1_q he2_q hbp_q kpp_q hn1_q hn2_q hpv_q hxp_q hyp0_q hyp1_q; (have F_q := after_oneF (by k_asm) (by k_asm) (by k_mem) kpp_q); (have N_q := after_oneN (by k_asm) (by k_asm) (U := by k_upd) kpp_q hbp_q); (have ne1_q := allNe_of hn1_q (by k_asm : News _ _ _ _)); (have ne2_q := allNe_of hn2_q (by k_asm : News _ _ _ _)); (replace N_q := new_entry (by k_asm) (new_entry (by k_asm) N_q hn2_q he2_q) hn1_q he1_q); (simp only [AllNe, and_true] at ne1_q ne2_q); (repeat (have _ := And.left ne1_q; replace ne1_q := And.right ne1_q)); (repeat (have _ := And.left ne2_q; replace ne2_q := And.right ne2_q)); walk_at "u end")))
  k_with "ct" => ((with_reducible show wpAny _ _ (call (Value.ref 145) [Value.ref _, Value.ref _]) _ _ _); k_dflt (first | (refine wpAny_call ?_; refine' texts_of_code (by k_asm) (by k_asm) (by k_asm) (by k_asm) rfl rfl (by walk_at "u dp") (by walk_at "u un") (by with_reducible assumption) (by k_asm) ?h1 ?h2 ?h3 ?h4 ?h5 ?h6 ?_; (case h1 => exact (fun p hp => by (repeat (first | exact hp | exact (by k_extra "sub") | refine List.Mem.tail _ ?_)))); (case h2 => k_mem); (case h3 => first | with_reducible assumption | exact rfl); (case h4 => first | with_reducible assumption | omega | (simp only [List.length_append, List.length_set, List.length_cons, List.length_nil]; omega) | exact (by decide)); (case h5 => k_extra "nvs"); (case h6 => first | with_reducible assumption | omega | (simp only [List.length_append, List.length_set, List.length_cons, List.length_nil]; omega) | exact (by decide)); k_whole; intro lp_q ysp_q hp_q tkq_q hly_q hty_q F_q N_q;  walk_at "u end")))
  k_with "ct" => ((with_reducible show wpAny _ _ (call (Value.ref 152) [Value.str _ _, _, _, Value.ref _]) _ _ _); k_dflt (first | (refine wpAny_call ?_; refine' listed_val (by k_asm) (by k_asm) (by k_asm) (by k_asm) rfl rfl (by walk_at "u dp") (by walk_at "u un") (by k_asm) ?h1 ?_; (case h1 => k_extra "numv"); k_whole; intro lp_q yp_q ep_q Tp_q hp_q tkq_q hyp_q F_q N_q;  walk_at "u end")))
  k_with "ct" => ((with_reducible show wpAny _ _ (call (Value.ref 152) [Value.str _ _, Value.ref _, _, Value.ref _]) _ _ _); k_dflt (first | (refine wpAny_call ?_; refine' listed_list (by k_asm) (by k_asm) (by k_asm) (by k_asm) rfl rfl (by walk_at "u dp") (by walk_at "u un") (by with_reducible assumption) (by k_asm) ?h1 ?h2 ?h3 ?h4 ?h5 ?h6 ?h7 ?_; (case h1 => exact (fun p hp => by (repeat (first | exact hp | exact (by k_extra "sub") | refine List.Mem.tail _ ?_)))); (case h2 => k_mem); (case h3 => first | with_reducible assumption | exact rfl); (case h4 => first | with_reducible assumption | omega | (simp only [List.length_append, List.length_set, List.length_cons, List.length_nil]; omega) | exact (by decide)); (case h5 => k_extra "nvs"); (case h6 => first | with_reducible assumption | omega | (simp only [List.length_append, List.length_set, List.length_cons, List.length_nil]; omega) | exact (by decide)); (case h7 => k_extra "oth"); k_whole; intro lp_q ysp_q ep_q Tp_q hp_q tkq_q hly_q hty_q F_q N_q;  walk_at "u end")))
  k_with "ct" => ((with_reducible show wpAny _ _ (call (Value.ref 140) [Value.str _ _, Value.ref _, _]) _ _ _); k_dflt (first | (refine wpAny_call ?_; refine' as_compared_code (by k_asm) (by k_asm) (by k_asm) (by k_asm) rfl rfl (by walk_at "u dp") (by walk_at "u un") (by k_asm) (by k_mem) (by first | with_reducible assumption | exact rfl) (by first | with_reducible assumption | omega | (simp only [List.length_append, List.length_set, List.length_cons, List.length_nil]; omega) | exact (by decide)) ?h4 ?h5 ?_; (case h4 => k_extra "vs"); (case h5 => k_extra "oth"); k_whole; intro lp_q ysp_q ep_q Tp_q hp_q tkq_q hly_q hty_q F_q N_q;  walk_at "u end")))
  k_with "ct" => ((with_reducible show wpAny _ _ (call (Value.ref 402) [Value.ref _]) _ _ _); k_dflt (first | (refine wpAny_call ?_; refine' bag_U (by k_asm) (by k_asm) (by k_asm) (by k_asm) rfl rfl (by walk_at "u dp") (by walk_at "u un") (by assumption) (by assumption) ?_; k_whole; intro bp_q xp_q yp_q t1p_q t2p_q hp_q tkq_q hep_q kpp_q hn1_q hxp_q hyp0_q hyp1_q; (have F_q := after_noneF (by k_asm) kpp_q); (have N_q := after_noneN (by k_asm) kpp_q); (have ne1_q := allNe_of hn1_q (by k_asm : News _ _ _ _)); (replace N_q := new_entry (by k_asm) N_q hn1_q hep_q); (simp only [AllNe, and_true] at ne1_q); (repeat (have _ := And.left ne1_q; replace ne1_q := And.right ne1_q)); walk_at "u end")))
  k_with "size" => exact size_ok (by omega)
  k_with "comp" => refine HoldC.out ?_
  k_steps
  refine HoldC.mk ?_
  refine comp_mapP (fun j y => NodeAt rows ns sts j y) (.inr ⟨_, by k_mem, rfl, _, rfl⟩) ?_ ?_
  · refine HoldC.mk ?_
    intro i v hi hP
    obtain ⟨a, n, st, t1, t2, rfl, hm, hsv, ht, hst, hns⟩ := hst0 i v (by simpa using hP)
    have hm2 := hNI3.tl hm
    refine ⟨a, _, _, _, _, rfl, by k_mem, rfl, rfl, ?_⟩
    intro yy I1 oI C1 oC D1 m₂ h5 tk5 E' hC hxx hxx2 F5 N5
    k_steps
    rename Fr _ _ _ _ => zF
    rename News _ _ _ _ => zN
    exact CEnd.mk0 zF zN ⟨rfl, _, _, st, rfl, hst, hns, hsv, ht⟩
  · refine HoldC.mk ?_
    intro vn2 hvnl2 hvn2
    k_with "eq" => refine eq_ints (ns := ns) (vs := vn) (us := vn2) (by k_asm) (by k_mem) (by k_mem) (by rw [hvn, hln]) (by rw [hvnl2, List.size_toArray, hln]) (NodeAt.weak hrn) (NodeAt.weak hvn2) (by ke_room) ?_
    k_steps
    refine HoldC.mk ?_
    refine comp_mapP (fun j y => TextAt sts j y) (.inr ⟨_, by k_mem, rfl, _, rfl⟩) ?_ ?_
    · refine HoldC.mk ?_
      intro i v hi hP
      obtain ⟨a, n, st, t1, t2, rfl, hm, hsv, ht, hst, hns⟩ := hst0 i v (by simpa using hP)
      have hm2 := hNI3.tl hm
      refine ⟨a, _, _, _, _, rfl, by k_mem, rfl, rfl, ?_⟩
      intro yy I1 oI C1 oC D1 m₂ h5 tk5 E' hC hxx hxx2 F5 N5
      k_steps
      rename Fr _ _ _ _ => zF
      rename News _ _ _ _ => zN
      exact CEnd.mk0 zF zN ⟨rfl, _, _, hst, rfl, ht⟩
    · refine HoldC.mk ?_
      intro vt2 hvtl2 hvt2
      k_with "eq" => refine eq_strs (sts := sts) (vs := vt) (us := vt2) (by k_asm) (by k_mem) (by k_mem) hvt' (by rw [hvtl2, List.size_toArray, hls]) htw (TextAt.weak hvt2) hok (by ke_room) ?_
      k_steps

end
end Mine
theorem PySem.Challenge.cw_xm0671_01_holds : PySem.Challenge.rw_xm0671_01.Holds := by
  exact Mine.law_dev
