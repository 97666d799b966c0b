import PyProof.Rows.All
import Wide.All
import OpenK.AllK
import Wide.FinOn
import PySem.Challenge.RW_on0184_01
open PySem PySem.W PyProof.Rows
set_option Elab.async false
set_option linter.all false
namespace Mine
set_option maxRecDepth 100000
noncomputable def defAt (i j : Nat) : Option (Str × Arguments × List Stmt × Scope) :=
  match PySem.Challenge.pw_on0184_01.main.body[i]? with
  | some (.FunctionDef n ps b _ _ _ sc _ _ _) => some (n, ps, b, sc)
  | some (.ClassDef _ _ _ bs _ _ _ _ _ _ _) => match bs[j - 1]? with
    | some (.FunctionDef n ps b _ _ _ sc _ _ _) => some (n, ps, b, sc)
    | _ => none
  | _ => none
noncomputable def fnO {n : Str} {ps : Arguments} {b : List Stmt} {sc : Scope} (q : Str) (pm cd dV : Value) (i j : Nat) (_ : defAt i j = some (n, ps, b, sc)) : Obj :=
  ⟨.type "function", none, .func (fnOf n q ps b sc dV .none .none pm none cd .none), #[]⟩
noncomputable def kfr : Params → Frag := fun P =>
  (nat_lit 2, ⟨.none, .none, (.dict #[⟨(PySem.PyData.keyHash P "type.__subclasses__.Exception.0"), (.str "type.__subclasses__.Exception.0" 302), (.int 90 0)⟩, ⟨(PySem.PyData.keyHash P "type.__subclasses__.Exception.n"), (.str "type.__subclasses__.Exception.n" 303), (.int 1 0)⟩] 2), #[]⟩) ::
  (nat_lit 3, ⟨(.type "dict"), .none, (.dict #[⟨(PySem.PyData.keyHash P "__name__"), (.str "__name__" 165), (.str "law_on0184_01" 477)⟩, ⟨(PySem.PyData.keyHash P "__doc__"), (.str "__doc__" 166), .none⟩, ⟨(PySem.PyData.keyHash P "__package__"), (.str "__package__" 167), .none⟩, ⟨(PySem.PyData.keyHash P "__loader__"), (.str "__loader__" 168), (.builtin "__main__.__loader__#opaque")⟩, ⟨(PySem.PyData.keyHash P "__spec__"), (.str "__spec__" 169), .none⟩, ⟨(PySem.PyData.keyHash P "__annotations__"), (.str "__annotations__" 170), (.ref 6)⟩, ⟨(PySem.PyData.keyHash P "__builtins__"), (.str "__builtins__" 171), (.ref 4)⟩, ⟨(PySem.PyData.keyHash P "__file__"), (.str "__file__" 173), (.str "/claim/cut.py" 172)⟩, ⟨(PySem.PyData.keyHash P "__cached__"), (.str "__cached__" 174), .none⟩, ⟨(PySem.PyData.keyHash P "read_choices"), (.str "read_choices" 198), (.ref 21)⟩, ⟨(PySem.PyData.keyHash P "SPACES"), (.str "SPACES" 202), (.str " \t\n\x0d" 201)⟩, ⟨(PySem.PyData.keyHash P "START_RANGES"), (.str "START_RANGES" 227), (.ref 34)⟩, ⟨(PySem.PyData.keyHash P "MORE_RANGES"), (.str "MORE_RANGES" 234), (.ref 38)⟩, ⟨(PySem.PyData.keyHash P "FIRST_BEYOND"), (.str "FIRST_BEYOND" 236), (.int 128 235)⟩, ⟨(PySem.PyData.keyHash P "is_in_ranges"), (.str "is_in_ranges" 246), (.ref 45)⟩, ⟨(PySem.PyData.keyHash P "is_space"), (.str "is_space" 253), (.ref 52)⟩, ⟨(PySem.PyData.keyHash P "is_small_letter"), (.str "is_small_letter" 260), (.ref 59)⟩, ⟨(PySem.PyData.keyHash P "is_name_start"), (.str "is_name_start" 267), (.ref 66)⟩, ⟨(PySem.PyData.keyHash P "is_name_char"), (.str "is_name_char" 274), (.ref 73)⟩, ⟨(PySem.PyData.keyHash P "MarkupError"), (.str "MarkupError" 305), (.ref 90)⟩, ⟨(PySem.PyData.keyHash P "DtdFault"), (.str "DtdFault" 332), (.ref 111)⟩, ⟨(PySem.PyData.keyHash P "DtdScanner"), (.str "DtdScanner" 465), (.ref 221)⟩, ⟨(PySem.PyData.keyHash P "declaration_end"), (.str "declaration_end" 476), (.ref 232)⟩, ⟨(PySem.PyData.keyHash P "_law_pool"), (.str "_law_pool" 489), (.ref 239)⟩, ⟨(PySem.PyData.keyHash P "_law_take"), (.str "_law_take" 498), (.ref 246)⟩, ⟨(PySem.PyData.keyHash P "_law_one"), (.str "_law_one" 506), (.ref 253)⟩, ⟨(PySem.PyData.keyHash P "_law_pieces"), (.str "_law_pieces" 512), (.ref 258)⟩, ⟨(PySem.PyData.keyHash P "_law_read"), (.str "_law_read" 520), (.ref 265)⟩, ⟨(PySem.PyData.keyHash P "_law_refused"), (.str "_law_refused" 530), (.ref 272)⟩, ⟨(PySem.PyData.keyHash P "_law_others_refused"), (.str "_law_others_refused" 536), (.ref 277)⟩, ⟨(PySem.PyData.keyHash P "_law_text_right"), (.str "_law_text_right" 542), (.ref 282)⟩, ⟨(PySem.PyData.keyHash P "_law_choices"), (.str "_law_choices" 554), (.ref 290)⟩, ⟨(PySem.PyData.keyHash P "_law_choices_right"), (.str "_law_choices_right" 560), (.ref 295)⟩, ⟨(PySem.PyData.keyHash P "_law_end_right"), (.str "_law_end_right" 571), (.ref 302)⟩, ⟨(PySem.PyData.keyHash P "law"), (.str "law" 582), (.ref 309)⟩] 35), #[]⟩) ::
  (nat_lit 15, ⟨(.type "tuple"), .none, (.seq #[] 0), #[]⟩) ::
  (nat_lit 17, ⟨(.type "tuple"), .none, (.seq #[(.str "inner" 192), (.str "is_notation" 193), (.str "found" 194), (.str "name" 195)] 0), #[]⟩) ::
  (nat_lit 18, ⟨(.type "tuple"), .none, (.seq #[] 0), #[]⟩) ::
  (nat_lit 20, ⟨(.type "code"), .none, (.fields #[(.str "read_choices" 189), (.str "read_choices" 190), (.str "/claim/cut.py" 191), (.int 2 0), (.int 2 0), (.int 0 0), (.int 0 0), (.int 3 0), (.ref 15), (.bool .true), (.int 181 0), (.ref 16), .none, (.ref 17), (.ref 18), (.ref 19), (.int 196 0), (.int 2 0), (.str "/claim/cut.py" 197)]), #[]⟩) ::
  (nat_lit 21, fnO "read_choices" (.str "markupmill.dtd_reader" 187) (.ref 20) .none 1 0 rfl) ::
  (nat_lit 22, ⟨(.type "tuple"), .none, (.seq #[(.int 192 203), (.int 214 204)] 0), #[]⟩) ::
  (nat_lit 23, ⟨(.type "tuple"), .none, (.seq #[(.int 216 205), (.int 246 206)] 0), #[]⟩) ::
  (nat_lit 24, ⟨(.type "tuple"), .none, (.seq #[(.int 248 207), (.int 767 208)] 0), #[]⟩) ::
  (nat_lit 25, ⟨(.type "tuple"), .none, (.seq #[(.int 880 209), (.int 893 210)] 0), #[]⟩) ::
  (nat_lit 26, ⟨(.type "tuple"), .none, (.seq #[(.int 895 211), (.int 8191 212)] 0), #[]⟩) ::
  (nat_lit 27, ⟨(.type "tuple"), .none, (.seq #[(.int 8204 213), (.int 8205 214)] 0), #[]⟩) ::
  (nat_lit 28, ⟨(.type "tuple"), .none, (.seq #[(.int 8304 215), (.int 8591 216)] 0), #[]⟩) ::
  (nat_lit 29, ⟨(.type "tuple"), .none, (.seq #[(.int 11264 217), (.int 12271 218)] 0), #[]⟩) ::
  (nat_lit 30, ⟨(.type "tuple"), .none, (.seq #[(.int 12289 219), (.int 55295 220)] 0), #[]⟩) ::
  (nat_lit 31, ⟨(.type "tuple"), .none, (.seq #[(.int 63744 221), (.int 64975 222)] 0), #[]⟩) ::
  (nat_lit 32, ⟨(.type "tuple"), .none, (.seq #[(.int 65008 223), (.int 65533 224)] 0), #[]⟩) ::
  (nat_lit 33, ⟨(.type "tuple"), .none, (.seq #[(.int 65536 225), (.int 983039 226)] 0), #[]⟩) ::
  (nat_lit 34, ⟨(.type "tuple"), .none, (.seq #[(.ref 22), (.ref 23), (.ref 24), (.ref 25), (.ref 26), (.ref 27), (.ref 28), (.ref 29), (.ref 30), (.ref 31), (.ref 32), (.ref 33)] 0), #[]⟩) ::
  (nat_lit 35, ⟨(.type "tuple"), .none, (.seq #[(.int 183 228), (.int 183 229)] 0), #[]⟩) ::
  (nat_lit 36, ⟨(.type "tuple"), .none, (.seq #[(.int 768 230), (.int 879 231)] 0), #[]⟩) ::
  (nat_lit 37, ⟨(.type "tuple"), .none, (.seq #[(.int 8255 232), (.int 8256 233)] 0), #[]⟩) ::
  (nat_lit 38, ⟨(.type "tuple"), .none, (.seq #[(.ref 35), (.ref 36), (.ref 37)] 0), #[]⟩) ::
  (nat_lit 39, ⟨(.type "tuple"), .none, (.seq #[] 0), #[]⟩) ::
  (nat_lit 41, ⟨(.type "tuple"), .none, (.seq #[(.str "code" 240), (.str "ranges" 241), (.str "low" 242), (.str "high" 243)] 0), #[]⟩) ::
  (nat_lit 42, ⟨(.type "tuple"), .none, (.seq #[] 0), #[]⟩) ::
  (nat_lit 44, ⟨(.type "code"), .none, (.fields #[(.str "is_in_ranges" 237), (.str "is_in_ranges" 238), (.str "/claim/cut.py" 239), (.int 20 0), (.int 2 0), (.int 0 0), (.int 0 0), (.int 3 0), (.ref 39), (.bool .true), (.int 181 0), (.ref 40), .none, (.ref 41), (.ref 42), (.ref 43), (.int 244 0), (.int 20 0), (.str "/claim/cut.py" 245)]), #[]⟩) ::
  (nat_lit 45, fnO "is_in_ranges" (.str "markupmill.chars" 199) (.ref 44) .none 7 0 rfl) ::
  (nat_lit 46, ⟨(.type "tuple"), .none, (.seq #[] 0), #[]⟩) ::
  (nat_lit 48, ⟨(.type "tuple"), .none, (.seq #[(.str "sign" 250)] 0), #[]⟩) ::
  (nat_lit 49, ⟨(.type "tuple"), .none, (.seq #[] 0), #[]⟩) ::
  (nat_lit 51, ⟨(.type "code"), .none, (.fields #[(.str "is_space" 247), (.str "is_space" 248), (.str "/claim/cut.py" 249), (.int 27 0), (.int 1 0), (.int 0 0), (.int 0 0), (.int 3 0), (.ref 46), (.bool .true), (.int 181 0), (.ref 47), .none, (.ref 48), (.ref 49), (.ref 50), (.int 251 0), (.int 27 0), (.str "/claim/cut.py" 252)]), #[]⟩) ::
  (nat_lit 52, fnO "is_space" (.str "markupmill.chars" 199) (.ref 51) .none 8 0 rfl) ::
  (nat_lit 53, ⟨(.type "tuple"), .none, (.seq #[] 0), #[]⟩) ::
  (nat_lit 55, ⟨(.type "tuple"), .none, (.seq #[(.str "sign" 257)] 0), #[]⟩) ::
  (nat_lit 56, ⟨(.type "tuple"), .none, (.seq #[] 0), #[]⟩) ::
  (nat_lit 58, ⟨(.type "code"), .none, (.fields #[(.str "is_small_letter" 254), (.str "is_small_letter" 255), (.str "/claim/cut.py" 256), (.int 29 0), (.int 1 0), (.int 0 0), (.int 0 0), (.int 3 0), (.ref 53), (.bool .true), (.int 181 0), (.ref 54), .none, (.ref 55), (.ref 56), (.ref 57), (.int 258 0), (.int 29 0), (.str "/claim/cut.py" 259)]), #[]⟩) ::
  (nat_lit 59, fnO "is_small_letter" (.str "markupmill.chars" 199) (.ref 58) .none 9 0 rfl) ::
  (nat_lit 60, ⟨(.type "tuple"), .none, (.seq #[] 0), #[]⟩) ::
  (nat_lit 62, ⟨(.type "tuple"), .none, (.seq #[(.str "sign" 264)] 0), #[]⟩) ::
  (nat_lit 63, ⟨(.type "tuple"), .none, (.seq #[] 0), #[]⟩) ::
  (nat_lit 65, ⟨(.type "code"), .none, (.fields #[(.str "is_name_start" 261), (.str "is_name_start" 262), (.str "/claim/cut.py" 263), (.int 31 0), (.int 1 0), (.int 0 0), (.int 0 0), (.int 3 0), (.ref 60), (.bool .true), (.int 181 0), (.ref 61), .none, (.ref 62), (.ref 63), (.ref 64), (.int 265 0), (.int 31 0), (.str "/claim/cut.py" 266)]), #[]⟩) ::
  (nat_lit 66, fnO "is_name_start" (.str "markupmill.chars" 199) (.ref 65) .none 10 0 rfl) ::
  (nat_lit 67, ⟨(.type "tuple"), .none, (.seq #[] 0), #[]⟩) ::
  (nat_lit 69, ⟨(.type "tuple"), .none, (.seq #[(.str "sign" 271)] 0), #[]⟩) ::
  (nat_lit 70, ⟨(.type "tuple"), .none, (.seq #[] 0), #[]⟩) ::
  (nat_lit 72, ⟨(.type "code"), .none, (.fields #[(.str "is_name_char" 268), (.str "is_name_char" 269), (.str "/claim/cut.py" 270), (.int 35 0), (.int 1 0), (.int 0 0), (.int 0 0), (.int 3 0), (.ref 67), (.bool .true), (.int 181 0), (.ref 68), .none, (.ref 69), (.ref 70), (.ref 71), (.int 272 0), (.int 35 0), (.str "/claim/cut.py" 273)]), #[]⟩) ::
  (nat_lit 73, fnO "is_name_char" (.str "markupmill.chars" 199) (.ref 72) .none 11 0 rfl) ::
  (nat_lit 74, ⟨(.type "tuple"), .none, (.seq #[(.type "Exception")] 0), #[]⟩) ::
  (nat_lit 81, ⟨(.type "tuple"), .none, (.seq #[] 0), #[]⟩) ::
  (nat_lit 83, ⟨(.type "tuple"), .none, (.seq #[(.str "self" 292), (.str "message" 293)] 0), #[]⟩) ::
  (nat_lit 84, ⟨(.type "tuple"), .none, (.seq #[] 0), #[]⟩) ::
  (nat_lit 86, ⟨(.type "code"), .none, (.fields #[(.str "__init__" 289), (.str "MarkupError.__init__" 290), (.str "/claim/cut.py" 291), (.int 44 0), (.int 2 0), (.int 0 0), (.int 0 0), (.int 3 0), (.ref 81), (.bool .true), (.int 181 0), (.ref 82), .none, (.ref 83), (.ref 84), (.ref 85), (.int 294 0), (.int 44 0), (.str "/claim/cut.py" 295)]), #[]⟩) ::
  (nat_lit 87, fnO "MarkupError.__init__" (.str "markupmill.errors" 275) (.ref 86) .none 13 1 rfl) ::
  (nat_lit 88, ⟨(.type "tuple"), .none, (.seq #[(.str "message" 297)] 0), #[]⟩) ::
  (nat_lit 89, ⟨(.type "dict"), .none, (.dict #[⟨(PySem.PyData.keyHash P "__module__"), (.str "__module__" 284), (.str "markupmill.errors" 275)⟩, ⟨(PySem.PyData.keyHash P "__firstlineno__"), (.str "__firstlineno__" 288), (.int 42 287)⟩, ⟨(PySem.PyData.keyHash P "__init__"), (.str "__init__" 296), (.ref 87)⟩, ⟨(PySem.PyData.keyHash P "__static_attributes__"), (.str "__static_attributes__" 298), (.ref 88)⟩, ⟨(PySem.PyData.keyHash P "__weakref__"), (.str "__weakref__" 300), (.ref 91)⟩, ⟨(PySem.PyData.keyHash P "__doc__"), (.str "__doc__" 301), .none⟩] 3), #[]⟩) ::
  (nat_lit 90, ⟨(.type "type"), .none, (.cls ⟨"MarkupError", [(.type "Exception")], [(.ref 90), (.type "Exception"), (.type "BaseException"), (.type "object")], 89, "MarkupError", .true, [], [(.ref 111)], .false, .none, .false⟩), #[(.some (.ref 74)), .none, (.some (.str "MarkupError" 277)), (.some (.str "MarkupError" 285)), (.some (.builtin "Exception.__new__")), (.some (.bool .true))]⟩) ::
  (nat_lit 91, ⟨(.type "getset_descriptor"), .none, (.fields #[(.str "__weakref__" 299), (.ref 90), (.builtin "ExceptionGroup.__weakref__"), .none]), #[]⟩) ::
  (nat_lit 94, ⟨(.type "tuple"), .none, (.seq #[(.ref 90)] 0), #[]⟩) ::
  (nat_lit 101, ⟨(.type "tuple"), .none, (.seq #[(.int 0 318)] 0), #[]⟩) ::
  (nat_lit 102, ⟨(.type "tuple"), .none, (.seq #[] 0), #[]⟩) ::
  (nat_lit 104, ⟨(.type "tuple"), .none, (.seq #[(.str "self" 322), (.str "message" 323), (.str "place" 324)] 0), #[]⟩) ::
  (nat_lit 105, ⟨(.type "tuple"), .none, (.seq #[] 0), #[]⟩) ::
  (nat_lit 107, ⟨(.type "code"), .none, (.fields #[(.str "__init__" 319), (.str "DtdFault.__init__" 320), (.str "/claim/cut.py" 321), (.int 49 0), (.int 3 0), (.int 0 0), (.int 0 0), (.int 3 0), (.ref 102), (.bool .true), (.int 181 0), (.ref 103), .none, (.ref 104), (.ref 105), (.ref 106), (.int 325 0), (.int 49 0), (.str "/claim/cut.py" 326)]), #[]⟩) ::
  (nat_lit 108, fnO "DtdFault.__init__" (.str "markupmill.errors" 275) (.ref 107) (.ref 101) 14 1 rfl) ::
  (nat_lit 109, ⟨(.type "tuple"), .none, (.seq #[(.str "place" 328)] 0), #[]⟩) ::
  (nat_lit 110, ⟨(.type "dict"), .none, (.dict #[⟨(PySem.PyData.keyHash P "__module__"), (.str "__module__" 313), (.str "markupmill.errors" 275)⟩, ⟨(PySem.PyData.keyHash P "__firstlineno__"), (.str "__firstlineno__" 317), (.int 47 316)⟩, ⟨(PySem.PyData.keyHash P "__init__"), (.str "__init__" 327), (.ref 108)⟩, ⟨(PySem.PyData.keyHash P "__static_attributes__"), (.str "__static_attributes__" 329), (.ref 109)⟩, ⟨(PySem.PyData.keyHash P "__doc__"), (.str "__doc__" 330), .none⟩] 2), #[]⟩) ::
  (nat_lit 111, ⟨(.type "type"), .none, (.cls ⟨"DtdFault", [(.ref 90)], [(.ref 111), (.ref 90), (.type "Exception"), (.type "BaseException"), (.type "object")], 110, "DtdFault", .true, [], [], .false, .none, .false⟩), #[(.some (.ref 94)), .none, (.some (.str "DtdFault" 306)), (.some (.str "DtdFault" 314)), (.some (.builtin "Exception.__new__")), (.some (.bool .true))]⟩) ::
  (nat_lit 121, ⟨(.type "tuple"), .none, (.seq #[] 0), #[]⟩) ::
  (nat_lit 123, ⟨(.type "tuple"), .none, (.seq #[(.str "self" 350), (.str "text" 351)] 0), #[]⟩) ::
  (nat_lit 124, ⟨(.type "tuple"), .none, (.seq #[] 0), #[]⟩) ::
  (nat_lit 126, ⟨(.type "code"), .none, (.fields #[(.str "__init__" 347), (.str "DtdScanner.__init__" 348), (.str "/claim/cut.py" 349), (.int 55 0), (.int 2 0), (.int 0 0), (.int 0 0), (.int 3 0), (.ref 121), (.bool .true), (.int 181 0), (.ref 122), .none, (.ref 123), (.ref 124), (.ref 125), (.int 352 0), (.int 55 0), (.str "/claim/cut.py" 353)]), #[]⟩) ::
  (nat_lit 127, fnO "DtdScanner.__init__" (.str "markupmill.dtd_words" 333) (.ref 126) .none 16 1 rfl) ::
  (nat_lit 128, ⟨(.type "tuple"), .none, (.seq #[] 0), #[]⟩) ::
  (nat_lit 130, ⟨(.type "tuple"), .none, (.seq #[(.str "self" 358), (.str "message" 359)] 0), #[]⟩) ::
  (nat_lit 131, ⟨(.type "tuple"), .none, (.seq #[] 0), #[]⟩) ::
  (nat_lit 133, ⟨(.type "code"), .none, (.fields #[(.str "fault" 355), (.str "DtdScanner.fault" 356), (.str "/claim/cut.py" 357), (.int 59 0), (.int 2 0), (.int 0 0), (.int 0 0), (.int 3 0), (.ref 128), (.bool .true), (.int 181 0), (.ref 129), .none, (.ref 130), (.ref 131), (.ref 132), (.int 360 0), (.int 59 0), (.str "/claim/cut.py" 361)]), #[]⟩) ::
  (nat_lit 134, fnO "DtdScanner.fault" (.str "markupmill.dtd_words" 333) (.ref 133) .none 16 2 rfl) ::
  (nat_lit 135, ⟨(.type "tuple"), .none, (.seq #[] 0), #[]⟩) ::
  (nat_lit 137, ⟨(.type "tuple"), .none, (.seq #[(.str "self" 366)] 0), #[]⟩) ::
  (nat_lit 138, ⟨(.type "tuple"), .none, (.seq #[] 0), #[]⟩) ::
  (nat_lit 140, ⟨(.type "code"), .none, (.fields #[(.str "is_over" 363), (.str "DtdScanner.is_over" 364), (.str "/claim/cut.py" 365), (.int 62 0), (.int 1 0), (.int 0 0), (.int 0 0), (.int 3 0), (.ref 135), (.bool .true), (.int 181 0), (.ref 136), .none, (.ref 137), (.ref 138), (.ref 139), (.int 367 0), (.int 62 0), (.str "/claim/cut.py" 368)]), #[]⟩) ::
  (nat_lit 141, fnO "DtdScanner.is_over" (.str "markupmill.dtd_words" 333) (.ref 140) .none 16 3 rfl) ::
  (nat_lit 142, ⟨(.type "tuple"), .none, (.seq #[] 0), #[]⟩) ::
  (nat_lit 144, ⟨(.type "tuple"), .none, (.seq #[(.str "self" 373), (.str "word" 374)] 0), #[]⟩) ::
  (nat_lit 145, ⟨(.type "tuple"), .none, (.seq #[] 0), #[]⟩) ::
  (nat_lit 147, ⟨(.type "code"), .none, (.fields #[(.str "looks" 370), (.str "DtdScanner.looks" 371), (.str "/claim/cut.py" 372), (.int 65 0), (.int 2 0), (.int 0 0), (.int 0 0), (.int 3 0), (.ref 142), (.bool .true), (.int 181 0), (.ref 143), .none, (.ref 144), (.ref 145), (.ref 146), (.int 375 0), (.int 65 0), (.str "/claim/cut.py" 376)]), #[]⟩) ::
  (nat_lit 148, fnO "DtdScanner.looks" (.str "markupmill.dtd_words" 333) (.ref 147) .none 16 4 rfl) ::
  (nat_lit 149, ⟨(.type "tuple"), .none, (.seq #[] 0), #[]⟩) ::
  (nat_lit 151, ⟨(.type "tuple"), .none, (.seq #[(.str "self" 381), (.str "word" 382)] 0), #[]⟩) ::
  (nat_lit 152, ⟨(.type "tuple"), .none, (.seq #[] 0), #[]⟩) ::
  (nat_lit 154, ⟨(.type "code"), .none, (.fields #[(.str "takes" 378), (.str "DtdScanner.takes" 379), (.str "/claim/cut.py" 380), (.int 68 0), (.int 2 0), (.int 0 0), (.int 0 0), (.int 3 0), (.ref 149), (.bool .true), (.int 181 0), (.ref 150), .none, (.ref 151), (.ref 152), (.ref 153), (.int 383 0), (.int 68 0), (.str "/claim/cut.py" 384)]), #[]⟩) ::
  (nat_lit 155, fnO "DtdScanner.takes" (.str "markupmill.dtd_words" 333) (.ref 154) .none 16 5 rfl) ::
  (nat_lit 156, ⟨(.type "tuple"), .none, (.seq #[] 0), #[]⟩) ::
  (nat_lit 158, ⟨(.type "tuple"), .none, (.seq #[(.str "self" 389), (.str "word" 390)] 0), #[]⟩) ::
  (nat_lit 159, ⟨(.type "tuple"), .none, (.seq #[] 0), #[]⟩) ::
  (nat_lit 161, ⟨(.type "code"), .none, (.fields #[(.str "expect" 386), (.str "DtdScanner.expect" 387), (.str "/claim/cut.py" 388), (.int 74 0), (.int 2 0), (.int 0 0), (.int 0 0), (.int 3 0), (.ref 156), (.bool .true), (.int 181 0), (.ref 157), .none, (.ref 158), (.ref 159), (.ref 160), (.int 391 0), (.int 74 0), (.str "/claim/cut.py" 392)]), #[]⟩) ::
  (nat_lit 162, fnO "DtdScanner.expect" (.str "markupmill.dtd_words" 333) (.ref 161) .none 16 6 rfl) ::
  (nat_lit 163, ⟨(.type "tuple"), .none, (.seq #[] 0), #[]⟩) ::
  (nat_lit 165, ⟨(.type "tuple"), .none, (.seq #[(.str "self" 397), (.str "begin" 398)] 0), #[]⟩) ::
  (nat_lit 166, ⟨(.type "tuple"), .none, (.seq #[] 0), #[]⟩) ::
  (nat_lit 168, ⟨(.type "code"), .none, (.fields #[(.str "spaces" 394), (.str "DtdScanner.spaces" 395), (.str "/claim/cut.py" 396), (.int 78 0), (.int 1 0), (.int 0 0), (.int 0 0), (.int 3 0), (.ref 163), (.bool .true), (.int 181 0), (.ref 164), .none, (.ref 165), (.ref 166), (.ref 167), (.int 399 0), (.int 78 0), (.str "/claim/cut.py" 400)]), #[]⟩) ::
  (nat_lit 169, fnO "DtdScanner.spaces" (.str "markupmill.dtd_words" 333) (.ref 168) .none 16 7 rfl) ::
  (nat_lit 170, ⟨(.type "tuple"), .none, (.seq #[] 0), #[]⟩) ::
  (nat_lit 172, ⟨(.type "tuple"), .none, (.seq #[(.str "self" 405)] 0), #[]⟩) ::
  (nat_lit 173, ⟨(.type "tuple"), .none, (.seq #[] 0), #[]⟩) ::
  (nat_lit 175, ⟨(.type "code"), .none, (.fields #[(.str "need_spaces" 402), (.str "DtdScanner.need_spaces" 403), (.str "/claim/cut.py" 404), (.int 84 0), (.int 1 0), (.int 0 0), (.int 0 0), (.int 3 0), (.ref 170), (.bool .true), (.int 181 0), (.ref 171), .none, (.ref 172), (.ref 173), (.ref 174), (.int 406 0), (.int 84 0), (.str "/claim/cut.py" 407)]), #[]⟩) ::
  (nat_lit 176, fnO "DtdScanner.need_spaces" (.str "markupmill.dtd_words" 333) (.ref 175) .none 16 8 rfl) ::
  (nat_lit 177, ⟨(.type "tuple"), .none, (.seq #[] 0), #[]⟩) ::
  (nat_lit 179, ⟨(.type "tuple"), .none, (.seq #[(.str "self" 412)] 0), #[]⟩) ::
  (nat_lit 180, ⟨(.type "tuple"), .none, (.seq #[] 0), #[]⟩) ::
  (nat_lit 182, ⟨(.type "code"), .none, (.fields #[(.str "looks_at_name" 409), (.str "DtdScanner.looks_at_name" 410), (.str "/claim/cut.py" 411), (.int 88 0), (.int 1 0), (.int 0 0), (.int 0 0), (.int 3 0), (.ref 177), (.bool .true), (.int 181 0), (.ref 178), .none, (.ref 179), (.ref 180), (.ref 181), (.int 413 0), (.int 88 0), (.str "/claim/cut.py" 414)]), #[]⟩) ::
  (nat_lit 183, fnO "DtdScanner.looks_at_name" (.str "markupmill.dtd_words" 333) (.ref 182) .none 16 9 rfl) ::
  (nat_lit 184, ⟨(.type "tuple"), .none, (.seq #[] 0), #[]⟩) ::
  (nat_lit 186, ⟨(.type "tuple"), .none, (.seq #[(.str "self" 419), (.str "begin" 420)] 0), #[]⟩) ::
  (nat_lit 187, ⟨(.type "tuple"), .none, (.seq #[] 0), #[]⟩) ::
  (nat_lit 189, ⟨(.type "code"), .none, (.fields #[(.str "token" 416), (.str "DtdScanner.token" 417), (.str "/claim/cut.py" 418), (.int 91 0), (.int 1 0), (.int 0 0), (.int 0 0), (.int 3 0), (.ref 184), (.bool .true), (.int 181 0), (.ref 185), .none, (.ref 186), (.ref 187), (.ref 188), (.int 421 0), (.int 91 0), (.str "/claim/cut.py" 422)]), #[]⟩) ::
  (nat_lit 190, fnO "DtdScanner.token" (.str "markupmill.dtd_words" 333) (.ref 189) .none 16 10 rfl) ::
  (nat_lit 191, ⟨(.type "tuple"), .none, (.seq #[] 0), #[]⟩) ::
  (nat_lit 193, ⟨(.type "tuple"), .none, (.seq #[(.str "self" 427)] 0), #[]⟩) ::
  (nat_lit 194, ⟨(.type "tuple"), .none, (.seq #[] 0), #[]⟩) ::
  (nat_lit 196, ⟨(.type "code"), .none, (.fields #[(.str "name" 424), (.str "DtdScanner.name" 425), (.str "/claim/cut.py" 426), (.int 99 0), (.int 1 0), (.int 0 0), (.int 0 0), (.int 3 0), (.ref 191), (.bool .true), (.int 181 0), (.ref 192), .none, (.ref 193), (.ref 194), (.ref 195), (.int 428 0), (.int 99 0), (.str "/claim/cut.py" 429)]), #[]⟩) ::
  (nat_lit 197, fnO "DtdScanner.name" (.str "markupmill.dtd_words" 333) (.ref 196) .none 16 11 rfl) ::
  (nat_lit 198, ⟨(.type "tuple"), .none, (.seq #[] 0), #[]⟩) ::
  (nat_lit 200, ⟨(.type "tuple"), .none, (.seq #[(.str "self" 434), (.str "word" 435), (.str "end" 436), (.str "found" 437)] 0), #[]⟩) ::
  (nat_lit 201, ⟨(.type "tuple"), .none, (.seq #[] 0), #[]⟩) ::
  (nat_lit 203, ⟨(.type "code"), .none, (.fields #[(.str "until" 431), (.str "DtdScanner.until" 432), (.str "/claim/cut.py" 433), (.int 104 0), (.int 2 0), (.int 0 0), (.int 0 0), (.int 3 0), (.ref 198), (.bool .true), (.int 181 0), (.ref 199), .none, (.ref 200), (.ref 201), (.ref 202), (.int 438 0), (.int 104 0), (.str "/claim/cut.py" 439)]), #[]⟩) ::
  (nat_lit 204, fnO "DtdScanner.until" (.str "markupmill.dtd_words" 333) (.ref 203) .none 16 12 rfl) ::
  (nat_lit 205, ⟨(.type "tuple"), .none, (.seq #[] 0), #[]⟩) ::
  (nat_lit 207, ⟨(.type "tuple"), .none, (.seq #[(.str "self" 444), (.str "quote" 445)] 0), #[]⟩) ::
  (nat_lit 208, ⟨(.type "tuple"), .none, (.seq #[] 0), #[]⟩) ::
  (nat_lit 210, ⟨(.type "code"), .none, (.fields #[(.str "quoted" 441), (.str "DtdScanner.quoted" 442), (.str "/claim/cut.py" 443), (.int 112 0), (.int 1 0), (.int 0 0), (.int 0 0), (.int 3 0), (.ref 205), (.bool .true), (.int 181 0), (.ref 206), .none, (.ref 207), (.ref 208), (.ref 209), (.int 446 0), (.int 112 0), (.str "/claim/cut.py" 447)]), #[]⟩) ::
  (nat_lit 211, fnO "DtdScanner.quoted" (.str "markupmill.dtd_words" 333) (.ref 210) .none 16 13 rfl) ::
  (nat_lit 212, ⟨(.type "tuple"), .none, (.seq #[] 0), #[]⟩) ::
  (nat_lit 214, ⟨(.type "tuple"), .none, (.seq #[(.str "self" 452)] 0), #[]⟩) ::
  (nat_lit 215, ⟨(.type "tuple"), .none, (.seq #[] 0), #[]⟩) ::
  (nat_lit 217, ⟨(.type "code"), .none, (.fields #[(.str "end" 449), (.str "DtdScanner.end" 450), (.str "/claim/cut.py" 451), (.int 118 0), (.int 1 0), (.int 0 0), (.int 0 0), (.int 3 0), (.ref 212), (.bool .true), (.int 181 0), (.ref 213), .none, (.ref 214), (.ref 215), (.ref 216), (.int 453 0), (.int 118 0), (.str "/claim/cut.py" 454)]), #[]⟩) ::
  (nat_lit 218, fnO "DtdScanner.end" (.str "markupmill.dtd_words" 333) (.ref 217) .none 16 14 rfl) ::
  (nat_lit 219, ⟨(.type "tuple"), .none, (.seq #[(.str "at" 456), (.str "text" 457)] 0), #[]⟩) ::
  (nat_lit 220, ⟨(.type "dict"), .none, (.dict #[⟨(PySem.PyData.keyHash P "__module__"), (.str "__module__" 342), (.str "markupmill.dtd_words" 333)⟩, ⟨(PySem.PyData.keyHash P "__firstlineno__"), (.str "__firstlineno__" 346), (.int 53 345)⟩, ⟨(PySem.PyData.keyHash P "__init__"), (.str "__init__" 354), (.ref 127)⟩, ⟨(PySem.PyData.keyHash P "fault"), (.str "fault" 362), (.ref 134)⟩, ⟨(PySem.PyData.keyHash P "is_over"), (.str "is_over" 369), (.ref 141)⟩, ⟨(PySem.PyData.keyHash P "looks"), (.str "looks" 377), (.ref 148)⟩, ⟨(PySem.PyData.keyHash P "takes"), (.str "takes" 385), (.ref 155)⟩, ⟨(PySem.PyData.keyHash P "expect"), (.str "expect" 393), (.ref 162)⟩, ⟨(PySem.PyData.keyHash P "spaces"), (.str "spaces" 401), (.ref 169)⟩, ⟨(PySem.PyData.keyHash P "need_spaces"), (.str "need_spaces" 408), (.ref 176)⟩, ⟨(PySem.PyData.keyHash P "looks_at_name"), (.str "looks_at_name" 415), (.ref 183)⟩, ⟨(PySem.PyData.keyHash P "token"), (.str "token" 423), (.ref 190)⟩, ⟨(PySem.PyData.keyHash P "name"), (.str "name" 430), (.ref 197)⟩, ⟨(PySem.PyData.keyHash P "until"), (.str "until" 440), (.ref 204)⟩, ⟨(PySem.PyData.keyHash P "quoted"), (.str "quoted" 448), (.ref 211)⟩, ⟨(PySem.PyData.keyHash P "end"), (.str "end" 455), (.ref 218)⟩, ⟨(PySem.PyData.keyHash P "__static_attributes__"), (.str "__static_attributes__" 458), (.ref 219)⟩, ⟨(PySem.PyData.keyHash P "__dict__"), (.str "__dict__" 460), (.ref 222)⟩, ⟨(PySem.PyData.keyHash P "__weakref__"), (.str "__weakref__" 462), (.ref 223)⟩, ⟨(PySem.PyData.keyHash P "__doc__"), (.str "__doc__" 463), .none⟩] 4), #[]⟩) ::
  (nat_lit 221, ⟨(.type "type"), .none, (.cls ⟨"DtdScanner", [(.type "object")], [(.ref 221), (.type "object")], 220, "DtdScanner", .true, [], [], .false, .none, .false⟩), #[.none, .none, (.some (.str "DtdScanner" 335)), (.some (.str "DtdScanner" 343)), (.some (.builtin "object.__new__")), (.some (.bool .true))]⟩) ::
  (nat_lit 222, ⟨(.type "getset_descriptor"), .none, (.fields #[(.str "__dict__" 459), (.ref 221), (.builtin "function.__dict__"), (.builtin "function.__dict__#set")]), #[]⟩) ::
  (nat_lit 223, ⟨(.type "getset_descriptor"), .none, (.fields #[(.str "__weakref__" 461), (.ref 221), (.builtin "ExceptionGroup.__weakref__"), .none]), #[]⟩) ::
  (nat_lit 226, ⟨(.type "tuple"), .none, (.seq #[] 0), #[]⟩) ::
  (nat_lit 228, ⟨(.type "tuple"), .none, (.seq #[(.str "text" 469), (.str "begin" 470), (.str "at" 471), (.str "quote" 472), (.str "sign" 473)] 0), #[]⟩) ::
  (nat_lit 229, ⟨(.type "tuple"), .none, (.seq #[] 0), #[]⟩) ::
  (nat_lit 231, ⟨(.type "code"), .none, (.fields #[(.str "declaration_end" 466), (.str "declaration_end" 467), (.str "/claim/cut.py" 468), (.int 122 0), (.int 2 0), (.int 0 0), (.int 0 0), (.int 3 0), (.ref 226), (.bool .true), (.int 181 0), (.ref 227), .none, (.ref 228), (.ref 229), (.ref 230), (.int 474 0), (.int 122 0), (.str "/claim/cut.py" 475)]), #[]⟩) ::
  (nat_lit 232, fnO "declaration_end" (.str "markupmill.dtd_words" 333) (.ref 231) .none 17 0 rfl) ::
  (nat_lit 233, ⟨(.type "tuple"), .none, (.seq #[] 0), #[]⟩) ::
  (nat_lit 235, ⟨(.type "tuple"), .none, (.seq #[(.str "script" 482), (.str "k" 483), (.str "cell" 484), (.str "big" 485), (.str "mixed" 486)] 0), #[]⟩) ::
  (nat_lit 236, ⟨(.type "tuple"), .none, (.seq #[] 0), #[]⟩) ::
  (nat_lit 238, ⟨(.type "code"), .none, (.fields #[(.str "_law_pool" 479), (.str "_law_pool" 480), (.str "/claim/cut.py" 481), (.int 136 0), (.int 2 0), (.int 0 0), (.int 0 0), (.int 3 0), (.ref 233), (.bool .true), (.int 181 0), (.ref 234), .none, (.ref 235), (.ref 236), (.ref 237), (.int 487 0), (.int 136 0), (.str "/claim/cut.py" 488)]), #[]⟩) ::
  (nat_lit 239, fnO "_law_pool" (.str "law_on0184_01" 477) (.ref 238) .none 19 0 rfl) ::
  (nat_lit 240, ⟨(.type "tuple"), .none, (.seq #[] 0), #[]⟩) ::
  (nat_lit 242, ⟨(.type "tuple"), .none, (.seq #[(.str "source" 493), (.str "top" 494), (.str "drawn" 495)] 0), #[]⟩) ::
  (nat_lit 243, ⟨(.type "tuple"), .none, (.seq #[] 0), #[]⟩) ::
  (nat_lit 245, ⟨(.type "code"), .none, (.fields #[(.str "_law_take" 490), (.str "_law_take" 491), (.str "/claim/cut.py" 492), (.int 143 0), (.int 2 0), (.int 0 0), (.int 0 0), (.int 3 0), (.ref 240), (.bool .true), (.int 181 0), (.ref 241), .none, (.ref 242), (.ref 243), (.ref 244), (.int 496 0), (.int 143 0), (.str "/claim/cut.py" 497)]), #[]⟩) ::
  (nat_lit 246, fnO "_law_take" (.str "law_on0184_01" 477) (.ref 245) .none 20 0 rfl) ::
  (nat_lit 247, ⟨(.type "tuple"), .none, (.seq #[] 0), #[]⟩) ::
  (nat_lit 249, ⟨(.type "tuple"), .none, (.seq #[(.str "source" 502), (.str "things" 503)] 0), #[]⟩) ::
  (nat_lit 250, ⟨(.type "tuple"), .none, (.seq #[] 0), #[]⟩) ::
  (nat_lit 252, ⟨(.type "code"), .none, (.fields #[(.str "_law_one" 499), (.str "_law_one" 500), (.str "/claim/cut.py" 501), (.int 150 0), (.int 2 0), (.int 0 0), (.int 0 0), (.int 3 0), (.ref 247), (.bool .true), (.int 181 0), (.ref 248), .none, (.ref 249), (.ref 250), (.ref 251), (.int 504 0), (.int 150 0), (.str "/claim/cut.py" 505)]), #[]⟩) ::
  (nat_lit 253, fnO "_law_one" (.str "law_on0184_01" 477) (.ref 252) .none 21 0 rfl) ::
  (nat_lit 254, ⟨(.type "tuple"), .none, (.seq #[] 0), #[]⟩) ::
  (nat_lit 257, ⟨(.type "code"), .none, (.fields #[(.str "_law_pieces" 507), (.str "_law_pieces" 508), (.str "/claim/cut.py" 509), (.int 152 0), (.int 1 0), (.int 0 0), (.int 0 0), (.int 3 0), (.ref 254), (.bool .true), (.int 181 0), (.ref 255), .none, .none, .none, (.ref 256), (.int 510 0), (.int 152 0), (.str "/claim/cut.py" 511)]), #[]⟩) ::
  (nat_lit 258, fnO "_law_pieces" (.str "law_on0184_01" 477) (.ref 257) .none 22 0 rfl) ::
  (nat_lit 259, ⟨(.type "tuple"), .none, (.seq #[] 0), #[]⟩) ::
  (nat_lit 261, ⟨(.type "tuple"), .none, (.seq #[(.str "scanner" 516), (.str "piece" 517)] 0), #[]⟩) ::
  (nat_lit 262, ⟨(.type "tuple"), .none, (.seq #[] 0), #[]⟩) ::
  (nat_lit 264, ⟨(.type "code"), .none, (.fields #[(.str "_law_read" 513), (.str "_law_read" 514), (.str "/claim/cut.py" 515), (.int 167 0), (.int 2 0), (.int 0 0), (.int 0 0), (.int 3 0), (.ref 259), (.bool .true), (.int 181 0), (.ref 260), .none, (.ref 261), (.ref 262), (.ref 263), (.int 518 0), (.int 167 0), (.str "/claim/cut.py" 519)]), #[]⟩) ::
  (nat_lit 265, fnO "_law_read" (.str "law_on0184_01" 477) (.ref 264) .none 23 0 rfl) ::
  (nat_lit 266, ⟨(.type "tuple"), .none, (.seq #[] 0), #[]⟩) ::
  (nat_lit 268, ⟨(.type "tuple"), .none, (.seq #[(.str "scanner" 524), (.str "call" 525), (.str "place" 526), (.str "e" 527)] 0), #[]⟩) ::
  (nat_lit 269, ⟨(.type "tuple"), .none, (.seq #[] 0), #[]⟩) ::
  (nat_lit 271, ⟨(.type "code"), .none, (.fields #[(.str "_law_refused" 521), (.str "_law_refused" 522), (.str "/claim/cut.py" 523), (.int 179 0), (.int 2 0), (.int 0 0), (.int 0 0), (.int 3 0), (.ref 266), (.bool .true), (.int 181 0), (.ref 267), .none, (.ref 268), (.ref 269), (.ref 270), (.int 528 0), (.int 179 0), (.str "/claim/cut.py" 529)]), #[]⟩) ::
  (nat_lit 272, fnO "_law_refused" (.str "law_on0184_01" 477) (.ref 271) .none 24 0 rfl) ::
  (nat_lit 273, ⟨(.type "tuple"), .none, (.seq #[] 0), #[]⟩) ::
  (nat_lit 276, ⟨(.type "code"), .none, (.fields #[(.str "_law_others_refused" 531), (.str "_law_others_refused" 532), (.str "/claim/cut.py" 533), (.int 186 0), (.int 3 0), (.int 0 0), (.int 0 0), (.int 3 0), (.ref 273), (.bool .true), (.int 181 0), (.ref 274), .none, .none, .none, (.ref 275), (.int 534 0), (.int 186 0), (.str "/claim/cut.py" 535)]), #[]⟩) ::
  (nat_lit 277, fnO "_law_others_refused" (.str "law_on0184_01" 477) (.ref 276) .none 25 0 rfl) ::
  (nat_lit 278, ⟨(.type "tuple"), .none, (.seq #[] 0), #[]⟩) ::
  (nat_lit 281, ⟨(.type "code"), .none, (.fields #[(.str "_law_text_right" 537), (.str "_law_text_right" 538), (.str "/claim/cut.py" 539), (.int 210 0), (.int 1 0), (.int 0 0), (.int 0 0), (.int 3 0), (.ref 278), (.bool .true), (.int 181 0), (.ref 279), .none, .none, .none, (.ref 280), (.int 540 0), (.int 210 0), (.str "/claim/cut.py" 541)]), #[]⟩) ::
  (nat_lit 282, fnO "_law_text_right" (.str "law_on0184_01" 477) (.ref 281) .none 26 0 rfl) ::
  (nat_lit 283, ⟨(.type "tuple"), .none, (.seq #[(.str ")" 543)] 0), #[]⟩) ::
  (nat_lit 284, ⟨(.type "tuple"), .none, (.seq #[] 0), #[]⟩) ::
  (nat_lit 286, ⟨(.type "tuple"), .none, (.seq #[(.str "text" 547), (.str "is_notation" 548), (.str "end" 549), (.str "scanner" 550), (.str "found" 551)] 0), #[]⟩) ::
  (nat_lit 287, ⟨(.type "tuple"), .none, (.seq #[] 0), #[]⟩) ::
  (nat_lit 289, ⟨(.type "code"), .none, (.fields #[(.str "_law_choices" 544), (.str "_law_choices" 545), (.str "/claim/cut.py" 546), (.int 224 0), (.int 3 0), (.int 0 0), (.int 0 0), (.int 3 0), (.ref 284), (.bool .true), (.int 181 0), (.ref 285), .none, (.ref 286), (.ref 287), (.ref 288), (.int 552 0), (.int 224 0), (.str "/claim/cut.py" 553)]), #[]⟩) ::
  (nat_lit 290, fnO "_law_choices" (.str "law_on0184_01" 477) (.ref 289) (.ref 283) 27 0 rfl) ::
  (nat_lit 291, ⟨(.type "tuple"), .none, (.seq #[] 0), #[]⟩) ::
  (nat_lit 294, ⟨(.type "code"), .none, (.fields #[(.str "_law_choices_right" 555), (.str "_law_choices_right" 556), (.str "/claim/cut.py" 557), (.int 231 0), (.int 1 0), (.int 0 0), (.int 0 0), (.int 3 0), (.ref 291), (.bool .true), (.int 181 0), (.ref 292), .none, .none, .none, (.ref 293), (.int 558 0), (.int 231 0), (.str "/claim/cut.py" 559)]), #[]⟩) ::
  (nat_lit 295, fnO "_law_choices_right" (.str "law_on0184_01" 477) (.ref 294) .none 28 0 rfl) ::
  (nat_lit 296, ⟨(.type "tuple"), .none, (.seq #[] 0), #[]⟩) ::
  (nat_lit 298, ⟨(.type "tuple"), .none, (.seq #[(.str "source" 564), (.str "text" 565), (.str "place" 566), (.str "turn" 567), (.str "has_end" 568)] 0), #[]⟩) ::
  (nat_lit 299, ⟨(.type "tuple"), .none, (.seq #[] 0), #[]⟩) ::
  (nat_lit 301, ⟨(.type "code"), .none, (.fields #[(.str "_law_end_right" 561), (.str "_law_end_right" 562), (.str "/claim/cut.py" 563), (.int 245 0), (.int 1 0), (.int 0 0), (.int 0 0), (.int 3 0), (.ref 296), (.bool .true), (.int 181 0), (.ref 297), .none, (.ref 298), (.ref 299), (.ref 300), (.int 569 0), (.int 245 0), (.str "/claim/cut.py" 570)]), #[]⟩) ::
  (nat_lit 302, fnO "_law_end_right" (.str "law_on0184_01" 477) (.ref 301) .none 29 0 rfl) ::
  (nat_lit 303, ⟨(.type "tuple"), .none, (.seq #[] 0), #[]⟩) ::
  (nat_lit 305, ⟨(.type "tuple"), .none, (.seq #[(.str "script" 575), (.str "k" 576), (.str "source" 577), (.str "turn" 578), (.str "scanner" 579)] 0), #[]⟩) ::
  (nat_lit 306, ⟨(.type "tuple"), .none, (.seq #[] 0), #[]⟩) ::
  (nat_lit 308, ⟨(.type "code"), .none, (.fields #[(.str "law" 572), (.str "law" 573), (.str "/claim/cut.py" 574), (.int 257 0), (.int 1 0), (.int 0 0), (.int 0 0), (.int 3 0), (.ref 303), (.bool .true), (.int 181 0), (.ref 304), .none, (.ref 305), (.ref 306), (.ref 307), (.int 580 0), (.int 257 0), (.str "/claim/cut.py" 581)]), #[]⟩) ::
  (nat_lit 309, fnO "law" (.str "law_on0184_01" 477) (.ref 308) .none 30 0 rfl) :: []
noncomputable def kas : List Nat := [2, 3, 15, 17, 18, 20, 21, 22, 23, 24, 25, 26, 27, 28, 29, 30, 31, 32, 33, 34, 35, 36, 37, 38, 39, 41, 42, 44, 45, 46, 48, 49, 51, 52, 53, 55, 56, 58, 59, 60, 62, 63, 65, 66, 67, 69, 70, 72, 73, 74, 81, 83, 84, 86, 87, 88, 89, 90, 91, 94, 101, 102, 104, 105, 107, 108, 109, 110, 111, 121, 123, 124, 126, 127, 128, 130, 131, 133, 134, 135, 137, 138, 140, 141, 142, 144, 145, 147, 148, 149, 151, 152, 154, 155, 156, 158, 159, 161, 162, 163, 165, 166, 168, 169, 170, 172, 173, 175, 176, 177, 179, 180, 182, 183, 184, 186, 187, 189, 190, 191, 193, 194, 196, 197, 198, 200, 201, 203, 204, 205, 207, 208, 210, 211, 212, 214, 215, 217, 218, 219, 220, 221, 222, 223, 226, 228, 229, 231, 232, 233, 235, 236, 238, 239, 240, 242, 243, 245, 246, 247, 249, 250, 252, 253, 254, 257, 258, 259, 261, 262, 264, 265, 266, 268, 269, 271, 272, 273, 276, 277, 278, 281, 282, 283, 284, 286, 287, 289, 290, 291, 294, 295, 296, 298, 299, 301, 302, 303, 305, 306, 308, 309]
theorem kfr_as : ∀ P, kas = (kfr P).map (·.1) := fun _ => by kernel_rfl
noncomputable def qvw : Program := view PySem.Challenge.pw_on0184_01 [1, 3, 4, 5, 6, 7, 8, 9, 10, 11, 13, 14, 16, 17, 19, 20, 21, 22, 23, 24, 25, 26, 28, 29, 30]
noncomputable abbrev qlo : List Str := [Str.ofString "DtdFault", Str.ofString "_law_choices"]
noncomputable abbrev qhk : Hook := kmHook kfr kas kfr_as [274]
theorem said : PySem.Challenge.rw_on0184_01.wellSaid = true := (congrFun PySem.W.Fast.te9446332074065402090 _).trans (by
  delta PySem.W.Fast.tw9446332074065402090
  (try dsimp only)
  repeat' (first | with_reducible refine look_both ?_ ?_ | (delta PySem.W.Fast.tw17960256430627541270; (try dsimp only)) | (delta PySem.W.Fast.tw2436336058641802641; (try dsimp only)) | (delta PySem.W.Fast.tw12908688711261696721; (try dsimp only)))
  all_goals decide +kernel)
noncomputable def fnR {n : Str} {ps : Arguments} {b : List Stmt} {sc : Scope} (q : Str) (i j : Nat) (_ : defAt i j = some (n, ps, b, sc)) : Obj :=
  ⟨.none, none, .func { name := n, qualname := q, params := ps, body := .stmts b, scope := sc, globals := 0, closure := [], defaults := .none, kwdefaults := .none }, #[]⟩
noncomputable def othl : Params → List (Nat × Obj) := fun P =>
  (0, boot_o_0 P) ::
  (1, boot_o_1 P) ::
  (4, boot_o_4 P) ::
  (5, boot_o_5 P) ::
  (6, boot_o_6 P) ::
  (7, boot_o_7 P) ::
  (8, boot_o_8 P) ::
  (9, boot_o_9 P) ::
  (10, boot_o_10 P) ::
  (11, ⟨(.type "tuple"), .none, (.seq #[] 0), #[]⟩) ::
  (12, ⟨.none, .none, (.fields #[(.int 2 0), (.int 0 0), (.ref 20), (.int 20 0), (.int 0 0), (.ref 44), (.int 27 0), (.int 0 0), (.ref 51), (.int 29 0), (.int 0 0), (.ref 58), (.int 31 0), (.int 0 0), (.ref 65), (.int 35 0), (.int 0 0), (.ref 72), (.int 42 0), (.int 0 0), (.ref 79), (.int 47 0), (.int 0 0), (.ref 99), (.int 53 0), (.int 0 0), (.ref 119), (.int 122 0), (.int 0 0), (.ref 231), (.int 136 0), (.int 0 0), (.ref 238), (.int 143 0), (.int 0 0), (.ref 245), (.int 150 0), (.int 0 0), (.ref 252), (.int 152 0), (.int 0 0), (.ref 257), (.int 167 0), (.int 0 0), (.ref 264), (.int 179 0), (.int 0 0), (.ref 271), (.int 186 0), (.int 0 0), (.ref 276), (.int 210 0), (.int 0 0), (.ref 281), (.int 224 0), (.int 0 0), (.ref 289), (.int 231 0), (.int 0 0), (.ref 294), (.int 245 0), (.int 0 0), (.ref 301), (.int 257 0), (.int 0 0), (.ref 308)]), #[]⟩) ::
  (13, ⟨(.type "code"), .none, (.fields #[(.str "<module>" 182), (.str "<module>" 183), (.str "/claim/cut.py" 184), (.int 1 0), (.int 0 0), (.int 0 0), (.int 0 0), (.int 0 0), (.ref 11), (.bool .false), (.int 181 0), (.ref 12), .none, .none, .none, .none, (.int 185 0), (.int 1 0), (.str "/claim/cut.py" 186)]), #[]⟩) ::
  (14, ⟨(.type "frame"), .none, .plain, #[(.some (.ref 13)), (.some (.ref 3)), (.some (.ref 3)), .none, (.some (.str "__main__" 164)), .none, (.some (.ref 0))]⟩) ::
  (16, ⟨.none, .none, (.fields #[]), #[]⟩) ::
  (19, fnR "read_choices" 1 0 rfl) ::
  (40, ⟨.none, .none, (.fields #[]), #[]⟩) ::
  (43, fnR "is_in_ranges" 7 0 rfl) ::
  (47, ⟨.none, .none, (.fields #[]), #[]⟩) ::
  (50, fnR "is_space" 8 0 rfl) ::
  (54, ⟨.none, .none, (.fields #[]), #[]⟩) ::
  (57, fnR "is_small_letter" 9 0 rfl) ::
  (61, ⟨.none, .none, (.fields #[]), #[]⟩) ::
  (64, fnR "is_name_start" 10 0 rfl) ::
  (68, ⟨.none, .none, (.fields #[]), #[]⟩) ::
  (71, fnR "is_name_char" 11 0 rfl) ::
  (75, ⟨(.type "builtin_function_or_method"), .none, (.fields #[(.builtin "type.__prepare__"), (.type "type")]), #[]⟩) ::
  (76, ⟨(.type "dict"), .none, (.dict #[⟨(PySem.PyData.keyHash P "__module__"), (.str "__module__" 284), (.str "markupmill.errors" 275)⟩, ⟨(PySem.PyData.keyHash P "__qualname__"), (.str "__qualname__" 286), (.str "MarkupError" 285)⟩, ⟨(PySem.PyData.keyHash P "__firstlineno__"), (.str "__firstlineno__" 288), (.int 42 287)⟩, ⟨(PySem.PyData.keyHash P "__init__"), (.str "__init__" 296), (.ref 87)⟩, ⟨(PySem.PyData.keyHash P "__static_attributes__"), (.str "__static_attributes__" 298), (.ref 88)⟩] 5), #[]⟩) ::
  (77, ⟨(.type "tuple"), .none, (.seq #[] 0), #[]⟩) ::
  (78, ⟨.none, .none, (.fields #[(.int 44 0), (.int 4 0), (.ref 86)]), #[]⟩) ::
  (79, ⟨(.type "code"), .none, (.fields #[(.str "MarkupError" 279), (.str "MarkupError" 280), (.str "/claim/cut.py" 281), (.int 42 0), (.int 0 0), (.int 0 0), (.int 0 0), (.int 0 0), (.ref 77), (.bool .false), (.int 181 0), (.ref 78), .none, .none, .none, .none, (.int 282 0), (.int 42 0), (.str "/claim/cut.py" 283)]), #[]⟩) ::
  (80, ⟨(.type "frame"), .none, .plain, #[(.some (.ref 79)), (.some (.ref 3)), (.some (.ref 76)), .none, (.some (.str "markupmill.errors" 275)), .none, (.some (.ref 0))]⟩) ::
  (82, ⟨.none, .none, (.fields #[]), #[]⟩) ::
  (85, fnR "MarkupError.__init__" 13 1 rfl) ::
  (92, ⟨(.type "super"), .none, (.fields #[(.ref 90), (.ref 90), (.ref 90)]), #[]⟩) ::
  (93, ⟨(.type "builtin_function_or_method"), .none, (.fields #[(.builtin "object.__init_subclass__"), (.ref 90)]), #[]⟩) ::
  (95, ⟨(.type "builtin_function_or_method"), .none, (.fields #[(.builtin "type.__prepare__"), (.type "type")]), #[]⟩) ::
  (96, ⟨(.type "dict"), .none, (.dict #[⟨(PySem.PyData.keyHash P "__module__"), (.str "__module__" 313), (.str "markupmill.errors" 275)⟩, ⟨(PySem.PyData.keyHash P "__qualname__"), (.str "__qualname__" 315), (.str "DtdFault" 314)⟩, ⟨(PySem.PyData.keyHash P "__firstlineno__"), (.str "__firstlineno__" 317), (.int 47 316)⟩, ⟨(PySem.PyData.keyHash P "__init__"), (.str "__init__" 327), (.ref 108)⟩, ⟨(PySem.PyData.keyHash P "__static_attributes__"), (.str "__static_attributes__" 329), (.ref 109)⟩] 5), #[]⟩) ::
  (97, ⟨(.type "tuple"), .none, (.seq #[] 0), #[]⟩) ::
  (98, ⟨.none, .none, (.fields #[(.int 49 0), (.int 4 0), (.ref 107)]), #[]⟩) ::
  (99, ⟨(.type "code"), .none, (.fields #[(.str "DtdFault" 308), (.str "DtdFault" 309), (.str "/claim/cut.py" 310), (.int 47 0), (.int 0 0), (.int 0 0), (.int 0 0), (.int 0 0), (.ref 97), (.bool .false), (.int 181 0), (.ref 98), .none, .none, .none, .none, (.int 311 0), (.int 47 0), (.str "/claim/cut.py" 312)]), #[]⟩) ::
  (100, ⟨(.type "frame"), .none, .plain, #[(.some (.ref 99)), (.some (.ref 3)), (.some (.ref 96)), .none, (.some (.str "markupmill.errors" 275)), .none, (.some (.ref 0))]⟩) ::
  (103, ⟨.none, .none, (.fields #[]), #[]⟩) ::
  (106, fnR "DtdFault.__init__" 14 1 rfl) ::
  (112, ⟨(.type "super"), .none, (.fields #[(.ref 111), (.ref 111), (.ref 111)]), #[]⟩) ::
  (113, ⟨(.type "builtin_function_or_method"), .none, (.fields #[(.builtin "object.__init_subclass__"), (.ref 111)]), #[]⟩) ::
  (114, ⟨(.type "tuple"), .none, (.seq #[] 0), #[]⟩) ::
  (115, ⟨(.type "builtin_function_or_method"), .none, (.fields #[(.builtin "type.__prepare__"), (.type "type")]), #[]⟩) ::
  (116, ⟨(.type "dict"), .none, (.dict #[⟨(PySem.PyData.keyHash P "__module__"), (.str "__module__" 342), (.str "markupmill.dtd_words" 333)⟩, ⟨(PySem.PyData.keyHash P "__qualname__"), (.str "__qualname__" 344), (.str "DtdScanner" 343)⟩, ⟨(PySem.PyData.keyHash P "__firstlineno__"), (.str "__firstlineno__" 346), (.int 53 345)⟩, ⟨(PySem.PyData.keyHash P "__init__"), (.str "__init__" 354), (.ref 127)⟩, ⟨(PySem.PyData.keyHash P "fault"), (.str "fault" 362), (.ref 134)⟩, ⟨(PySem.PyData.keyHash P "is_over"), (.str "is_over" 369), (.ref 141)⟩, ⟨(PySem.PyData.keyHash P "looks"), (.str "looks" 377), (.ref 148)⟩, ⟨(PySem.PyData.keyHash P "takes"), (.str "takes" 385), (.ref 155)⟩, ⟨(PySem.PyData.keyHash P "expect"), (.str "expect" 393), (.ref 162)⟩, ⟨(PySem.PyData.keyHash P "spaces"), (.str "spaces" 401), (.ref 169)⟩, ⟨(PySem.PyData.keyHash P "need_spaces"), (.str "need_spaces" 408), (.ref 176)⟩, ⟨(PySem.PyData.keyHash P "looks_at_name"), (.str "looks_at_name" 415), (.ref 183)⟩, ⟨(PySem.PyData.keyHash P "token"), (.str "token" 423), (.ref 190)⟩, ⟨(PySem.PyData.keyHash P "name"), (.str "name" 430), (.ref 197)⟩, ⟨(PySem.PyData.keyHash P "until"), (.str "until" 440), (.ref 204)⟩, ⟨(PySem.PyData.keyHash P "quoted"), (.str "quoted" 448), (.ref 211)⟩, ⟨(PySem.PyData.keyHash P "end"), (.str "end" 455), (.ref 218)⟩, ⟨(PySem.PyData.keyHash P "__static_attributes__"), (.str "__static_attributes__" 458), (.ref 219)⟩] 18), #[]⟩) ::
  (117, ⟨(.type "tuple"), .none, (.seq #[] 0), #[]⟩) ::
  (118, ⟨.none, .none, (.fields #[(.int 55 0), (.int 4 0), (.ref 126), (.int 59 0), (.int 4 0), (.ref 133), (.int 62 0), (.int 4 0), (.ref 140), (.int 65 0), (.int 4 0), (.ref 147), (.int 68 0), (.int 4 0), (.ref 154), (.int 74 0), (.int 4 0), (.ref 161), (.int 78 0), (.int 4 0), (.ref 168), (.int 84 0), (.int 4 0), (.ref 175), (.int 88 0), (.int 4 0), (.ref 182), (.int 91 0), (.int 4 0), (.ref 189), (.int 99 0), (.int 4 0), (.ref 196), (.int 104 0), (.int 4 0), (.ref 203), (.int 112 0), (.int 4 0), (.ref 210), (.int 118 0), (.int 4 0), (.ref 217)]), #[]⟩) ::
  (119, ⟨(.type "code"), .none, (.fields #[(.str "DtdScanner" 337), (.str "DtdScanner" 338), (.str "/claim/cut.py" 339), (.int 53 0), (.int 0 0), (.int 0 0), (.int 0 0), (.int 0 0), (.ref 117), (.bool .false), (.int 181 0), (.ref 118), .none, .none, .none, .none, (.int 340 0), (.int 53 0), (.str "/claim/cut.py" 341)]), #[]⟩) ::
  (120, ⟨(.type "frame"), .none, .plain, #[(.some (.ref 119)), (.some (.ref 3)), (.some (.ref 116)), .none, (.some (.str "markupmill.dtd_words" 333)), .none, (.some (.ref 0))]⟩) ::
  (122, ⟨.none, .none, (.fields #[]), #[]⟩) ::
  (125, fnR "DtdScanner.__init__" 16 1 rfl) ::
  (129, ⟨.none, .none, (.fields #[]), #[]⟩) ::
  (132, fnR "DtdScanner.fault" 16 2 rfl) ::
  (136, ⟨.none, .none, (.fields #[]), #[]⟩) ::
  (139, fnR "DtdScanner.is_over" 16 3 rfl) ::
  (143, ⟨.none, .none, (.fields #[]), #[]⟩) ::
  (146, fnR "DtdScanner.looks" 16 4 rfl) ::
  (150, ⟨.none, .none, (.fields #[]), #[]⟩) ::
  (153, fnR "DtdScanner.takes" 16 5 rfl) ::
  (157, ⟨.none, .none, (.fields #[]), #[]⟩) ::
  (160, fnR "DtdScanner.expect" 16 6 rfl) ::
  (164, ⟨.none, .none, (.fields #[]), #[]⟩) ::
  (167, fnR "DtdScanner.spaces" 16 7 rfl) ::
  (171, ⟨.none, .none, (.fields #[]), #[]⟩) ::
  (174, fnR "DtdScanner.need_spaces" 16 8 rfl) ::
  (178, ⟨.none, .none, (.fields #[]), #[]⟩) ::
  (181, fnR "DtdScanner.looks_at_name" 16 9 rfl) ::
  (185, ⟨.none, .none, (.fields #[]), #[]⟩) ::
  (188, fnR "DtdScanner.token" 16 10 rfl) ::
  (192, ⟨.none, .none, (.fields #[]), #[]⟩) ::
  (195, fnR "DtdScanner.name" 16 11 rfl) ::
  (199, ⟨.none, .none, (.fields #[]), #[]⟩) ::
  (202, fnR "DtdScanner.until" 16 12 rfl) ::
  (206, ⟨.none, .none, (.fields #[]), #[]⟩) ::
  (209, fnR "DtdScanner.quoted" 16 13 rfl) ::
  (213, ⟨.none, .none, (.fields #[]), #[]⟩) ::
  (216, fnR "DtdScanner.end" 16 14 rfl) ::
  (224, ⟨(.type "super"), .none, (.fields #[(.ref 221), (.ref 221), (.ref 221)]), #[]⟩) ::
  (225, ⟨(.type "builtin_function_or_method"), .none, (.fields #[(.builtin "object.__init_subclass__"), (.ref 221)]), #[]⟩) ::
  (227, ⟨.none, .none, (.fields #[]), #[]⟩) ::
  (230, fnR "declaration_end" 17 0 rfl) ::
  (234, ⟨.none, .none, (.fields #[]), #[]⟩) ::
  (237, fnR "_law_pool" 19 0 rfl) ::
  (241, ⟨.none, .none, (.fields #[]), #[]⟩) ::
  (244, fnR "_law_take" 20 0 rfl) ::
  (248, ⟨.none, .none, (.fields #[]), #[]⟩) ::
  (251, fnR "_law_one" 21 0 rfl) ::
  (255, ⟨.none, .none, (.fields #[]), #[]⟩) ::
  (256, fnR "_law_pieces" 22 0 rfl) ::
  (260, ⟨.none, .none, (.fields #[]), #[]⟩) ::
  (263, fnR "_law_read" 23 0 rfl) ::
  (267, ⟨.none, .none, (.fields #[]), #[]⟩) ::
  (270, fnR "_law_refused" 24 0 rfl) ::
  (274, ⟨.none, .none, (.fields #[]), #[]⟩) ::
  (275, fnR "_law_others_refused" 25 0 rfl) ::
  (279, ⟨.none, .none, (.fields #[]), #[]⟩) ::
  (280, fnR "_law_text_right" 26 0 rfl) ::
  (285, ⟨.none, .none, (.fields #[]), #[]⟩) ::
  (288, fnR "_law_choices" 27 0 rfl) ::
  (292, ⟨.none, .none, (.fields #[]), #[]⟩) ::
  (293, fnR "_law_choices_right" 28 0 rfl) ::
  (297, ⟨.none, .none, (.fields #[]), #[]⟩) ::
  (300, fnR "_law_end_right" 29 0 rfl) ::
  (304, ⟨.none, .none, (.fields #[]), #[]⟩) ::
  (307, fnR "law" 30 0 rfl) :: []
noncomputable def ob (P : Params) (i : Nat) : Obj := match (kfr P).lookup i with
  | some o => o
  | none => ((othl P).lookup i).getD default
noncomputable def mkT (f : Nat → Obj) (n : Nat) : Nat → Nat → Nat → BT
  | 0, _, _ => .nil
  | k + 1, a, b => match Nat.blt b n with
    | true => .node (f b) (mkT f n k (2 * a) (a + b)) (mkT f n k (2 * a) (2 * a + b))
    | false => .nil
noncomputable def trAt (P : Params) (n : Nat) (f : Nat → Option Obj) : BT := mkT (fun i => (f i).getD (ob P i)) n 10 1 0
noncomputable abbrev stT (T : Params → BT) (n k : Nat) (w : World) (os : OsState) : SharedT := ⟨T w.params, n, (boot_heap w.params).life, Array.mk [], boot_drawn, k, os⟩
noncomputable def mainAt (P : Params) (m : Nat) (nm : Str) (nt : Nat) : Obj := match ob P 3 with
  | ⟨c, d, .dict es _, sl⟩ => ⟨c, d, .dict (⟨PyData.keyHash P "__name__", .str "__name__" 165, .str nm nt⟩ :: (es.toList.drop 1).take (m - 1)).toArray m, sl⟩
  | o => o
noncomputable def codesAt (P : Params) (k : Nat) : Obj := match ob P 12 with
  | ⟨c, d, .fields vs, sl⟩ => ⟨c, d, .fields (vs.toList.take k).toArray, sl⟩
  | o => o
noncomputable def chA (P : Params) (i : Nat) : Option Obj := match i with | 2 => some (boot_o_2 P) | 3 => some (boot_o_3 P) | 12 => some (codesAt P 0) | _ => none
noncomputable def ch1 (P : Params) (i : Nat) : Option Obj := match i with | 2 => some (boot_o_2 P) | 3 => some (mainAt P 19 "markupmill.errors" 275) | 12 => some (codesAt P 18) | _ => none
noncomputable def ch2 (P : Params) (i : Nat) : Option Obj := match i with | 3 => some (mainAt P 21 "markupmill.errors" 275) | 12 => some (codesAt P 24) | _ => none
noncomputable def ch3 (P : Params) (i : Nat) : Option Obj := match i with | 3 => some (mainAt P 22 "markupmill.dtd_words" 333) | 12 => some (codesAt P 27) | _ => none
noncomputable abbrev stS (T : Params → BT) (n k : Nat) (w : World) (os : OsState) : Shared := SharedT.abs (stT T n k w os)
noncomputable def trA (P : Params) : BT := trAt P 15 (chA P)
noncomputable def tr1 (P : Params) : BT := trAt P 74 (ch1 P)
noncomputable def tr2 (P : Params) : BT := trAt P 114 (ch2 P)
noncomputable def tr3 (P : Params) : BT := trAt P 226 (ch3 P)
noncomputable def trF (P : Params) : BT := trAt P 310 fun _ => none
noncomputable def hpF (P : Params) : Heap := absHeap (trF P) 310 (boot_heap P).life
noncomputable abbrev pwx : Program := PySem.Challenge.pw_on0184_01
noncomputable abbrev bd1 : List Stmt := pwx.main.body.take 13
noncomputable abbrev bd2 : List Stmt := (pwx.main.body.drop 13).take 2
noncomputable abbrev bd3 : List Stmt := (pwx.main.body.drop 15).take 2
noncomputable abbrev bd4 : List Stmt := pwx.main.body.drop 17
noncomputable abbrev bdA : List Stmt := bd1 ++ (bd2 ++ (bd3 ++ (bd4 ++ [])))
noncomputable abbrev evA : Env := { scope := pwx.main.scope, locals := mainNs, globals := mainNs, cells := [], code := .ref 13, frame := some 14 }
noncomputable abbrev cdA : Code := .body bdA evA
noncomputable abbrev qA : Pos := ⟨0, 0, 0, 0⟩
noncomputable abbrev annA : Option Value := some (.ref 6)
theorem r0 : ∀ (w : World) (os : OsState), topGo treeTable pwx w 11 annA 12 ⟨boot_heap w.params, Array.mk [], boot_drawn, boot_toks, os⟩ (topStub pwx) = some (stS trA 15 187 w os, ⟨denote treeTable cdA, cdA, qA, [topFrame qA]⟩) := by
  intro w os
  rw [PySem.W.Fast.te14364793385576792824, PySem.W.Fast.te15667345088766844465, PySem.W.Fast.te11892475500146522536]
  kernel_rfl
theorem rb : ∀ (w : World) (os : OsState), segRun treeTable pwx w 11 annA 1 1 (stS trA 15 187 w os) (blockOf bdA evA cdA qA [topFrame qA]) = some (.next, stS trA 15 187 w os, cdA, qA) := by
  intro w os
  rw [PySem.W.Fast.te14364793385576792824, PySem.W.Fast.te14374325043358763698]
  kernel_rfl
theorem r1T : ∀ (w : World) (os : OsState), segRunT treeTable pwx w 11 annA 1 600 (stT trA 15 187 w os) (piecesOf bd1 evA cdA qA [topFrame qA]) = some (.next, stT tr1 74 277 w os, cdA, ⟨41, 0, 41, 8⟩) := by
  intro w os
  unfold piecesOf
  rw [PySem.W.Fast.te14364793385576792824, PySem.W.Fast.te10110043849684766642, PySem.W.Fast.te12563942051412417395]
  kernel_rfl
theorem r1 : ∀ (w : World) (os : OsState), segRun treeTable pwx w 11 annA 1 600 (stS trA 15 187 w os) (piecesOf bd1 evA cdA qA [topFrame qA]) = some (.next, stS tr1 74 277 w os, cdA, ⟨41, 0, 41, 8⟩) := fun w os => segRun_of (r1T w os)
theorem r2T : ∀ (w : World) (os : OsState), segRunT treeTable pwx w 11 annA 1 600 (stT tr1 74 277 w os) (piecesOf bd2 evA cdA ⟨41, 0, 41, 8⟩ [topFrame qA]) = some (.next, stT tr2 114 333 w os, cdA, ⟨47, 0, 51, 26⟩) := by
  intro w os
  unfold piecesOf
  rw [PySem.W.Fast.te14364793385576792824, PySem.W.Fast.te10110043849684766642, PySem.W.Fast.te12563942051412417395]
  kernel_rfl
theorem r2 : ∀ (w : World) (os : OsState), segRun treeTable pwx w 11 annA 1 600 (stS tr1 74 277 w os) (piecesOf bd2 evA cdA ⟨41, 0, 41, 8⟩ [topFrame qA]) = some (.next, stS tr2 114 333 w os, cdA, ⟨47, 0, 51, 26⟩) := fun w os => segRun_of (r2T w os)
theorem r3T : ∀ (w : World) (os : OsState), segRunT treeTable pwx w 11 annA 1 700 (stT tr2 114 333 w os) (piecesOf bd3 evA cdA ⟨47, 0, 51, 26⟩ [topFrame qA]) = some (.next, stT tr3 226 466 w os, cdA, ⟨53, 0, 121, 69⟩) := by
  intro w os
  unfold piecesOf
  rw [PySem.W.Fast.te14364793385576792824, PySem.W.Fast.te10110043849684766642, PySem.W.Fast.te12563942051412417395]
  kernel_rfl
theorem r3 : ∀ (w : World) (os : OsState), segRun treeTable pwx w 11 annA 1 700 (stS tr2 114 333 w os) (piecesOf bd3 evA cdA ⟨47, 0, 51, 26⟩ [topFrame qA]) = some (.next, stS tr3 226 466 w os, cdA, ⟨53, 0, 121, 69⟩) := fun w os => segRun_of (r3T w os)
theorem r4T : ∀ (w : World) (os : OsState), segRunT treeTable pwx w 11 annA 1 600 (stT tr3 226 466 w os) (piecesOf bd4 evA cdA ⟨53, 0, 121, 69⟩ [topFrame qA]) = some (.next, stT trF 310 583 w os, cdA, ⟨257, 0, 264, 101⟩) := by
  intro w os
  unfold piecesOf
  rw [PySem.W.Fast.te14364793385576792824, PySem.W.Fast.te10110043849684766642, PySem.W.Fast.te12563942051412417395]
  kernel_rfl
theorem r4 : ∀ (w : World) (os : OsState), segRun treeTable pwx w 11 annA 1 600 (stS tr3 226 466 w os) (piecesOf bd4 evA cdA ⟨53, 0, 121, 69⟩ [topFrame qA]) = some (.next, stS trF 310 583 w os, cdA, ⟨257, 0, 264, 101⟩) := fun w os => segRun_of (r4T w os)
theorem rf : ∀ (w : World) (os : OsState), topRun treeTable pwx w 11 annA 10 (stS trF 310 583 w os) ⟨doneF .next, cdA, ⟨257, 0, 264, 101⟩, [topFrame qA]⟩ = some (stS trF 310 583 w os) := by
  intro w os
  rw [PySem.W.Fast.te14364793385576792824, PySem.W.Fast.te14082659384304107361]
  kernel_rfl
theorem run (w : World) (os : OsState) : topRun treeTable pwx w 11 annA (12 + (1 + (600 + (600 + (700 + (600 + 10)))))) ⟨boot_heap w.params, Array.mk [], boot_drawn, boot_toks, os⟩ (topStub pwx) = some (stS trF 310 583 w os) :=
  go_top (r0 w os) (piece_block (rb w os) (piece_app (r1 w os) (piece_app (r2 w os) (piece_app (r3 w os) (piece_app (r4 w os) (piece_nil (rf w os)))))))
theorem lka (w : World) (os : OsState) : (staticsOk (importedModules pwx.main.body) (boot_heap w.params) (hpF w.params) && namesBound pwx (hpF w.params) && gensDone (stS trF 310 583 w os) && laidKept (boot_heap w.params) (hpF w.params)) = true := by
  rw [PySem.W.Fast.te5923862056798008813]
  kernel_rfl
theorem lkb (w : World) (os : OsState) : openSeen qvw qlo (importedModules pwx.main.body) (fun s => xlAt qvw [] s && recOk (RowW.records PySem.Challenge.rw_on0184_01.row.toRowW) s) true (stS trF 310 583 w os) = openGood qvw qlo := by
  rw [PySem.W.Fast.te4187177175401517315]
  kernel_rfl
theorem lkc (w : World) (os : OsState) : Hook.obs qhk (stS trF 310 583 w os) = Hook.val qhk w := by
  kernel_rfl
theorem left : LeftO pwx qvw qlo (fun s => xlAt qvw [] s && recOk (RowW.records PySem.Challenge.rw_on0184_01.row.toRowW) s) (Hook.obs qhk) (Hook.val qhk) 3784 :=
  LeftO.of_pieces (m₀ := 11) (ann := annA) (M := 12 + (1 + (600 + (600 + (700 + (600 + 10)))))) (H₀ := boot_heap) (H₁ := hpF) (gs₀ := Array.mk []) (gs₁ := Array.mk []) (d₀ := boot_drawn) (d₁ := boot_drawn) (k₀ := boot_toks) (k₁ := 583)
    (boot_open (by kernel_rfl) (by kernel_rfl) fun s => by kernel_rfl) (fun w => by kernel_rfl) (fun w os => run w os) (by kernel_rfl)
    fun w => funext fun os => looks_pair (lka w os) (looks_pair (lkb w os) (lkc w os))
theorem hd {d : DefRec} {kwd : List (Str × Expr)} (hdf : defOf qvw PySem.Challenge.rw_on0184_01.row.name = some (d, kwd)) (hth : PySem.Challenge.rw_on0184_01.row.prog.theDef PySem.Challenge.rw_on0184_01.row.name = some (d.params, d.body, d.scope))
    (hkw : kwWritten? d.params.kwonlyargs d.params.kw_defaults = some kwd)
    (W : WalkO qvw qlo (XL qvw []) (Hook.says (kmHook kfr kas kfr_as [274])) PySem.Challenge.rw_on0184_01.row.toRowW d kwd fun f vs => call f vs) : PySem.Challenge.rw_on0184_01.Holds := by
  refine holds_law said fun sd => ?_
  refine holds_open (q := qvw) (loose := qlo) (Xt := fun s => xlAt qvw [] s && recOk (RowW.records PySem.Challenge.rw_on0184_01.row.toRowW) s) (XP := XL qvw []) (Yf := Hook.obs qhk) (Ya := Hook.val qhk) (YP := Hook.says qhk) (N := 3784) left (Hook.of qhk) (Hook.keeps qhk)
    (fun s e => xl_of s (Bool.and_eq_true_iff.mp e).1) XL.keeps hdf hth hkw (fun s e => recFacts_of (Bool.and_eq_true_iff.mp e).2) rfl sd (by decide +kernel) ⟨rfl, rfl, rfl, rfl, rfl, by decide +kernel⟩ ?hw W
  case hw => w_witness2
set_option maxRecDepth 100000 in
theorem fillK (P : Params) : (PySem.Challenge.rw_on0184_01 = PySem.Challenge.rw_on0184_01) ∧ kfr P = kfr P := by
  k_fill
  exact ⟨rfl, rfl⟩
open PySem PySem.W PyProof.Rows PySem.Calls PySem.Spec
set_option maxRecDepth 100000
set_option maxHeartbeats 2000000

/-- what changes: the named objects alone -/
noncomputable def Chg (S : List Addr) (h h' : Heap) : Prop := ∀ b o, h.get? b = some o → b ∉ S → h'.get? b = some o

noncomputable abbrev LOO0 : List Str := looseW qvw [Str.ofString "DtdFault", Str.ofString "_law_choices"]
noncomputable abbrev LOO : List Str := LOO0 ++ (recsOf qvw).map (·.name) ++ (litsOf qvw).map (·.1) ++ (clssOf qvw LOO0).map (·.name)
/-- the top as it stands -/
structure Gd (w : World) (mean : ExcName → Option Value) (mg mb : Str → Option Value) (B : Heap) : Prop where
  X : (kfr w.params).In B
  T : Top topProg LOO mean mg mb B

/-- a contract: no raise, the objects `mu` alone changed -/
noncomputable def Con (prog : Program) (w : World) (B : Heap) (lvl : Nat) (f : Value) (args : List Value) (own : List (Addr × Obj)) (mu : List Addr) (V : Value → List (Addr × Obj) → Prop) : Prop :=
  ∀ (A : Around) (s : Shared) (R : Result → Shared → Prop), A.depth ≤ 300 + lvl → A.units ≤ 8 * lvl → A.handled = none → B.StaysIn s.heap → (∀ q ∈ own, s.heap.get? q.1 = some q.2 ∧ B.get? q.1 = none) →
    (∀ v new h' tk', V v new → Chg mu s.heap h' → (∀ q ∈ new, h'.get? q.1 = some q.2 ∧ (q.1 ∈ mu ∨ s.heap.get? q.1 = none)) → R (.ok (.ret v)) { s with heap := h', toks := tk' }) →
    codeAny (model prog w) A (.call f ⟨args, []⟩) R s

theorem Con.mono {prog : Program} {w : World} {B : Heap} {lvl lvl' : Nat} {f : Value} {args : List Value} {own : List (Addr × Obj)} {mu : List Addr} {V V' : Value → List (Addr × Obj) → Prop} (C : Con prog w B lvl f args own mu V) (h : ∀ v new, V v new → V' v new) (hl : lvl' ≤ lvl := by omega) : Con prog w B lvl' f args own mu V' :=
  fun A s R h1 h2 h3 h4 h5 k => C A s R (Nat.le_trans h1 (Nat.add_le_add_left hl 300)) (Nat.le_trans h2 (Nat.mul_le_mul_left 8 hl)) h3 h4 h5 fun v new h' tk' hV => k v new h' tk' (h v new hV)
theorem enter {prog : Program} {w : World} {mean : ExcName → Option Value} {mg mb : Str → Option Value} {B : Heap} {A : Around} {s : Shared}
    {R : Result → Shared → Prop} {name qual : Str} {params : Arguments} {body : List Stmt} {scope : Scope} {dV kV doc pm cdv ct oc : Value} {an od : Option Addr} {osl : Array (Option Value)} {f : Addr} {args : Args} {binds rb : List (Str × Value)}
    (G : Gd w mean mg mb B) (own : List (Addr × Obj)) (hB : B.StaysIn s.heap) (hown : ∀ q ∈ own, s.heap.get? q.1 = some q.2 ∧ B.get? q.1 = none) (hA : A.depth ≤ 990)
    (ho : (kfr w.params).lookup f = some ⟨oc, od, .func (fnOf name qual params body scope dV kV doc pm an cdv ct), osl⟩) (hcd : codeIn (kfr w.params) cdv qual = true)
    (hbind : BindsTo s (fnOf name qual params body scope dV kV doc pm an cdv ct) args binds) (hloc : ∀ y ∈ binds, scope.names.lookup y.1 = some .local) (hrb : binds.reverse = rb)
    (h : ∀ g L' h₁ (m : Str → Option Value) Q tk, g = hideAll s.heap (own.map (·.1)) → L' = s.heap.objs.size → m = (fun y => List.lookup y rb) →
      (∀ v s', R (.ok (.ret v)) s' → Q (Flow.ret v) s') → (∀ s', R (.ok (.ret .none)) s' → Q Flow.next s') →
      Fr g L' h₁ m → News g L' h₁ own → (kfr w.params).In g → Top topProg LOO mean mg mb g → B.StaysIn g →
      wpAny (model prog w) (A.deeper (envOf qual scope L' f cdv)) (execs body (envOf qual scope L' f cdv)) Q (fun _ _ => False) { s with heap := h₁, toks := tk })
    (hco : scope.isCoroutine = false := by rfl) (hgen : scope.isGenerator = false := by rfl) (hk : scope.kind = .function := by rfl)
    (hcell : ∀ x ∈ scope.names, x.2 ≠ .cell := by decide) : codeAny (model prog w) A (.call (.ref f) args) R s := by
  have XS := G.X.keeps hB
  have TS := G.T.keeps hB
  have hroom : A.depth < recursionLimit := Nat.lt_of_le_of_lt hA (by decide)
  refine codeAny_call_def (fd := fnOf name qual params body scope dV kV doc pm an cdv ct) (body := body) (binds := binds) hroom (XS _ _ ho) rfl TS.nolimit (codeRec_of XS hcd) rfl hbind hcell hloc (fun h₁ hns hk₁ => ?_) hco hgen hk
  have fr : ∀ a ∈ own.map (·.1), B.get? a = none := fun a ha => by
    obtain ⟨q, hq, rfl⟩ := List.mem_map.mp ha
    exact (hown q hq).2
  have st : B.StaysIn (hideAll s.heap (own.map (·.1))) := fun b o e => hideAll_get _ (hB b o e) fun m => by rw [fr b m] at e; cases e
  subst hrb
  refine wpAny_mono (h _ _ h₁ _ (fun fl s' => R (.ok (.ret (match fl with | .ret v => v | _ => .none))) s') _ rfl rfl rfl (fun v s' x => x) (fun s' x => x) ⟨hns, fun b o e => hk₁ b o (of_hideAll _ e), Nat.le_of_eq (hideAll_size _ _)⟩
    (fun q hq => ⟨hk₁ _ _ (hown q hq).1, Nat.ne_of_lt (Heap.lt_size (hown q hq).1), hideAll_none _ (List.mem_map_of_mem hq)⟩) (G.X.keeps st) (G.T.keeps st) st) (fun _ _ x => x) fun _ _ x => x.elim

theorem ne_lt_k (k : Nat) {a b c : Nat} (e : c = b + k) (h : a < b) : a ≠ c := by omega
theorem ne_gt_k (k : Nat) {a b c : Nat} (e : c = b + k) (h : a < b) : c ≠ a := by omega
theorem lv_le (k : Nat) {x a n m : Nat} (e : x = a + k) (h : a ≤ n) (hm : Nat.ble (n + k) m = true) : x ≤ m := by
  have := Nat.le_of_ble_eq_true hm
  omega
/-- the end of a contract's walk -/
theorem con_end {own : List (Addr × Obj)} {mu : List Addr} {V : Value → List (Addr × Obj) → Prop} {s : Shared} {R : Result → Shared → Prop} {h' g : Heap} {L : Addr} {m : Str → Option Value} {news : List (Addr × Obj)} {v : Value} {tk' : Nat} (new : List (Addr × Obj))
    (k : ∀ v new h' tk', V v new → Chg mu s.heap h' → (∀ q ∈ new, h'.get? q.1 = some q.2 ∧ (q.1 ∈ mu ∨ s.heap.get? q.1 = none)) → R (.ok (.ret v)) { s with heap := h', toks := tk' })
    (hg : g = hideAll s.heap (own.map (·.1))) (hown : ∀ q ∈ own, s.heap.get? q.1 = some q.2) (F : Fr g L h' m) (N : News g L h' news)
    (hsame : ∀ q ∈ own, q.1 ∈ mu ∨ q ∈ news) (hnew : ∀ q ∈ new, q ∈ news ∧ (q.1 ∈ mu ∨ ∀ p ∈ own, p.1 ≠ q.1)) (hV : V v new) : R (.ok (.ret v)) { s with heap := h', toks := tk' } := by
  subst hg
  refine k v new h' tk' hV (fun b o e n => ?_) fun q hq => ⟨(N q (hnew q hq).1).1, ?_⟩
  · by_cases hb : b ∈ own.map (·.1)
    · obtain ⟨q, hq, rfl⟩ := List.mem_map.mp hb
      have e' := hown q hq
      rw [e'] at e
      cases e
      rcases hsame q hq with z | z
      · exact absurd z n
      · exact (N q z).1
    · exact F.keep b o (hideAll_get _ e hb)
  · rcases (hnew q hq).2 with z | z
    · exact .inl z
    · refine .inr ?_
      cases e : s.heap.get? q.1 with
      | none => rfl
      | some o =>
        have := hideAll_get (own.map (·.1)) e fun hm => by
          obtain ⟨p, hp, e⟩ := List.mem_map.mp hm
          exact z p hp e
        rw [(N q (hnew q hq).1).2.2] at this; cases this

/-- a contract used in a walk: nothing that stood is changed -/
theorem con_use0 {prog : Program} {w : World} {B g : Heap} {lvl : Nat} {f : Value} {args : List Value} {own : List (Addr × Obj)} {V : Value → List (Addr × Obj) → Prop} {A : Around} {s : Shared} {L : Addr} {m : Str → Option Value} {news : List (Addr × Obj)} {Q E : Value → Shared → Prop}
    (C : Con prog w B lvl f args own [] V) (F : Fr g L s.heap m) (N : News g L s.heap news) (st : B.StaysIn g) (hA : A.depth ≤ 300 + lvl) (hu : A.units ≤ 8 * lvl) (hh : A.handled = none) (ho : ∀ q ∈ own, q ∈ news)
    (k : ∀ v new h' tk', V v new → Fr g L h' m → News g L h' (new ++ news) → (∀ q ∈ new, ∀ p ∈ news, p.1 ≠ q.1) → Q v { s with heap := h', toks := tk' }) :
    wpAny (model prog w) A (call f args) Q E s := by
  refine wpAny_call (C A s _ hA hu hh (fun b o e => F.keep b o (st b o e)) (fun q hq => ⟨(N q (ho q hq)).1, ?_⟩) fun v new h' tk' hV hc hn => ?_)
  · cases z : B.get? q.1 with
    | none => rfl
    | some o => have := st _ _ z; rw [(N q (ho q hq)).2.2] at this; cases this
  · have fresh : ∀ q ∈ new, s.heap.get? q.1 = none := fun q hq => (hn q hq).2.elim (fun z => nomatch z) id
    obtain ⟨oL, es, ep, hL, r⟩ := F.ns
    refine k v new h' tk' hV ⟨⟨oL, es, ep, hc _ _ hL (fun z => nomatch z), r⟩, fun b o e => hc b o (F.keep b o e) (fun z => nomatch z), F.above⟩ (fun q hq => ?_) (fun q hq p hp z => by have := (N p hp).1; rw [z, fresh q hq] at this; cases this)
    rcases List.mem_append.mp hq with hq | hq
    · refine ⟨(hn q hq).1, (fun z => by have := fresh q hq; rw [z, hL] at this; cases this), ?_⟩
      cases z : g.get? q.1 with
      | none => rfl
      | some o => have := F.keep _ _ z; rw [fresh q hq] at this; cases this
    · exact ⟨hc _ _ (N q hq).1 (fun z => nomatch z), (N q hq).2⟩

/-- one entry of a ledger, and the rest -/
inductive Spl (a : Addr) (o : Obj) : List (Addr × Obj) → List (Addr × Obj) → Prop
  | head {r} : Spl a o ((a, o) :: r) r
  | tail {p r r'} : Spl a o r r' → Spl a o (p :: r) (p :: r')
theorem Spl.mem {a : Addr} {o : Obj} {l r : List (Addr × Obj)} (x : Spl a o l r) : (a, o) ∈ l := by
  induction x with
  | head => exact .head _
  | tail _ ih => exact .tail _ ih
theorem Spl.sub {a : Addr} {o : Obj} {l r : List (Addr × Obj)} (x : Spl a o l r) : ∀ q ∈ r, q ∈ l := by
  induction x with
  | head => exact fun q hq => .tail _ hq
  | tail _ ih =>
    intro q hq
    rcases List.mem_cons.mp hq with rfl | hq
    · exact .head _
    · exact .tail _ (ih q hq)
/-- a contract used in a walk: one object of the ledger is changed -/
theorem con_use1 {prog : Program} {w : World} {B g : Heap} {lvl : Nat} {f : Value} {args : List Value} {own : List (Addr × Obj)} {a : Addr} {o : Obj} {V : Value → List (Addr × Obj) → Prop} {A : Around} {s : Shared} {L : Addr} {m : Str → Option Value} {news : List (Addr × Obj)} {rest : List (Addr × Obj)} {Q E : Value → Shared → Prop}
    (C : Con prog w B lvl f args own [a] V) (F : Fr g L s.heap m) (N : News g L s.heap news) (st : B.StaysIn g) (hA : A.depth ≤ 300 + lvl) (hu : A.units ≤ 8 * lvl) (hh : A.handled = none) (ho : ∀ q ∈ own, q ∈ news)
    (sp : Spl a o news rest) (hne : ∀ q ∈ rest, q.1 ≠ a)
    (k : ∀ v new h' tk', V v new → Fr g L h' m → News g L h' (new ++ rest) → (∀ q ∈ new, q.1 = a ∨ (∀ p ∈ news, p.1 ≠ q.1)) → Q v { s with heap := h', toks := tk' }) :
    wpAny (model prog w) A (call f args) Q E s := by
  have ha := N (a, o) sp.mem
  refine wpAny_call (C A s _ hA hu hh (fun b o e => F.keep b o (st b o e)) (fun q hq => ⟨(N q (ho q hq)).1, ?_⟩) fun v new h' tk' hV hc hn => ?_)
  · cases z : B.get? q.1 with
    | none => rfl
    | some o => have := st _ _ z; rw [(N q (ho q hq)).2.2] at this; cases this
  · have one : ∀ b, b ≠ a → b ∉ [a] := fun b n z => n (List.mem_singleton.mp z)
    obtain ⟨oL, es, ep, hL, r⟩ := F.ns
    refine k v new h' tk' hV ⟨⟨oL, es, ep, hc _ _ hL (one _ (Ne.symm ha.2.1)), r⟩, fun b o e => hc b o (F.keep b o e) (one _ fun z => by subst z; rw [ha.2.2] at e; cases e), F.above⟩ (fun q hq => ?_) (fun q hq => ?_)
    · rcases List.mem_append.mp hq with hq | hq
      · refine ⟨(hn q hq).1, ?_⟩
        rcases (hn q hq).2 with z | z
        · rw [List.mem_singleton.mp z]; exact ha.2
        · refine ⟨(fun y => by rw [y, hL] at z; cases z), ?_⟩
          cases y : g.get? q.1 with
          | none => rfl
          | some o => have := F.keep _ _ y; rw [z] at this; cases this
      · have hm := sp.sub q hq
        exact ⟨hc _ _ (N q hm).1 (one _ (hne q hq)), (N q hm).2⟩
    · rcases (hn q hq).2 with z | z
      · exact .inl (List.mem_singleton.mp z)
      · exact .inr fun p hp y => by have := (N p hp).1; rw [y, z] at this; cases this

noncomputable def AllNe (d : Nat) : List (Addr × Obj) → Prop
  | [] => True
  | p :: r => @Ne Nat p.1 d ∧ AllNe d r
theorem use00 {prog : Program} {w : World} {B g : Heap} {lvl : Nat} {f : Value} {args : List Value} {own : List (Addr × Obj)} {A : Around} {s : Shared} {L : Addr} {m : Str → Option Value} {news : List (Addr × Obj)} {Q E : Value → Shared → Prop} {x0 : Value} (C : Con prog w B lvl f args own [] (fun v new => new = [] ∧ v = x0)) (F : Fr g L s.heap m) (N : News g L s.heap news) (st : B.StaysIn g) (hA : A.depth ≤ 300 + lvl) (hu : A.units ≤ 8 * lvl) (hh : A.handled = none) (ho : ∀ q ∈ own, q ∈ news)
    (k : ∀ h' tk', Fr g L h' m → News g L h' news → Q x0 { s with heap := h', toks := tk' }) : wpAny (model prog w) A (call f args) Q E s :=
  con_use0 C F N st hA hu hh ho fun v new h' tk' hV F' N' _ => by
    obtain ⟨rfl, rfl⟩ := hV
    exact k h' tk' F' N'
theorem use01 {prog : Program} {w : World} {B g : Heap} {lvl : Nat} {f : Value} {args : List Value} {own : List (Addr × Obj)} {A : Around} {s : Shared} {L : Addr} {m : Str → Option Value} {news : List (Addr × Obj)} {Q E : Value → Shared → Prop} {α : Type} {fV : α → Value} (C : Con prog w B lvl f args own [] (fun v new => ∃ x, new = [] ∧ v = fV x)) (F : Fr g L s.heap m) (N : News g L s.heap news) (st : B.StaysIn g) (hA : A.depth ≤ 300 + lvl) (hu : A.units ≤ 8 * lvl) (hh : A.handled = none) (ho : ∀ q ∈ own, q ∈ news)
    (k : ∀ x h' tk', Fr g L h' m → News g L h' news → Q (fV x) { s with heap := h', toks := tk' }) : wpAny (model prog w) A (call f args) Q E s :=
  con_use0 C F N st hA hu hh ho fun v new h' tk' hV F' N' _ => by
    obtain ⟨x, rfl, rfl⟩ := hV
    exact k x h' tk' F' N'
theorem use0e {prog : Program} {w : World} {B g : Heap} {lvl : Nat} {f : Value} {args : List Value} {own : List (Addr × Obj)} {A : Around} {s : Shared} {L : Addr} {m : Str → Option Value} {news : List (Addr × Obj)} {Q E : Value → Shared → Prop} {α : Type} {fV : α → Value} (C : Con prog w B lvl f args own [] (fun v new => new = [] ∧ ∃ x, v = fV x)) (F : Fr g L s.heap m) (N : News g L s.heap news) (st : B.StaysIn g) (hA : A.depth ≤ 300 + lvl) (hu : A.units ≤ 8 * lvl) (hh : A.handled = none) (ho : ∀ q ∈ own, q ∈ news)
    (k : ∀ x h' tk', Fr g L h' m → News g L h' news → Q (fV x) { s with heap := h', toks := tk' }) : wpAny (model prog w) A (call f args) Q E s :=
  con_use0 C F N st hA hu hh ho fun v new h' tk' hV F' N' _ => by
    obtain ⟨rfl, x, rfl⟩ := hV
    exact k x h' tk' F' N'
theorem use11 {prog : Program} {w : World} {B g : Heap} {lvl : Nat} {f : Value} {args : List Value} {own : List (Addr × Obj)} {A : Around} {s : Shared} {L : Addr} {m : Str → Option Value} {news : List (Addr × Obj)} {Q E : Value → Shared → Prop} {rest : List (Addr × Obj)} {a : Addr} {o : Obj} {α : Type} {fO : α → Obj} {x0 : Value} (C : Con prog w B lvl f args own [a] (fun v new => ∃ x, new = [(a, fO x)] ∧ v = x0)) (F : Fr g L s.heap m) (N : News g L s.heap news) (st : B.StaysIn g) (hA : A.depth ≤ 300 + lvl) (hu : A.units ≤ 8 * lvl) (hh : A.handled = none) (ho : ∀ q ∈ own, q ∈ news)
    (sp : Spl a o news rest) (hne : ∀ q ∈ rest, q.1 ≠ a) (k : ∀ x h' tk', Fr g L h' m → News g L h' ((a, fO x) :: rest) → Q x0 { s with heap := h', toks := tk' }) : wpAny (model prog w) A (call f args) Q E s :=
  con_use1 C F N st hA hu hh ho sp hne fun v new h' tk' hV F' N' _ => by
    obtain ⟨x, rfl, rfl⟩ := hV
    exact k x h' tk' F' N'
theorem use12 {prog : Program} {w : World} {B g : Heap} {lvl : Nat} {f : Value} {args : List Value} {own : List (Addr × Obj)} {A : Around} {s : Shared} {L : Addr} {m : Str → Option Value} {news : List (Addr × Obj)} {Q E : Value → Shared → Prop} {rest : List (Addr × Obj)} {a : Addr} {o : Obj} {α β : Type} {fO : α → Obj} {fV : β → Value} (C : Con prog w B lvl f args own [a] (fun v new => ∃ x y, new = [(a, fO x)] ∧ v = fV y)) (F : Fr g L s.heap m) (N : News g L s.heap news) (st : B.StaysIn g) (hA : A.depth ≤ 300 + lvl) (hu : A.units ≤ 8 * lvl) (hh : A.handled = none) (ho : ∀ q ∈ own, q ∈ news)
    (sp : Spl a o news rest) (hne : ∀ q ∈ rest, q.1 ≠ a) (k : ∀ x y h' tk', Fr g L h' m → News g L h' ((a, fO x) :: rest) → Q (fV y) { s with heap := h', toks := tk' }) : wpAny (model prog w) A (call f args) Q E s :=
  con_use1 C F N st hA hu hh ho sp hne fun v new h' tk' hV F' N' _ => by
    obtain ⟨x, y, rfl, rfl⟩ := hV
    exact k x y h' tk' F' N'
theorem allNe_of {d : Addr} : ∀ {l : List (Addr × Obj)}, (∀ p ∈ l, p.1 ≠ d) → AllNe d l
  | [], _ => trivial
  | p :: _, h => ⟨h p (.head _), allNe_of fun q hq => h q (.tail _ hq)⟩
noncomputable def NewNe0 (news : List (Addr × Obj)) : List (Addr × Obj) → Prop
  | [] => True
  | q :: r => AllNe q.1 news ∧ NewNe0 news r
theorem ne0_of {news : List (Addr × Obj)} : ∀ {l : List (Addr × Obj)}, (∀ q ∈ l, ∀ p ∈ news, p.1 ≠ q.1) → NewNe0 news l
  | [], _ => trivial
  | q :: _, h => ⟨allNe_of (h q (.head _)), ne0_of fun q hq => h q (.tail _ hq)⟩
noncomputable def NewNe1 (a : Nat) (news : List (Addr × Obj)) : List (Addr × Obj) → Prop
  | [] => True
  | q :: r => (@Eq Nat q.1 a ∨ AllNe q.1 news) ∧ NewNe1 a news r
theorem ne1_of {a : Addr} {news : List (Addr × Obj)} : ∀ {l : List (Addr × Obj)}, (∀ q ∈ l, q.1 = a ∨ ∀ p ∈ news, p.1 ≠ q.1) → NewNe1 a news l
  | [], _ => trivial
  | q :: _, h => ⟨(h q (.head _)).imp id allNe_of, ne1_of fun q hq => h q (.tail _ hq)⟩
theorem item_N {prog : Program} {w : World} {A : Around} {E : Value → Shared → Prop} {s : Shared} {g : Heap} {L : Addr} {news : List (Addr × Obj)} {value slice : PySem.Expr} {l : Addr} {its : List Value} {n : Nat} {k : Int} {u : Tok} {v : Value} {Q : Value → Shared → Prop}
    (N : News g L s.heap news) (hm : (l, listOf its.toArray n) ∈ news) (h0 : 0 ≤ k) (hhi : k < 2 ^ 63) (hx : its[k.toNat]? = some v) (h : Q v s)
    (hs : subscripted slice false (.ref l) (.int k u) = operate [.ref l, .int k u] (getItem (.ref l) (.int k u)) := by with_unfolding_all rfl) :
    wpAny (model prog w) A (subscriptTail value slice (.ref l) (.int k u)) Q E s :=
  have hl : s.heap.IsList l its.toArray := ⟨_, N.get hm, rfl, n, rfl⟩
  tail_any hl.typeIs slot_list_getitem.lookup (wpAny_getItem_list hl h0 hhi (by simpa using hx) h) hs
theorem ws_next {g h' : Heap} {L : Addr} {s : Shared} {J : Nat → (Str → Option Value) → List (Addr × Obj) → Prop} {Q : Flow → Shared → Prop} {n n' tk : Nat} {m₂ : Str → Option Value} {news₂ : List (Addr × Obj)}
    (F : Fr g L h' m₂) (N : News g L h' news₂) (hn : n' < n) (hJ : J n' m₂ news₂) : WhileStep2 g L s J Q n .next { s with heap := h', toks := tk } := ⟨h', tk, m₂, news₂, n', rfl, F, N, hn, hJ⟩
theorem text_N {prog : Program} {w : World} {A : Around} {E : Value → Shared → Prop} {s : Shared} {value slice : PySem.Expr} {x : Str} {t u : Tok} {k : Int} {c : Nat} {Q : Value → Shared → Prop}
    (h0 : 0 ≤ k) (hhi : k < 2 ^ 63) (hx : x.cps.toList[k.toNat]? = some c) (h : ∀ t', Q (.str ⟨#[c]⟩ t') { s with toks := s.toks + 1 })
    (hs : subscripted slice false (.str x t) (.int k u) = operate [.str x t, .int k u] (getItem (.str x t) (.int k u)) := by with_unfolding_all rfl) :
    wpAny (model prog w) A (subscriptTail value slice (.str x t) (.int k u)) Q E s := by
  have hk : k.toNat < x.cps.toList.length := (List.getElem?_eq_some_iff.mp hx).1
  have hk' : k.toNat < x.length := by simpa [Str.length] using hk
  refine tail_any (typeIs_str _ _ _) F.slot_str_getitem.lookup (PySem.P.getItem_str (c := c) ?_ ?_ (h _)) hs
  · simp only [Bool.or_eq_false_iff, decide_eq_false_iff_not]; omega
  · have e : seqIndex? k x.length = some k.toNat := by
      unfold seqIndex?
      have h1 : ¬ k < 0 := by omega
      have h2 : (k.toNat : Int) = k := by omega
      simp [h1]; omega
    rw [e, Option.bind_some, ← Array.getElem?_toList]
    exact hx
theorem len_N {prog : Program} {w : World} {A : Around} {E : Value → Shared → Prop} {s : Shared} {g : Heap} {L : Addr} {news : List (Addr × Obj)} {l : Addr} {vs : List Value} {n : Nat} {Q : Value → Shared → Prop}
    (N : News g L s.heap news) (hm : (l, listOf vs.toArray n) ∈ news) (hfit : vs.length < 2 ^ 62) (h : Q (.int (vs.length : Nat) (s.toks + 1)) { s with toks := s.toks + 1 + 1 }) :
    wpAny (model prog w) A (call (.builtin "len") [.ref l]) Q E s := by
  have hl : s.heap.IsList l vs.toArray := ⟨_, N.get hm, rfl, n, rfl⟩
  refine Calls.call_len_list hl (by simp; omega) ?_
  simpa using h
theorem fm0 (a : Int) {t : Int} (h : 0 < t) : 0 ≤ a.fmod t := by rw [Int.fmod_eq_emod_of_nonneg a (Int.le_of_lt h)]; exact Int.emod_nonneg _ (by omega)
theorem fm1 (a : Int) {t : Int} (h : 0 < t) : a.fmod t < t := by rw [Int.fmod_eq_emod_of_nonneg a (Int.le_of_lt h)]; exact Int.emod_lt_of_pos _ h
theorem fd0 {a t : Int} (ha : 0 ≤ a) (h : 0 < t) : 0 ≤ a.fdiv t := by rw [Int.fdiv_eq_ediv_of_nonneg a (Int.le_of_lt h)]; exact Int.ediv_nonneg ha (Int.le_of_lt h)
theorem allM2 {P : Addr × Obj → Prop} {a b : Addr × Obj} (ha : P a) (hb : P b) : ∀ q ∈ [a, b], P q := List.forall_mem_cons.mpr ⟨ha, List.forall_mem_cons.mpr ⟨hb, List.forall_mem_nil _⟩⟩
noncomputable abbrev scD (w : World) (text : Str) (pl : Int) (k1 k2 t1 t2 : Tok) : Obj := dictOf [⟨PyData.keyHash w.params "text", .str "text" k1, .str text t1⟩, ⟨PyData.keyHash w.params "at", .str "at" k2, .int pl t2⟩] 2
noncomputable abbrev srcO (a b : Int) (ta tb : Tok) (n : Nat) : Obj := listOf #[.int a ta, .int b tb] n
set_option maxRecDepth 100000
set_option maxHeartbeats 2000000
noncomputable abbrev frs (l : List Env) : List Addr := l.filterMap (·.frame)
/-- what changes: the named objects; of the frames above no more than their slots -/
noncomputable def ChgF (fs S : List Addr) (h h' : Heap) : Prop := ∀ b o, h.get? b = some o → b ∉ S → (b ∉ fs → h'.get? b = some o) ∧ (b ∈ fs → ∃ sl, h'.get? b = some { o with slots := sl })
theorem Chg.F {fs S : List Addr} {h h' : Heap} (x : Chg S h h') : ChgF fs S h h' := fun b o e n => ⟨fun _ => x b o e n, fun _ => ⟨o.slots, x b o e n⟩⟩
theorem ChgF.some {fs S : List Addr} {h h' : Heap} (x : ChgF fs S h h') {b : Addr} {o : Obj} (e : h.get? b = some o) (n : b ∉ S) : ∃ sl, h'.get? b = some { o with slots := sl } := by
  by_cases m : b ∈ fs
  · exact (x b o e n).2 m
  · exact ⟨o.slots, (x b o e n).1 m⟩
theorem ChgF.trans {fs S : List Addr} {h h' h'' : Heap} (x : ChgF fs S h h') (y : ChgF fs S h' h'') : ChgF fs S h h'' := fun b o e n => by
  refine ⟨fun m => (y b o ((x b o e n).1 m) n).1 m, fun m => ?_⟩
  obtain ⟨sl, e'⟩ := (x b o e n).2 m
  obtain ⟨sl', e''⟩ := (y b _ e' n).2 m
  exact ⟨sl', e''⟩

/-- the base of a walk: what stood, but for the walk's own -/
noncomputable def GR (h₀ : Heap) (own fs : List Addr) (g : Heap) : Prop := ChgF fs own h₀ g

/-- a heap with what `g` has, read at `h'` -/
noncomputable def shadow (g h' : Heap) : Heap := { g with objs := g.objs.mapIdx fun i o => match o.data with | .freed => o | _ => (h'.get? i).getD { o with data := .freed } }
theorem shadow_size (g h' : Heap) : (shadow g h').objs.size = g.objs.size := by simp [shadow]
theorem get_cases (h : Heap) (b : Addr) : (h.get? b = none ∧ (h.objs[b]? = none ∨ ∃ o, h.objs[b]? = some o ∧ o.data = .freed)) ∨ ∃ o, h.get? b = some o ∧ h.objs[b]? = some o ∧ o.data ≠ .freed := by
  unfold Heap.get?
  cases e : h.objs[b]? with
  | none => exact .inl ⟨rfl, .inl rfl⟩
  | some o =>
    obtain ⟨c, d, dt, sl⟩ := o
    cases dt <;> first | exact .inl ⟨rfl, .inr ⟨_, rfl, rfl⟩⟩ | exact .inr ⟨_, rfl, rfl, fun z => by cases z⟩
theorem get_of {h : Heap} {b : Addr} {o : Obj} (e : h.objs[b]? = some o) (n : o.data ≠ .freed) : h.get? b = some o := by
  rcases get_cases h b with ⟨_, z | ⟨o', z, f⟩⟩ | ⟨o', z, y, f⟩
  · rw [e] at z; cases z
  · rw [e] at z; cases z; exact absurd f n
  · rw [e] at y; cases y; exact z
theorem shadow_some {g h' : Heap} {b : Addr} {o o' : Obj} (e : g.get? b = some o) (e' : h'.get? b = some o') : (shadow g h').get? b = some o' := by
  rcases get_cases g b with ⟨z, _⟩ | ⟨o₁, z, y, f⟩
  · rw [e] at z; cases z
  · rw [e] at z; cases z
    rcases get_cases h' b with ⟨z, _⟩ | ⟨o₂, z, y', f'⟩
    · rw [e'] at z; cases z
    · rw [e'] at z; cases z
      refine get_of ?_ f'
      unfold shadow
      simp only [Array.getElem?_mapIdx, y, Option.map_some, e', Option.getD_some]
theorem of_shadow {g h' : Heap} {b : Addr} {o' : Obj} (e : (shadow g h').get? b = some o') : (∃ o, g.get? b = some o) ∧ h'.get? b = some o' := by
  rcases get_cases (shadow g h') b with ⟨z, _⟩ | ⟨o₁, z, y, f⟩
  · rw [e] at z; cases z
  · rw [e] at z; cases z
    unfold shadow at y
    simp only [Array.getElem?_mapIdx] at y
    cases q : g.objs[b]? with
    | none => rw [q] at y; cases y
    | some o =>
      rw [q] at y
      simp only [Option.map_some, Option.some.injEq] at y
      split at y
      · rename_i z; subst y; exact absurd z f
      · rename_i z
        refine ⟨⟨o, get_of q fun w => z w⟩, ?_⟩
        cases w : h'.get? b with
        | none => rw [w] at y; subst y; exact absurd rfl f
        | some o₂ => rw [w] at y; rw [← y]; rfl

/-- the step over a call that may touch the frames -/
theorem shadow_step {B g h h' : Heap} {own mu : List Addr} {h₀ : Heap} {outer : List Env} {L : Addr} {m : Str → Option Value} {news rest new : List (Addr × Obj)}
    (F : Fr g L h m) (N : News g L h news) (gr : GR h₀ own (frs outer) g) (st : B.StaysIn g) (ff : g.FunFrames B outer) (hmu : ∀ a ∈ mu, g.get? a = none ∧ a ≠ L)
    (c : ChgF (L :: frs outer) mu h h') (hr : ∀ q ∈ rest, q ∈ news ∧ q.1 ∉ mu) (hn : ∀ q ∈ new, h'.get? q.1 = some q.2 ∧ (q.1 ∈ mu ∨ h.get? q.1 = none)) :
    Fr (shadow g h') L h' m ∧ News (shadow g h') L h' (new ++ rest) ∧ GR h₀ own (frs outer) (shadow g h') ∧ B.StaysIn (shadow g h') ∧ (shadow g h').FunFrames B outer := by
  have nmu : ∀ b o, g.get? b = some o → b ∉ mu := fun b o e hm => by
    rw [(hmu b hm).1] at e; cases e
  have nL : ∀ b o, g.get? b = some o → b ≠ L := fun b o e z => by
    have := Nat.lt_of_lt_of_le (Heap.lt_size e) F.above
    rw [z] at this; exact absurd this (Nat.lt_irrefl _)
  have gone : ∀ b, g.get? b = none → (shadow g h').get? b = none := fun b e => by
    cases z : (shadow g h').get? b with
    | none => rfl
    | some o => obtain ⟨⟨o', y⟩, _⟩ := of_shadow z; rw [e] at y; cases y
  have at_ : ∀ b o, g.get? b = some o → (b ∉ frs outer → (shadow g h').get? b = some o) ∧ ∃ sl, (shadow g h').get? b = some { o with slots := sl } := fun b o e => by
    have e' := F.keep b o e
    refine ⟨fun n => shadow_some e ((c b o e' (nmu b o e)).1 fun z => (List.mem_cons.mp z).elim (nL b o e) n), ?_⟩
    obtain ⟨sl, z⟩ := c.some e' (nmu b o e)
    exact ⟨sl, shadow_some e z⟩
  have hLm : L ∉ mu := fun hm => (hmu L hm).2 rfl
  obtain ⟨oL, es, ep, hL, hd, r⟩ := F.ns
  obtain ⟨sl, hL'⟩ := c.some hL hLm
  refine ⟨⟨⟨_, es, ep, hL', hd, r⟩, fun b o e => (of_shadow e).2, by rw [shadow_size]; exact F.above⟩, fun q hq => ?_, fun b o e n => ?_, fun b o e => ?_, ff.of_keeps fun b o e _ => ?_⟩
  · rcases List.mem_append.mp hq with hq | hq
    · obtain ⟨y, z⟩ := hn q hq
      refine ⟨y, ?_⟩
      rcases z with z | z
      · exact ⟨(hmu _ z).2, gone _ (hmu _ z).1⟩
      · refine ⟨(fun w => by rw [w, hL] at z; cases z), gone _ ?_⟩
        cases w : g.get? q.1 with
        | none => rfl
        | some o => have := F.keep _ _ w; rw [z] at this; cases this
    · obtain ⟨y, z⟩ := hr q hq
      have Nq := N q y
      refine ⟨(c _ _ Nq.1 z).1 fun w => ?_, Nq.2.1, gone _ Nq.2.2⟩
      rcases List.mem_cons.mp w with w | w
      · exact Nq.2.1 w
      · obtain ⟨o, ho, _⟩ := (ff.mem w).2
        rw [Nq.2.2] at ho; cases ho
  · obtain ⟨x1, x2⟩ := gr b o e n
    refine ⟨fun k => (at_ b o (x1 k)).1 k, fun k => ?_⟩
    obtain ⟨sl, y⟩ := x2 k
    obtain ⟨sl', y'⟩ := (at_ b _ y).2
    exact ⟨sl', y'⟩
  · exact (at_ b o (st b o e)).1 fun w => by rw [(ff.mem w).1] at e; cases e
  · obtain ⟨sl, y⟩ := (at_ b o e).2
    exact ⟨_, y, rfl⟩
set_option maxRecDepth 100000
set_option maxHeartbeats 8000000
set_option hygiene false
local macro_rules | `(tactic| k_ne) => `(tactic| (refine neN ?_; (try dsimp only); first | with_reducible assumption | with_reducible exact Ne.symm (by with_reducible assumption) | walk_at "m_nel" | omega))
local macro_rules | `(tactic| walk_at $s:str) => do let t := Lean.Syntax.mkStrLit ("M " ++ s.getString); `(tactic| k_extra $t)
section Own
set_option hygiene false
local macro_rules | `(tactic| k_all) => `(tactic| first | exact List.forall_mem_nil _ | (refine' List.forall_mem_cons.mpr ⟨?a, ?b⟩; (case a => k_ne); (case b => k_all)) | assumption)
local macro_rules | `(tactic| k_mem) => `(tactic| first | exact List.Mem.head _ | (refine' List.Mem.tail _ ?_; k_mem) | assumption)
theorem ln1 : True := by
  k_with_none
  k_with "M subscriptTail Name Constant ref int" => (k_here; (with_reducible show wpAny _ _ (subscriptTail _ _ (Value.ref _) (Value.int _ _)) _ _ _); k_dflt (refine' Mine.item_N ?k0 ?k1 ?k2 ?k3 ?k4 ?_ ?k6; (case k0 => k_asm); (case k1 => k_mem); (case k2 => decide); (case k3 => decide); (case k4 => rfl); (case k6 => with_unfolding_all rfl); k_whole))
  k_with "M m_new" => first | exact List.forall_mem_nil _ | (refine' List.forall_mem_cons.mpr ⟨And.intro ?mzA ?mzB, ?mzC⟩; (case mzA => k_mem); (case mzB => (try dsimp only); first | exact Or.inl (by k_mem) | exact Or.inr (by walk_at "m_all")); (case mzC => walk_at "m_new"))
  k_with "M m_spl" => first | exact Mine.Spl.head | exact (Mine.Spl.tail Mine.Spl.head) | exact (Mine.Spl.tail (Mine.Spl.tail Mine.Spl.head)) | exact (Mine.Spl.tail (Mine.Spl.tail (Mine.Spl.tail Mine.Spl.head))) | exact (Mine.Spl.tail (Mine.Spl.tail (Mine.Spl.tail (Mine.Spl.tail Mine.Spl.head)))) | exact (Mine.Spl.tail (Mine.Spl.tail (Mine.Spl.tail (Mine.Spl.tail (Mine.Spl.tail Mine.Spl.head))))) | exact (Mine.Spl.tail (Mine.Spl.tail (Mine.Spl.tail (Mine.Spl.tail (Mine.Spl.tail (Mine.Spl.tail Mine.Spl.head)))))) | exact (Mine.Spl.tail (Mine.Spl.tail (Mine.Spl.tail (Mine.Spl.tail (Mine.Spl.tail (Mine.Spl.tail (Mine.Spl.tail Mine.Spl.head))))))) | exact (Mine.Spl.tail (Mine.Spl.tail (Mine.Spl.tail (Mine.Spl.tail (Mine.Spl.tail (Mine.Spl.tail (Mine.Spl.tail (Mine.Spl.tail Mine.Spl.head)))))))) | exact (Mine.Spl.tail (Mine.Spl.tail (Mine.Spl.tail (Mine.Spl.tail (Mine.Spl.tail (Mine.Spl.tail (Mine.Spl.tail (Mine.Spl.tail (Mine.Spl.tail Mine.Spl.head))))))))) | exact (Mine.Spl.tail (Mine.Spl.tail (Mine.Spl.tail (Mine.Spl.tail (Mine.Spl.tail (Mine.Spl.tail (Mine.Spl.tail (Mine.Spl.tail (Mine.Spl.tail (Mine.Spl.tail Mine.Spl.head)))))))))) | exact (Mine.Spl.tail (Mine.Spl.tail (Mine.Spl.tail (Mine.Spl.tail (Mine.Spl.tail (Mine.Spl.tail (Mine.Spl.tail (Mine.Spl.tail (Mine.Spl.tail (Mine.Spl.tail (Mine.Spl.tail Mine.Spl.head))))))))))) | exact (Mine.Spl.tail (Mine.Spl.tail (Mine.Spl.tail (Mine.Spl.tail (Mine.Spl.tail (Mine.Spl.tail (Mine.Spl.tail (Mine.Spl.tail (Mine.Spl.tail (Mine.Spl.tail (Mine.Spl.tail (Mine.Spl.tail Mine.Spl.head)))))))))))) | exact (Mine.Spl.tail (Mine.Spl.tail (Mine.Spl.tail (Mine.Spl.tail (Mine.Spl.tail (Mine.Spl.tail (Mine.Spl.tail (Mine.Spl.tail (Mine.Spl.tail (Mine.Spl.tail (Mine.Spl.tail (Mine.Spl.tail (Mine.Spl.tail Mine.Spl.head)))))))))))))
  k_with "M m_own" => first | exact List.forall_mem_nil _ | (refine' List.forall_mem_cons.mpr ⟨?mzA, ?mzB⟩; (case mzA => k_mem); (case mzB => walk_at "m_own"))
  k_with "M m_lvl" => first | exact lv_le 3 rfl (by assumption) rfl | exact lv_le 1 rfl (by assumption) rfl | exact lv_le 0 rfl (by assumption) rfl | exact lv_le 2 rfl (by assumption) rfl | ((try simp only [depth_under_make, depth_under_kw, depth_in1, depth_deeper, units_in1, units_deeper, units_under_make, Around.mark_units]); (try dsimp only); omega)
  k_with "M call builtin:len" => (k_here; (with_reducible show wpAny _ _ (call (Value.builtin "len") [Value.ref _]) _ _ _); k_dflt (refine' Mine.len_N ?k0 ?k1 ?k2 ?_; (case k0 => k_asm); (case k1 => k_mem); (case k2 => (try simp only [List.length_cons, List.length_nil]); omega); k_whole))
  k_with "M m_ne0" => (replace l1 := ne0_of l1; (try simp only [NewNe0, AllNe, and_true, and_assoc] at l1); (repeat (have := And.left l1; replace l1 := And.right l1)))
  k_with "M m_ne1" => (replace l1 := ne1_of l1; (try simp only [NewNe1, AllNe, and_true, true_or, true_and, and_assoc] at l1); (repeat (have := And.left l1; replace l1 := And.right l1)))
  k_with "M exec Raise some none" => (k_here; k_dflt (refine' Mine.raise_stmt ?hh ?_; (case hh => first | rfl | assumption)))
  k_with "M pyIter ref" => ((with_reducible show wpAny _ _ _ (fun it s₂ => UnrAt _ _ _ _ _ _ _ _ _ it s₂) _ _); (k_dflt (refine' Iter_tuple_unr ?hh ?ht ?F ?N ?htL ?_; (case F => k_asm); (case N => k_asm); (case hh => assumption); (case ht => exact News.isTup (by assumption) (by k_mem)); (case htL => exact News.ne_locals (by assumption) (by k_mem)))))
  k_with "M eval Name" => (k_here; (with_reducible show wpAny _ _ (eval (Expr.Name _ _) (envOfC _ _ _ _ _)) _ _ _); k_dflt (refine' nameX_L ?nxF ?nxV ?_; (case nxF => k_asm); (case nxV => rfl); k_whole))
  k_with "M m_sub" => first | exact List.forall_mem_nil _ | (refine' List.forall_mem_cons.mpr ⟨?mzA, ?mzB⟩; (case mzA => k_mem); (case mzB => walk_at "m_sub")) | (intro mzp mzh; k_mem)
  k_with "M m_off" => first | exact True.intro | assumption | (refine And.intro ⟨by k_ne, by k_ne, by k_ne⟩ ?_; walk_at "m_off")
  k_with "M m_same" => first | exact List.forall_mem_nil _ | (refine' List.forall_mem_cons.mpr ⟨?mzA, ?mzB⟩; (case mzA => (try dsimp only); first | exact Or.inl (by k_mem) | exact Or.inr (by k_mem)); (case mzB => walk_at "m_same")) | simp
  k_with "M m_all" => first | exact List.forall_mem_nil _ | (refine' List.forall_mem_cons.mpr ⟨?mzA, ?mzB⟩; (case mzA => k_ne); (case mzB => walk_at "m_all")) | assumption
  k_with "M om" => first | ((repeat (with_reducible rename (_ ≠ _) => hz9; clear hz9)); omega) | omega
  k_with "M m_ltp" => first | with_reducible assumption | (with_reducible rename (_ < _ ∧ _) => hq9; first | with_reducible exact hq9.1 | with_reducible exact hq9.2.1 | with_reducible exact hq9.2.2.1 | with_reducible exact hq9.2.2.2.1 | with_reducible exact hq9.2.2.2.2.1 | with_reducible exact hq9.2.2.2.2.2.1 | with_reducible exact hq9.2 | with_reducible exact hq9.2.2 | with_reducible exact hq9.2.2.2 | with_reducible exact hq9.2.2.2.2 | with_reducible exact hq9.2.2.2.2.2 | (clear hq9; walk_at "m_ltp"))
  k_with "M m_nel" => first | exact Nat.ne_of_lt (by walk_at "m_ltp") | exact Nat.ne_of_gt (by walk_at "m_ltp") | exact ne_lt_k 1 rfl (by walk_at "m_ltp") | exact ne_lt_k 2 rfl (by walk_at "m_ltp") | exact ne_lt_k 3 rfl (by walk_at "m_ltp") | exact ne_lt_k 4 rfl (by walk_at "m_ltp") | exact ne_gt_k 1 rfl (by walk_at "m_ltp") | exact ne_gt_k 2 rfl (by walk_at "m_ltp") | exact ne_gt_k 3 rfl (by walk_at "m_ltp") | exact ne_gt_k 4 rfl (by walk_at "m_ltp")
  k_with "M execs cons" => (k_here; (try k_gentoks); (with_reducible refine wpAny_execs_cons ?_); (try k_fold); (try dsimp only))
  trivial
noncomputable abbrev tupO (vs : List Value) : Obj := { cls := .type "tuple", data := .seq vs.toArray }
noncomputable abbrev excO (dx : Option Addr) (vs : Array Value) : Obj := { cls := .ref 111, dict := dx, data := .fields vs }
section
variable {prog : Program} {w : World} {A : Around} {R : Result → Shared → Prop} {h : Heap} {g : Array GenState} {d : Drawn} {t : Nat} {os : OsState}
theorem exc_new (X : (kfr w.params).In h) {rest : List Value} (hrest : rest.length ≤ sizeLine)
    (hq : R (.ok (.ret (.ref (h.objs.size + 1)))) ⟨(h.push (tupO rest)).push (excO none #[.ref h.objs.size, .none, .none, .none, .bool false, .none]), g, d, t, os⟩) :
    codeAny (model prog w) A (.call (.builtin "Exception.__new__") ⟨.ref 111 :: rest, []⟩) R ⟨h, g, d, t, os⟩ := by
  have hm : Looks (model prog w) h (mroOf (.ref 111)) [.ref 111, .ref 90, .type "Exception", .type "BaseException", .type "object"] := (looks_clsIn (cd := _) X (by k_is)).andThen .now
  have s1 : Looks (model prog w) h (isSubtype (.ref 111) (.type "Exception")) true := looks_mroIn X (by k_is)
  have s2 : Looks (model prog w) h (isSubtype (.ref 111) (.type "AttributeError")) false := looks_mroIn X (by k_is)
  have s3 : Looks (model prog w) h (isSubtype (.ref 111) (.type "NameError")) false := looks_mroIn X (by k_is)
  have i1 : Looks (model prog w) h (isInstance (.ref 111) (.type "type")) true := looks_instIn X (by k_is)
  have hm2 : Looks (model prog w) h (Bind.madeBy (.ref 111)) (some "Exception.__new__") := by
    intro A Q E s k q
    unfold Bind.madeBy
    have hl := X 111 _ (by k_is)
    have hl' := k _ _ hl
    refine wpAny_bind (hm A _ E s k ?_)
    rw [List.forIn_cons]
    refine wpAny_bind (wpAny_bind (wpAny_bind (wpAny_bind (wpAny_loadPart hl' (wpAny_pure ?_)))))
    exact wpAny_pure (wpAny_pure (wpAny_pure q))
  have hb : Looks (model prog w) h (Bind.staticBase (.ref 111)) (.ref 111) := by
    intro A Q E s k q
    unfold Bind.staticBase
    refine wpAny_bind (hm A _ E s k ?_)
    rw [List.forIn_cons]
    exact wpAny_bind (wpAny_bind (wpAny_bind (hm2 A _ E s k (wpAny_pure (wpAny_pure (wpAny_pure q))))))
  have hmade : Looks (model prog w) h (Bind.madeHere "BaseException.__new__" (.ref 111)) () := by
    refine hb.andThen (hm2.andThen (Looks.of_pure ?_))
    simp only [Option.map_some, PySem.F.excBase_Exception.canon, bne_self_eq_false, Bool.false_eq_true, if_false]
  have F := PySem.F.excBase_Exception
  have hC := X 111 _ (by k_is)
  refine codeAny_call_builtin_code (Code.quiet_builtin _ F.quiet) ?_
  simp only [checkBuiltinCall, F.newKind, F.newSplit, F.newRow]
  repeat (first | simp only [bne_self_eq_false, Bool.false_eq_true, if_false] | lk)
  refine codeAny_builtinAt F.entry ?_
  unfold Builtin.«BaseException.__new__»
  refine PySem.wpAt_bind ?_
  show PySem.wpAt _ _ _ (stack >>= _) _ _ _
  refine PySem.wpAt_bind (PySem.wpAt_stack fun p below => PySem.wpAt_of_wpAny ?_)
  have hends := F.ends
  wp_walk
  refine PySem.wpAt_of_wpAny ?_
  rw [F.owner]
  repeat lk
  rw [if_neg (by simpa using hrest)]
  have hC2 := Heap.get?_push_of_some (excO none #[.ref h.objs.size, .none, .none, .none, .bool false, .none]) (Heap.get?_push_of_some (tupO rest) hC)
  repeat lk
  rw [Heap.size_push]
  exact hq
theorem exc_make (X : (kfr w.params).In h) {rest : List Value} (hrest : rest.length ≤ sizeLine)
    (hq : codeAny (model prog w) (A.under (.builtin "type.__call__" ⟨.ref 111 :: rest, []⟩)) (.call (.ref 108) ⟨.ref (h.objs.size + 1) :: rest, []⟩) (InitBack (h.objs.size + 1) R)
      ⟨(h.push (tupO rest)).push (excO none #[.ref h.objs.size, .none, .none, .none, .bool false, .none]), g, d, t, os⟩) :
    codeAny (model prog w) A (.call (.ref 111) ⟨rest, []⟩) R ⟨h, g, d, t, os⟩ := by
  have hC := X 111 _ (by k_is)
  have call : Looks (model prog w) h (specialOf (.ref 111) "__call__") (some (.builtin "type.__call__")) := looks_specialIn X (by k_is)
  have typ : Looks (model prog w) h (isInstance (.ref 111) (.type "type")) true := looks_instIn X (by k_is)
  have hm : Looks (model prog w) h (mroOf (.ref 111)) [.ref 111, .ref 90, .type "Exception", .type "BaseException", .type "object"] := (looks_clsIn (cd := _) X (by k_is)).andThen .now
  have made : Looks (model prog w) h (Bind.madeBy (.ref 111)) (some "Exception.__new__") := by
    intro A Q E s k q
    unfold Bind.madeBy
    have hl' := k _ _ hC
    refine wpAny_bind (hm A _ E s k ?_)
    rw [List.forIn_cons]
    refine wpAny_bind (wpAny_bind (wpAny_bind (wpAny_bind (wpAny_loadPart hl' (wpAny_pure ?_)))))
    exact wpAny_pure (wpAny_pure (wpAny_pure q))
  refine codeAny_of_tree ?_
  show wpAny _ _ (callAny (.ref 111) _) _ _ _
  refine nd_load hC ?_
  show wpAny _ _ (callAny.viaDunder (.ref 111) _) _ _ _
  unfold callAny.viaDunder
  refine wpAny_bind (call.at ?_)
  dsimp only
  rw [tc_bind]
  refine wpAny_bind (wpAny_pure (wpAny_bind (wpAny_pure ?_)))
  refine wpAny_pure (a := Fin.again (.call (.builtin "type.__call__") ⟨.ref 111 :: rest, []⟩)) (And.intro rfl ?_)
  refine codeAny_call_builtin_at (Code.quiet_builtin _ (by decide +kernel)) entry_typeCall (check_slot tc_kind tc_split typ (tc_args _ _ _) ?_)
  unfold Builtin.«type.__call__»
  repeat (first | with_reducible refine wpAny_call ?_ | lk)
  refine exc_new X hrest ?_
  have k : ∀ b o, h.get? b = some o → ((h.push (tupO rest)).push (excO none #[.ref h.objs.size, .none, .none, .none, .bool false, .none])).get? b = some o := fun b o e => Heap.get?_push_of_some _ (Heap.get?_push_of_some _ e)
  have X' := X.keeps k
  have hx : ((h.push (tupO rest)).push (excO none #[.ref h.objs.size, .none, .none, .none, .bool false, .none])).get? (h.objs.size + 1) = some (excO none #[.ref h.objs.size, .none, .none, .none, .bool false, .none]) := by heap_get
  have t1 : Looks (model prog w) ((h.push (tupO rest)).push (excO none #[.ref h.objs.size, .none, .none, .none, .bool false, .none])) (typeOf (.ref (h.objs.size + 1))) (.ref 111) := (Looks.ld hx).andThen .now
  have s1 : Looks (model prog w) _ (isSubtype (.ref 111) (.ref 111)) true := looks_mroIn X' (by k_is)
  have i1 : Looks (model prog w) _ (typeLookup (.ref 111) "__init__") (some (.ref 108)) := looks_findIn X' (by k_is)
  have b1 := bind_fn (M := model prog w) X' (f := 108) (.ref (h.objs.size + 1)) (by k_is)
  unfold isInstance callSpecial? specialOf
  repeat (first | with_reducible refine wpAny_call ?_ | lk)
  refine codeAny_mono hq fun r s' z => ?_
  rcases r with e | (v | _ | _ | _) <;> first | exact z | exact z.elim | skip
  obtain ⟨rfl, z⟩ := z
  exact wpAny_pure (wpAny_pure z)
end
section
variable {prog : Program} {w : World} {A : Around} {E : Value → Shared → Prop} {s : Shared} {g : Heap} {L : Addr} {m : Str → Option Value} {news : List (Addr × Obj)}
theorem News.app {h : Heap} {x y : List (Addr × Obj)} (a : News g L h x) (b : News g L h y) : News g L h (x ++ y) := fun q hq => (List.mem_append.mp hq).elim (a q) (b q)
theorem Spl.front {h : Heap} {a : Addr} {o : Obj} {l r : List (Addr × Obj)} (sp : Spl a o l r) (N : News g L h l) : News g L h ((a, o) :: r) := fun q hq => (List.mem_cons.mp hq).elim (fun z => z ▸ N _ sp.mem) fun z => N _ (sp.sub q z)
theorem exc_init {e t0 : Addr} {dx : Option Addr} {v1 v2 v3 v4 v5 : Value} {rest : List Value} {Q : Value → Shared → Prop} (X₀ : (kfr w.params).In g) (F : Fr g L s.heap m) (N : News g L s.heap news) {rst : List (Addr × Obj)}
    (sp : Spl e (excO dx #[.ref t0, v1, v2, v3, v4, v5]) news rst) (hne : ∀ q ∈ rst, q.1 ≠ e) (hrest : rest.length ≤ 1000)
    (h : ∀ t h', Fr g L h' m → News g L h' ((e, excO dx #[.ref t, v1, v2, v3, v4, v5]) :: (t, tupO rest) :: rst) → (∀ p ∈ news, p.1 < t) → Q .none { s with heap := h' }) :
    wpAny (model prog w) A (call (.builtin "Exception.__init__") (.ref e :: rest)) Q E s := by
  obtain ⟨hp, gg, d, tt, os⟩ := s
  dsimp only at F N h
  have X : (kfr w.params).In hp := X₀.keeps F.keep
  have he : hp.get? e = some (excO dx #[.ref t0, v1, v2, v3, v4, v5]) := (N _ sp.mem).1
  have hC := X 111 _ (by k_is)
  have FF := PySem.F.excBase_Exception
  have t1 : Looks (model prog w) hp (typeOf (.ref e)) (.ref 111) := (Looks.ld he).andThen .now
  have s1 : Looks (model prog w) hp (isSubtype (.ref 111) (.type "Exception")) true := looks_mroIn X (by k_is)
  refine wpAny_call (codeAny_call_builtin FF.init.plain FF.initEntry ?_)
  simp only [checkBuiltinCall, FF.initKind, FF.initSplit, FF.initRow]
  unfold isInstance
  repeat (first | simp only [bne_self_eq_false, Bool.false_eq_true, if_false] | lk)
  rw [if_neg (by rw [Bool.and_eq_true]; exact fun q => absurd q.2 (by decide))]
  repeat lk
  rw [if_neg (by rw [sizeLine_eq]; simp; omega)]
  have he' := Heap.get?_push_of_some (tupO rest) he
  repeat lk
  have NF := N.push F (tupO rest)
  have N1 : News g L (hp.push (tupO rest)) ((e, excO dx #[.ref t0, v1, v2, v3, v4, v5]) :: (hp.objs.size, tupO rest) :: rst) := fun q hq => by
    rcases List.mem_cons.mp hq with rfl | hq
    · exact NF _ (.tail _ sp.mem)
    · rcases List.mem_cons.mp hq with rfl | hq
      · exact NF _ (.head _)
      · exact NF _ (.tail _ (sp.sub _ hq))
  have hlt : e < hp.objs.size := Heap.lt_size he
  obtain ⟨F2, N2⟩ := news_upd (pre := []) (f := Obj.mapFields fun x => x.setIfInBounds 0 (.ref hp.objs.size)) (o' := excO dx #[.ref hp.objs.size, v1, v2, v3, v4, v5]) (F.push (tupO rest)) N1 (fun _ z => nomatch z) (fun q hq => by
    rcases List.mem_cons.mp hq with rfl | hq
    · exact Nat.ne_of_gt hlt
    · exact hne q hq) rfl rfl
  refine wpAny_updatePart he' ?_
  repeat lk
  exact h _ _ F2 N2 fun p hp => Heap.lt_size (N p hp).1
end
section
open PySem.Builtin.ObjectAttr
variable {prog : Program} {w : World} {A : Around} {E : Value → Shared → Prop} {s : Shared} {g : Heap} {L : Addr} {m : Str → Option Value} {news : List (Addr × Obj)}
theorem exc_store {e : Addr} {dx : Option Addr} {vs : Array Value} {name : Str} {v : Value} {Q : Unit → Shared → Prop} (X : (kfr w.params).In s.heap) (he : s.heap.get? e = some (excO dx vs)) (hdd : ∀ q, dx = some q → ∃ o, s.heap.get? q = some o)
    (ht : takerIn (kfr w.params) 111 name = some none)
    (h : ∀ b, wpAny (model prog w) A.in1 (storeInOwnDict (.ref e) (.ref 111) (.str name s.toks) name v b) (fun fin s' => match fin with | PySem.Fin.done (Flow.ret _) => Q () s' | _ => False) E { s with toks := s.toks + 1 }) :
    wpAny (model prog w) A (setAttr (.ref e) name v) Q E s := by
  obtain ⟨hp, gg, d, tt, os⟩ := s
  dsimp only at X he h hdd
  have I : ∃ od, InstAt hp e (excO dx vs) 111 od := by
    cases dx with
    | none => exact ⟨none, he, rfl, rfl, trivial⟩
    | some q => obtain ⟨o, ho⟩ := hdd q rfl; exact ⟨some o, he, rfl, rfl, ho⟩
  obtain ⟨od, I⟩ := I
  refine set_plain X I (by k_is) ?_
  have SF := PySem.F.store_Exception
  have sub : Looks (model prog w) hp (isInstance (.ref e) (.type "object")) true := I.type.andThen (looks_mroIn X (by k_is))
  refine codeAny_call_builtin SF.slot.plain SF.entry (@check_slot (model prog w) _ _ _ "object.__setattr__" "object" "__setattr__" (.ref e) [.str name tt, v] [] _ SF.kind SF.split sub (SF.args (.ref e) (.str name tt) v) ?_)
  obtain ⟨attr, ha, hr⟩ := Option.bind_eq_some_iff.mp ht
  have hm : Looks (model prog w) hp (mroOf (.ref 111)) [.ref 111, .ref 90, .type "Exception", .type "BaseException", .type "object"] := (looks_clsIn (cd := _) X (by k_is)).andThen .now
  have L3 : Looks (model prog w) hp (storeTaker? attr) none := by
    cases attr with
    | none => exact .now
    | some a =>
      obtain ⟨b, hb, hr'⟩ := Option.map_eq_some_iff.mp hr
      refine (looks_takesIn X hb).andThen ?_
      cases b with
      | false => exact .now
      | true => cases hr'
  rw [osa_eq, refuse_eq]
  refine wpAny_bind (wpAny_bind (I.type.here (wpAny_bind (hm.here ?_))))
  rw [refuseLoop_ref, refuseLoop_ref, SF.passes]
  refine wpAny_pure (wpAny_bind (I.type.here (wpAny_bind ((looks_findIn X ha).here (wpAny_bind (L3.here ?_))))))
  dsimp only
  refine wpAny_mono (h _) (fun fin s' z => ?_) fun _ _ z => z
  rcases fin with (_ | _ | _ | _) | _ <;> first | exact z | exact z.elim
theorem exc_set0 {e : Addr} {vs : Array Value} {name : Str} {v : Value} {Q : Unit → Shared → Prop} (X₀ : (kfr w.params).In g) (F : Fr g L s.heap m) (N : News g L s.heap news) {rst : List (Addr × Obj)}
    (sp : Spl e (excO none vs) news rst) (hne : ∀ q ∈ rst, q.1 ≠ e) (ht : takerIn (kfr w.params) 111 name = some none)
    (h : ∀ d k h' tk, Fr g L h' m → News g L h' ((e, excO (some d) vs) :: (d, dictOf [⟨PyData.keyHash w.params name, .str name k, v⟩] 1) :: rst) → (∀ p ∈ news, p.1 < d) → Q () { s with heap := h', toks := tk }) :
    wpAny (model prog w) A (setAttr (.ref e) name v) Q E s := by
  obtain ⟨hp, gg, d, tt, os⟩ := s
  dsimp only at F N h
  have X : (kfr w.params).In hp := X₀.keeps F.keep
  have he : hp.get? e = some (excO none vs) := (N _ sp.mem).1
  refine exc_store X he (fun _ z => nomatch z) ht fun b => ?_
  have hC := X 111 _ (by k_is)
  have he' := Heap.get?_push_of_some emptyDict he
  have hC' := Heap.get?_push_of_some emptyDict hC
  unfold storeInOwnDict
  dsimp only
  repeat lk
  have hlt : e < hp.objs.size := Heap.lt_size he
  have hd0 : ((hp.push emptyDict).update e (fun o => { cls := o.cls, dict := some hp.objs.size, data := o.data, slots := o.slots })).get? hp.objs.size = some emptyDict :=
    (Heap.get?_update_other _ _ (Nat.ne_of_lt hlt)).trans (Heap.get?_push_size hp rfl)
  refine wpAny_updatePart he' ?_
  have NF := N.push F emptyDict
  have N1 : News g L (hp.push emptyDict) ([] ++ (e, excO none vs) :: (hp.objs.size, emptyDict) :: rst) := fun q hq => by
    rcases List.mem_cons.mp hq with rfl | hq
    · exact NF _ (.tail _ sp.mem)
    · rcases List.mem_cons.mp hq with rfl | hq
      · exact NF _ (.head _)
      · exact NF _ (.tail _ (sp.sub _ hq))
  obtain ⟨F2, N2⟩ := news_upd (f := fun o => { cls := o.cls, dict := some hp.objs.size, data := o.data, slots := o.slots }) (o' := excO (some hp.objs.size) vs) (F.push emptyDict) N1 (fun _ z => nomatch z) (fun q hq => by
    rcases List.mem_cons.mp hq with rfl | hq
    · exact Nat.ne_of_gt hlt
    · exact hne q hq) rfl rfl
  obtain ⟨F3, N3⟩ := news_upd (pre := [(e, excO (some hp.objs.size) vs)]) (f := Obj.putName name (PyData.keyHash w.params name) (.str name (tt + 1)) v) (o' := dictOf [⟨PyData.keyHash w.params name, .str name (tt + 1), v⟩] 1) F2 N2
    (fun q hq => by rw [List.mem_singleton.mp hq]; exact Nat.ne_of_lt hlt) (fun q hq => Nat.ne_of_lt (Heap.lt_size (N q (sp.sub q hq)).1)) rfl rfl
  repeat lk
  refine wpAny_updatePart hd0 ?_
  refine wpAny_bind (wpAny_lookBehind (N3 _ (.tail _ (.head _))).1 (by exact pastItsLine_dict (by rw [sizeLine_eq]; simp)) ?_)
  exact wpAny_pure (h _ _ _ _ F3 N3 fun p hp => Heap.lt_size (N p hp).1)
theorem exc_set1 {e d : Addr} {vs : Array Value} {v v0 : Value} {hm : Int} {k0 : Tok} {n : Nat} {Q : Unit → Shared → Prop} (X₀ : (kfr w.params).In g) (F : Fr g L s.heap m) (N : News g L s.heap news) {rst : List (Addr × Obj)}
    (he : (e, excO (some d) vs) ∈ news) (sp : Spl d (dictOf [⟨hm, .str "message" k0, v0⟩] n) news rst) (hne : ∀ q ∈ rst, q.1 ≠ d)
    (h : ∀ k h' tk, Fr g L h' m → News g L h' ((d, dictOf [⟨hm, .str "message" k0, v0⟩, ⟨PyData.keyHash w.params "place", .str "place" k, v⟩] (n + 1)) :: rst) → Q () { s with heap := h', toks := tk }) :
    wpAny (model prog w) A (setAttr (.ref e) "place" v) Q E s := by
  obtain ⟨hp, gg, dd, tt, os⟩ := s
  dsimp only at F N h
  have X : (kfr w.params).In hp := X₀.keeps F.keep
  have he : hp.get? e = some (excO (some d) vs) := (N _ he).1
  have hd0 : hp.get? d = some (dictOf [⟨hm, .str "message" k0, v0⟩] n) := (N _ sp.mem).1
  refine exc_store X he (fun q hq => by cases hq; exact ⟨_, hd0⟩) (by k_is) fun b => ?_
  have hC := X 111 _ (by k_is)
  unfold storeInOwnDict
  dsimp only
  obtain ⟨F3, N3⟩ := news_upd (pre := []) (f := Obj.putName "place" (PyData.keyHash w.params "place") (.str "place" (tt + 1)) v) (o' := dictOf [⟨hm, .str "message" k0, v0⟩, ⟨PyData.keyHash w.params "place", .str "place" (tt + 1), v⟩] (n + 1)) F (sp.front N)
    (fun _ z => nomatch z) hne (by rw [putName_dict]; rfl) rfl
  repeat lk
  refine wpAny_updatePart hd0 ?_
  refine wpAny_bind (wpAny_lookBehind (N3 _ (.head _)).1 (by exact pastItsLine_dict (by rw [sizeLine_eq]; simp)) ?_)
  exact wpAny_pure (h _ _ _ F3 N3)
end
set_option maxRecDepth 100000
set_option maxHeartbeats 8000000
noncomputable abbrev excD (w : World) (msg : Str) (pl : Int) (k0 t0 k1 t1 : Tok) : Obj := dictOf [⟨PyData.keyHash w.params "message", .str "message" k0, .str msg t0⟩, ⟨PyData.keyHash w.params "place", .str "place" k1, .int pl t1⟩] 2
/-- the head of its traceback -/
noncomputable def Trc (g : Heap) (news : List (Addr × Obj)) (h : Heap) (vs : Array Value) (fl : Value) : Prop :=
  ∃ T oT ts, vs[1]? = some (.ref T) ∧ g.get? T = none ∧ (∀ q ∈ news, q.1 ≠ T) ∧ h.get? T = some oT ∧ oT.data = .fields ts ∧ ts[3]? = some fl
section
variable {M : Model} {A : Around} {E : Value → Shared → Prop} {s : Shared} {B g : Heap} {env : Env} {outer : List Env} {L e : Addr} {dx : Option Addr} {vs : Array Value} {news : List (Addr × Obj)}
theorem entry_core {head : Value} {hadNext : Bool} {Q : Unit → Shared → Prop} (hfr : A.frames = some (env :: outer)) (hl : s.heap.FunFrames B (env :: outer)) (hf : env.frame = some L) (he : s.heap.get? e = some (excO dx vs)) (hsz : 1 < vs.size)
    (hQ : ∀ h' T oT ts, ChgF (frs (env :: outer)) [e] s.heap h' → h'.get? e = some (excO dx (vs.setIfInBounds 1 (.ref T))) → s.heap.get? T = none → h'.get? T = some oT → oT.data = .fields ts → ts[3]? = some (rawInt L) → Q () { s with heap := h' }) :
    wpAny M A (do let a ← frameOf env; let pl ← entryPlaceOf L hadNext; let b ← EntryCells.newEntry head a .none (rawInt L) .none pl; setField (.ref e) 1 b) Q E s := by
  have hene : e ∉ frs (env :: outer) := fun hm => by
    obtain ⟨_, o, ho, hnf⟩ := hl.mem hm
    rw [he] at ho; cases ho; exact hnf _ rfl
  refine wpAny_bind (wpAny_frameOf_fun hfr hl hf fun h₁ hs₁ => ?_)
  refine wpAny_bind (wpAny_entryPlaceOf fun pl hpl => ?_)
  unfold EntryCells.newEntry newFields
  refine wpAny_bind (wpAny_newObj_type ?_ (hpl.sizeOk5 _ _ _ _ _))
  have he₁ : h₁.get? e = some (excO dx vs) := (hs₁.2.1 e hene).trans he
  have he₂ := Heap.get?_push_of_some (h := h₁) { cls := .type "traceback", dict := none, data := .fields ([head, .ref L, .none, rawInt L, .none] ++ (if pl.isEmpty then List.replicate 6 Value.none else pl)).toArray } he₁
  refine wpAny_setField he₂ rfl hsz (hQ _ h₁.objs.size _ _ (fun b o hb hne => ?_) ((Heap.get?_update_self _ he₂ rfl).trans rfl) (Heap.get?_none_of_le (Nat.le_of_eq hs₁.1.symm))
    ((Heap.get?_update_other _ _ (Nat.ne_of_lt (Heap.lt_size he₁))).trans (Heap.get?_push_size h₁ rfl)) rfl ?_)
  · have hbe : b ≠ e := fun z => hne (z ▸ List.mem_singleton_self _)
    have back : ∀ o', h₁.get? b = some o' → ((h₁.push { cls := .type "traceback", dict := none, data := .fields ([head, .ref L, .none, rawInt L, .none] ++ (if pl.isEmpty then List.replicate 6 Value.none else pl)).toArray }).update e (Obj.mapFields (·.setIfInBounds 1 (Value.ref h₁.objs.size)))).get? b = some o' := fun o' z =>
      (Heap.get?_update_other _ _ (Ne.symm hbe)).trans (Heap.get?_push_of_some _ z)
    refine ⟨fun n => back _ ((hs₁.2.1 b n).trans hb), fun _ => ?_⟩
    obtain ⟨sl, z⟩ := hs₁.2.2 b o hb
    exact ⟨sl, back _ z⟩
  · first | (simp; done) | (rcases hpl with rfl | ⟨_, _, _, _, _, _, _, rfl⟩ <;> simp)
theorem flight_none {fl : Value} {Q : Unit → Shared → Prop} (he : s.heap.get? e = some (excO dx vs)) (hme : (e, excO dx vs) ∈ news) (hT : Trc g news s.heap vs fl)
    (hQ : ∀ h', (∀ b o, s.heap.get? b = some o → (∀ T, vs[1]? = some (.ref T) → b ≠ T) → h'.get? b = some o) → h'.get? e = some (excO dx vs) → Trc g news h' vs .none → Q () { s with heap := h' }) : wpAny M A (setFlight (.ref e) none) Q E s := by
  obtain ⟨T, oT, ts, h1, hg, hn, hT, hd, h3⟩ := hT
  have hsz3 : 3 < ts.size := (Array.getElem?_eq_some_iff.mp h3).1
  unfold setFlight
  refine wpAny_bind (wpAny_field he rfl h1 ?_)
  rw [if_pos (show (Value.ref T != Value.none) = true from by simp)]
  have oth : ∀ b, b ≠ T → (s.heap.update T (Obj.mapFields (·.setIfInBounds 3 ((none : Option Addr).elim Value.none fun f => rawInt f)))).get? b = s.heap.get? b := fun b n => Heap.get?_update_other _ _ (Ne.symm n)
  refine wpAny_setField hT hd hsz3 (hQ _ (fun b o hb n => (oth b (n T h1)).trans hb) ((oth e (hn _ hme)).trans he) ⟨T, _, _, h1, hg, hn, Heap.get?_update_self _ hT (Obj.isFreed_of_fields (Obj.data_mapFields hd _)), Obj.data_mapFields hd _, by simp [hsz3]⟩)
/-- the frame notes it, and it lands -/
theorem note_land {Q : Unit → Shared → Prop} (hfr : A.frames = some (env :: outer)) (hl : s.heap.FunFrames B (env :: outer)) (hf : env.frame = some L) (hme : (e, excO dx vs) ∈ news) (he : s.heap.get? e = some (excO dx vs)) (hsz : 1 < vs.size)
    (hN : ∀ q ∈ news, s.heap.get? q.1 = some q.2) (hG : ∀ b o, g.get? b = some o → ∃ o', s.heap.get? b = some o') (hT : vs[1]? = some .none ∨ Trc g news s.heap vs .none)
    (hQ : ∀ h' vs', (∀ b o, s.heap.get? b = some o → b ≠ e → (∀ T, vs[1]? = some (.ref T) → b ≠ T) → (b ∉ frs (env :: outer) → h'.get? b = some o) ∧ (b ∈ frs (env :: outer) → ∃ sl, h'.get? b = some { o with slots := sl })) →
      h'.get? e = some (excO dx vs') → 1 < vs'.size → Trc g news h' vs' .none → Q () { s with heap := h' }) :
    wpAny M A (noteFrame (.ref e) env) (fun _ s' => wpAny M A (setFlight (.ref e) none) Q E s') E s := by
  have fin : ∀ (s₁ : Shared) (h' : Heap) (T : Addr) (oT : Obj) (ts : Array Value), s₁.heap.FunFrames B (env :: outer) → (∀ b o, s.heap.get? b = some o → b ≠ e → (∀ T, vs[1]? = some (.ref T) → b ≠ T) → s₁.heap.get? b = some o) → (∀ b, s₁.heap.get? b = none → s.heap.get? b = none) →
      { s₁ with heap := s.heap } = s → ChgF (frs (env :: outer)) [e] s₁.heap h' → h'.get? e = some (excO dx (vs.setIfInBounds 1 (.ref T))) → s₁.heap.get? T = none → h'.get? T = some oT → oT.data = .fields ts → ts[3]? = some (rawInt L) →
      wpAny M A (setFlight (.ref e) none) Q E { s₁ with heap := h' } := by
    intro s₁ h' T oT ts hl₁ hk hk' es c x1 x2 x3 x4 x5
    have hTn : s.heap.get? T = none := hk' _ x2
    have trc : Trc g news h' (vs.setIfInBounds 1 (.ref T)) (rawInt L) := by
      refine ⟨T, oT, ts, by simp [hsz], ?_, fun q hq z => ?_, x3, x4, x5⟩
      · cases z : g.get? T with
        | none => rfl
        | some o => obtain ⟨o', y⟩ := hG _ _ z; rw [hTn] at y; cases y
      · have := hN q hq; rw [z, hTn] at this; cases this
    refine flight_none (s := { s₁ with heap := h' }) (g := g) (news := (e, excO dx (vs.setIfInBounds 1 (.ref T))) :: news) (fl := rawInt L) x1 (List.mem_cons_self) ?_ fun h₂ k2 e2 t2 => ?_
    · obtain ⟨T', oT', ts', y1, y2, y3, y4⟩ := trc
      exact ⟨T', oT', ts', y1, y2, fun q hq => (List.mem_cons.mp hq).elim (fun z => by subst z; exact (y3 (e, excO dx vs) hme : e ≠ T')) (y3 q), y4⟩
    have e3 : { s₁ with heap := h₂ } = { s with heap := h₂ } := by rw [← es]
    show Q () { s₁ with heap := h₂ }
    rw [e3]
    refine hQ h₂ _ (fun b o hb hbe hbT => ?_) e2 (by simpa using hsz) ?_
    · have hb₁ := hk b o hb hbe hbT
      obtain ⟨c1, c2⟩ := c b o hb₁ fun z => hbe (List.mem_singleton.mp z)
      have nT : ∀ T', (vs.setIfInBounds 1 (.ref T))[1]? = some (.ref T') → b ≠ T' := fun T' z => by
        simp [hsz] at z; subst z
        intro z; rw [z, hTn] at hb; cases hb
      refine ⟨fun n => k2 _ _ (c1 n) nT, fun m => ?_⟩
      obtain ⟨sl, z⟩ := c2 m
      exact ⟨sl, k2 _ _ z nT⟩
    · obtain ⟨T', oT', ts', y1, y2, y3, y4⟩ := t2
      exact ⟨T', oT', ts', y1, y2, fun q hq => y3 q (List.mem_cons_of_mem _ hq), y4⟩
  unfold noteFrame
  simp only [hf]
  rcases hT with h1 | ⟨T, oT, ts, h1, hg, hn, hT, hd, h3⟩
  · refine wpAny_bind (wpAny_field he rfl h1 ?_)
    rw [if_neg (by decide)]
    exact entry_core hfr hl hf he hsz fun h' T oT ts c x1 x2 x3 x4 x5 => fin s h' T oT ts hl (fun b o z _ _ => z) (fun _ z => z) rfl c x1 x2 x3 x4 x5
  · have hTe : T ≠ e := fun z => hn _ hme z.symm
    refine wpAny_bind (wpAny_field he rfl h1 ?_)
    rw [if_pos (show (Value.ref T != Value.none) = true from by simp)]
    refine wpAny_bind (wpAny_field hT hd h3 ?_)
    rw [if_neg (show ¬ ((Value.none == rawInt L) = true) from by simp [rawInt])]
    refine wpAny_bind (wpAny_setField hT hd (Array.getElem?_eq_some_iff.mp h3).1 ?_)
    have oth : ∀ b, b ≠ T → (s.heap.update T (Obj.mapFields (·.setIfInBounds 3 Value.none))).get? b = s.heap.get? b := fun b n => Heap.get?_update_other _ _ (Ne.symm n)
    have hTs := Heap.get?_update_self (Obj.mapFields (·.setIfInBounds 3 Value.none)) hT (Obj.isFreed_of_fields (Obj.data_mapFields hd _))
    have hl' : (s.heap.update T (Obj.mapFields (·.setIfInBounds 3 Value.none))).FunFrames B (env :: outer) := hl.of_keeps fun b o hb hnf => ⟨o, (oth b fun z => by rw [z, hT] at hb; cases hb; exact hnf _ hd).trans hb, rfl⟩
    refine entry_core (s := { s with heap := s.heap.update T (Obj.mapFields (·.setIfInBounds 3 Value.none)) }) hfr hl' hf ((oth e (Ne.symm hTe)).trans he) hsz fun h' T' oT' ts' c x1 x2 x3 x4 x5 => ?_
    refine fin { s with heap := s.heap.update T (Obj.mapFields (·.setIfInBounds 3 Value.none)) } h' T' oT' ts' hl' (fun b o z _ n => (oth b (n T h1)).trans z) (fun b z => ?_) rfl c x1 x2 x3 x4 x5
    by_cases w : b = T
    · subst w; rw [hTs] at z; cases z
    · rw [← oth b w]; exact z
end
set_option maxRecDepth 100000
set_option maxHeartbeats 8000000
/-- what a raise leaves -/
noncomputable def Raised (w : World) (h₀ : Heap) (fs mu : List Addr) (pl : Int) (e : Addr) (h' : Heap) : Prop :=
  ChgF fs mu h₀ h' ∧ ∃ dx vs msg k0 t0 k1 t1, h'.get? e = some (excO (some dx) vs) ∧ 1 < vs.size ∧ h'.get? dx = some (excD w msg pl k0 t0 k1 t1) ∧ h₀.get? e = none ∧ h₀.get? dx = none ∧
    ∃ T oT ts, vs[1]? = some (.ref T) ∧ (∀ b o, h₀.get? b = some o → b ∉ mu → b ≠ T) ∧ T ≠ e ∧ T ≠ dx ∧ h'.get? T = some oT ∧ oT.data = .fields ts ∧ ts[3]? = some .none
structure Cal (B : Heap) (lvl : Nat) (own : List (Addr × Obj)) (A : Around) (s : Shared) (outer : List Env) : Prop where
  lv : A.depth ≤ 300 + lvl
  un : A.units ≤ 8 * lvl
  ha : A.handled = none
  fr : A.frames = some outer
  ff : s.heap.FunFrames B outer
  st : B.StaysIn s.heap
  ow : ∀ q ∈ own, s.heap.get? q.1 = some q.2 ∧ B.get? q.1 = none ∧ q.1 ∉ frs outer
/-- a contract: it comes back; it may touch the frames above -/
noncomputable def ConF (prog : Program) (w : World) (B : Heap) (lvl : Nat) (f : Value) (args : List Value) (own : List (Addr × Obj)) (mu : List Addr) (V : Value → List (Addr × Obj) → Prop) : Prop :=
  ∀ (A : Around) (s : Shared) (R : Result → Shared → Prop) (outer : List Env), Cal B lvl own A s outer →
    (∀ v new h' tk', V v new → ChgF (frs outer) mu s.heap h' → (∀ q ∈ new, h'.get? q.1 = some q.2 ∧ (q.1 ∈ mu ∨ s.heap.get? q.1 = none)) → R (.ok (.ret v)) { s with heap := h', toks := tk' }) →
    codeAny (model prog w) A (.call f ⟨args, []⟩) R s
/-- a contract: it raises a fault with this place -/
noncomputable def ConR (prog : Program) (w : World) (B : Heap) (lvl : Nat) (f : Value) (args : List Value) (own : List (Addr × Obj)) (mu : List Addr) (pl : Int) : Prop :=
  ∀ (A : Around) (s : Shared) (R : Result → Shared → Prop) (outer : List Env), Cal B lvl own A s outer →
    (∀ e h' tk', Raised w s.heap (frs outer) mu pl e h' → R (.error (.ref e)) { s with heap := h', toks := tk' }) →
    codeAny (model prog w) A (.call f ⟨args, []⟩) R s
theorem gr_hide {B h₀ : Heap} {lvl : Nat} {own : List (Addr × Obj)} {A : Around} {s : Shared} {outer : List Env} (C : Cal B lvl own A s outer) : GR s.heap (own.map (·.1)) (frs outer) (hideAll s.heap (own.map (·.1))) ∧ B.StaysIn (hideAll s.heap (own.map (·.1))) ∧ (hideAll s.heap (own.map (·.1))).FunFrames B outer := by
  have k : ∀ b o, s.heap.get? b = some o → b ∉ own.map (·.1) → (hideAll s.heap (own.map (·.1))).get? b = some o := fun b o e n => hideAll_get _ e n
  refine ⟨fun b o e n => ⟨fun _ => k b o e n, fun _ => ⟨o.slots, k b o e n⟩⟩, fun b o e => k b o (C.st b o e) fun m => ?_, ?_⟩
  · obtain ⟨q, hq, rfl⟩ := List.mem_map.mp m
    rw [(C.ow q hq).2.1] at e; cases e
  · have : ∀ l, (∀ q ∈ own, q.1 ∉ frs l) → s.heap.FunFrames B l → (hideAll s.heap (own.map (·.1))).FunFrames B l := by
      intro l
      induction l with
      | nil => exact fun _ _ => trivial
      | cons env r ih =>
        rintro hq ⟨a, ⟨L, o, b, c, d, e⟩, f⟩
        refine ⟨a, ⟨L, o, b, c, k L o d fun m => ?_, e⟩, ih (fun q hm z => hq q hm ?_) f⟩
        · obtain ⟨q, hm, z⟩ := List.mem_map.mp m
          refine hq q hm ?_
          show q.1 ∈ List.filterMap _ _
          rw [List.filterMap_cons, b, z]; exact List.mem_cons_self
        · show q.1 ∈ List.filterMap _ _
          rw [List.filterMap_cons, b]; exact List.mem_cons_of_mem _ z
    exact this outer (fun q hq => (C.ow q hq).2.2) C.ff
section
variable {prog : Program} {w : World} {mean : ExcName → Option Value} {mg mb : Str → Option Value} {B g h : Heap} {A : Around} {s : Shared} {R : Result → Shared → Prop} {outer : List Env} {own : List (Addr × Obj)} {lvl : Nat} {env : Env} {L : Addr} {m : Str → Option Value} {news rest : List (Addr × Obj)} {mu : List Addr} {E : Value → Shared → Prop}
theorem enterF {name qual : Str} {params : Arguments} {body : List Stmt} {scope : Scope} {dV kV doc pm cdv ct oc : Value} {an od : Option Addr} {osl : Array (Option Value)} {f : Addr} {args : Args} {binds rb : List (Str × Value)}
    (G : Gd w mean mg mb B) (C : Cal B lvl own A s outer) (hl : lvl ≤ 690)
    (ho : (kfr w.params).lookup f = some ⟨oc, od, .func (fnOf name qual params body scope dV kV doc pm an cdv ct), osl⟩) (hcd : codeIn (kfr w.params) cdv qual = true)
    (hbind : BindsTo s (fnOf name qual params body scope dV kV doc pm an cdv ct) args binds) (hloc : ∀ y ∈ binds, scope.names.lookup y.1 = some .local) (hrb : binds.reverse = rb)
    (h : ∀ g L' h₁ (m : Str → Option Value) Q E tk, GR s.heap (own.map (·.1)) (frs outer) g → m = (fun y => List.lookup y rb) →
      (∀ v s', R (.ok (.ret v)) s' → Q (Flow.ret v) s') → (∀ s', R (.ok (.ret .none)) s' → Q Flow.next s') →
      (∀ e s', wpAny (model prog w) (A.deeper (envOf qual scope L' f cdv)) (leaving (envOf qual scope L' f cdv) e) (fun _ s'' => R (.error e) s'') (fun e' s'' => R (.error e') s'') s' → E e s') → PassesOwn (model prog w) (A.deeper (envOf qual scope L' f cdv)) (envOf qual scope L' f cdv) E →
      Fr g L' h₁ m → News g L' h₁ own → (kfr w.params).In g → Top topProg LOO mean mg mb g → B.StaysIn g → g.FunFrames B outer →
      wpAny (model prog w) (A.deeper (envOf qual scope L' f cdv)) (execs body (envOf qual scope L' f cdv)) Q E { s with heap := h₁, toks := tk })
    (hco : scope.isCoroutine = false := by rfl) (hgen : scope.isGenerator = false := by rfl) (hk : scope.kind = .function := by rfl)
    (hcell : ∀ x ∈ scope.names, x.2 ≠ .cell := by decide) : codeAny (model prog w) A (.call (.ref f) args) R s := by
  have XS := G.X.keeps C.st
  have TS := G.T.keeps C.st
  have hroom : A.depth < recursionLimit := Nat.lt_of_le_of_lt (Nat.le_trans C.lv (Nat.add_le_add_left hl 300)) (by decide)
  obtain ⟨gr, st, ff⟩ := gr_hide (h₀ := s.heap) C
  refine codeAny_call_def (fd := fnOf name qual params body scope dV kV doc pm an cdv ct) (body := body) (binds := binds) hroom (XS _ _ ho) rfl TS.nolimit (codeRec_of XS hcd) rfl hbind hcell hloc (fun h₁ hns hk₁ => ?_) hco hgen hk
  subst hrb
  exact h _ _ h₁ _ _ _ _ gr rfl (fun v s' x => x) (fun s' x => x) (fun e s' x => x) PassesOwn.leaving ⟨hns, fun b o e => hk₁ b o (of_hideAll _ e), Nat.le_of_eq (hideAll_size _ _)⟩
    (fun q hq => ⟨hk₁ _ _ (C.ow q hq).1, Nat.ne_of_lt (Heap.lt_size (C.ow q hq).1), hideAll_none _ (List.mem_map_of_mem hq)⟩) (G.X.keeps st) (G.T.keeps st) st ff

theorem fresh_of (gr : GR s.heap (own.map (·.1)) (frs outer) g) {a : Addr} (e : g.get? a = none) (n : ∀ p ∈ own, p.1 ≠ a) : s.heap.get? a = none := by
  cases z : s.heap.get? a with
  | none => rfl
  | some o =>
    have hm : a ∉ own.map (·.1) := fun hm => by
      obtain ⟨p, hp, y⟩ := List.mem_map.mp hm
      exact n p hp y
    obtain ⟨sl, y⟩ := gr.some z hm
    rw [e] at y; cases y
theorem con_endF {V : Value → List (Addr × Obj) → Prop} {h' : Heap} {v : Value} {tk' : Nat} (new : List (Addr × Obj))
    (k : ∀ v new h' tk', V v new → ChgF (frs outer) mu s.heap h' → (∀ q ∈ new, h'.get? q.1 = some q.2 ∧ (q.1 ∈ mu ∨ s.heap.get? q.1 = none)) → R (.ok (.ret v)) { s with heap := h', toks := tk' })
    (C : Cal B lvl own A s outer) (gr : GR s.heap (own.map (·.1)) (frs outer) g) (F : Fr g L h' m) (N : News g L h' news)
    (hsame : ∀ q ∈ own, q.1 ∈ mu ∨ q ∈ news) (hnew : ∀ q ∈ new, q ∈ news ∧ (q.1 ∈ mu ∨ ∀ p ∈ own, p.1 ≠ q.1)) (hV : V v new) : R (.ok (.ret v)) { s with heap := h', toks := tk' } := by
  refine k v new h' tk' hV (fun b o e n => ?_) fun q hq => ⟨(N q (hnew q hq).1).1, (hnew q hq).2.imp id fun z => fresh_of gr (N q (hnew q hq).1).2.2 z⟩
  by_cases hb : b ∈ own.map (·.1)
  · obtain ⟨q, hq, rfl⟩ := List.mem_map.mp hb
    have e' := (C.ow q hq).1
    rw [e'] at e
    cases e
    rcases hsame q hq with z | z
    · exact absurd z n
    · exact ⟨fun _ => (N q z).1, fun _ => ⟨_, (N q z).1⟩⟩
  · obtain ⟨x1, x2⟩ := gr b o e hb
    exact ⟨fun y => F.keep _ _ (x1 y), fun y => let ⟨sl, z⟩ := x2 y; ⟨sl, F.keep _ _ z⟩⟩
/-- what a call in a frame finds -/
theorem cal_in {lvl' : Nat} {own' : List (Addr × Obj)} (F : Fr g L s.heap m) (N : News g L s.heap news) (st : B.StaysIn g) (ff : g.FunFrames B outer) (hfr : A.frames = some (env :: outer)) (hf : env.frame = some L) (hk : env.scope.kind ≠ .module)
    (h1 : A.depth ≤ 300 + lvl') (h2 : A.units ≤ 8 * lvl') (h3 : A.handled = none) (ho : ∀ q ∈ own', q ∈ news) : Cal B lvl' own' A s (env :: outer) := by
  have hBL : B.get? L = none := by
    cases z : B.get? L with
    | none => rfl
    | some o =>
      have := Nat.lt_of_lt_of_le (Heap.lt_size (st _ _ z)) F.above
      exact absurd this (Nat.lt_irrefl _)
  have ffh : s.heap.FunFrames B outer := ff.of_keeps fun b o e _ => ⟨o, F.keep _ _ e, rfl⟩
  refine ⟨h1, h2, h3, hfr, .cons hk hf F.ns hBL ffh, fun b o e => F.keep b o (st b o e), fun q hq => ⟨(N q (ho q hq)).1, ?_, fun m => ?_⟩⟩
  · cases z : B.get? q.1 with
    | none => rfl
    | some o => have := st _ _ z; rw [(N q (ho q hq)).2.2] at this; cases this
  · have m' : q.1 ∈ L :: frs outer := by
      have : frs (env :: outer) = L :: frs outer := by show List.filterMap _ _ = _; rw [List.filterMap_cons, hf]
      rw [this] at m; exact m
    rcases List.mem_cons.mp m' with z | z
    · exact (N q (ho q hq)).2.1 z
    · obtain ⟨o, y, _⟩ := (ff.mem z).2
      rw [(N q (ho q hq)).2.2] at y; cases y
theorem frs_cons (hf : env.frame = some L) : frs (env :: outer) = L :: frs outer := by show List.filterMap _ _ = _; rw [List.filterMap_cons, hf]
/-- the raise leaves this frame -/
theorem raise_end {e dx : Addr} {vs : Array Value} {msg : Str} {pl : Int} {k0 t0 k1 t1 : Tok} {tk : Nat} {E' : Value → Shared → Prop}
    (k : ∀ e h' tk', Raised w s.heap (frs outer) mu pl e h' → R (.error (.ref e)) { s with heap := h', toks := tk' })
    (C : Cal B lvl own A s outer) (gr : GR s.heap (own.map (·.1)) (frs outer) g) (F : Fr g L h m) (N : News g L h news) (st : B.StaysIn g) (ff : g.FunFrames B outer) (hf : env.frame = some L) (hk : env.scope.kind ≠ .module)
    (hme : (e, excO (some dx) vs) ∈ news) (hmd : (dx, excD w msg pl k0 t0 k1 t1) ∈ news) (hne : dx ≠ e) (hsz : 1 < vs.size) (hT : vs[1]? = some .none ∨ Trc g news h vs .none) (hfe : ∀ p ∈ own, p.1 ≠ e) (hfd : ∀ p ∈ own, p.1 ≠ dx)
    (hsame : ∀ q ∈ own, q.1 ∈ mu ∨ q ∈ news) :
    wpAny (model prog w) (A.deeper env) (leaving env (.ref e)) (fun _ s'' => R (.error (.ref e)) s'') E' { s with heap := h, toks := tk } := by
  have hBL : B.get? L = none := by
    cases z : B.get? L with
    | none => rfl
    | some o =>
      have := Nat.lt_of_lt_of_le (Heap.lt_size (st _ _ z)) F.above
      exact absurd this (Nat.lt_irrefl _)
  have ffh : h.FunFrames B outer := ff.of_keeps fun b o e _ => ⟨o, F.keep _ _ e, rfl⟩
  unfold leaving
  refine wpAny_bind (note_land (s := { s with heap := h, toks := tk }) (g := g) (news := news) (Around.frames_deeper C.fr) (.cons hk hf F.ns hBL ffh) hf hme (N _ hme).1 hsz (fun q hq => (N q hq).1) (fun b o e => ⟨o, F.keep _ _ e⟩) hT fun h' vs' keeps he' hsz' ht' => ?_)
  rw [frs_cons hf] at keeps
  have nT : ∀ q ∈ news, ∀ T, vs[1]? = some (.ref T) → q.1 ≠ T := fun q hq T z => by
    rcases hT with y | ⟨T', _, _, y, _, y2, _⟩
    · rw [y] at z; cases z
    · rw [y] at z; cases z; exact y2 q hq
  have gT : ∀ b o, g.get? b = some o → ∀ T, vs[1]? = some (.ref T) → b ≠ T := fun b o y T z x => by
    subst x
    rcases hT with w | ⟨T', _, _, w, w2, _⟩
    · rw [w] at z; cases z
    · rw [w] at z; cases z; rw [w2] at y; cases y
  have inL : ∀ q ∈ news, q.1 ∉ L :: frs outer := fun q hq z => by
    rcases List.mem_cons.mp z with z | z
    · exact (N q hq).2.1 z
    · obtain ⟨o, y, _⟩ := (ff.mem z).2
      rw [(N q hq).2.2] at y; cases y
  have gk : ∀ b o, g.get? b = some o → (b ∉ frs outer → h'.get? b = some o) ∧ (b ∈ frs outer → ∃ sl, h'.get? b = some { o with slots := sl }) := fun b o y => by
    have nb : b ≠ e := fun z => by rw [z, (N _ hme).2.2] at y; cases y
    have nL : b ≠ L := fun z => by
      have := Nat.lt_of_lt_of_le (Heap.lt_size y) F.above
      rw [z] at this; exact absurd this (Nat.lt_irrefl _)
    obtain ⟨c1, c2⟩ := keeps b o (F.keep _ _ y) nb (gT b o y)
    exact ⟨fun z => c1 fun x => (List.mem_cons.mp x).elim nL z, fun z => c2 (List.mem_cons_of_mem _ z)⟩
  refine k e h' tk ⟨fun b o z n => ?_, dx, vs', msg, k0, t0, k1, t1, he', hsz', ?_, fresh_of gr (N _ hme).2.2 hfe, fresh_of gr (N _ hmd).2.2 hfd, ?_⟩
  · by_cases hb : b ∈ own.map (·.1)
    · obtain ⟨q, hq, rfl⟩ := List.mem_map.mp hb
      have e' := (C.ow q hq).1
      rw [e'] at z
      cases z
      rcases hsame q hq with z | z
      · exact absurd z n
      · have := (keeps _ _ (N q z).1 (hfe q hq) (nT q z)).1 (inL q z)
        exact ⟨fun _ => this, fun _ => ⟨_, this⟩⟩
    · obtain ⟨x1, x2⟩ := gr b o z hb
      refine ⟨fun y => (gk b o (x1 y)).1 y, fun y => ?_⟩
      obtain ⟨sl, z⟩ := x2 y
      obtain ⟨sl', z'⟩ := (gk b _ z).2 y
      exact ⟨sl', z'⟩
  · exact (keeps _ _ (N _ hmd).1 hne (nT _ hmd)).1 (inL _ hmd)
  · obtain ⟨T, oT, ts, y1, y2, y3, y4, y5, y6⟩ := ht'
    refine ⟨T, oT, ts, y1, fun b o z n x => ?_, Ne.symm (y3 _ hme), Ne.symm (y3 _ hmd), y4, y5, y6⟩
    subst x
    by_cases hb : b ∈ own.map (·.1)
    · obtain ⟨q, hq, rfl⟩ := List.mem_map.mp hb
      rcases hsame q hq with z | z
      · exact n z
      · exact y3 q z rfl
    · obtain ⟨sl, z'⟩ := gr.some z hb
      rw [y2] at z'; cases z'
/-- a raising call in a frame -/
theorem con_useR {lvl' : Nat} {f : Value} {args : List Value} {own' : List (Addr × Obj)} {pl : Int} {h₀ : Heap} {o₀ : List Addr} {Q : Value → Shared → Prop}
    (C : ConR prog w B lvl' f args own' mu pl) (F : Fr g L s.heap m) (N : News g L s.heap news) (gr : GR h₀ o₀ (frs outer) g) (st : B.StaysIn g) (ff : g.FunFrames B outer) (hfr : A.frames = some (env :: outer)) (hf : env.frame = some L) (hk : env.scope.kind ≠ .module)
    (h1 : A.depth ≤ 300 + lvl') (h2 : A.units ≤ 8 * lvl') (h3 : A.handled = none) (ho : ∀ q ∈ own', q ∈ news) (hmu : ∀ a ∈ mu, ∃ o, (a, o) ∈ news) (hr : ∀ q ∈ rest, q ∈ news ∧ q.1 ∉ mu)
    (k : ∀ g' e dx vs msg k0 t0 k1 t1 h' tk', Fr g' L h' m → News g' L h' ((e, excO (some dx) vs) :: (dx, excD w msg pl k0 t0 k1 t1) :: rest) → GR h₀ o₀ (frs outer) g' → B.StaysIn g' → g'.FunFrames B outer →
      Trc g' ((e, excO (some dx) vs) :: (dx, excD w msg pl k0 t0 k1 t1) :: rest) h' vs .none → 1 < vs.size → (∀ p ∈ news, p.1 ≠ e) → (∀ p ∈ news, p.1 ≠ dx) → dx ≠ e → E (.ref e) { s with heap := h', toks := tk' }) :
    wpAny (model prog w) A (call f args) Q E s := by
  refine wpAny_call (C A s _ _ (cal_in F N st ff hfr hf hk h1 h2 h3 ho) fun e h' tk' hR => ?_)
  obtain ⟨c, dx, vs, msg, k0, t0, k1, t1, he, hsz, hdx, fe, fd, T, oT, ts, y1, y2, y3, y4, y5, y6, y7⟩ := hR
  rw [frs_cons hf] at c
  have hmu' : ∀ a ∈ mu, g.get? a = none ∧ a ≠ L := fun a ha => by
    obtain ⟨o, hm⟩ := hmu a ha
    exact ⟨(N _ hm).2.2, (N _ hm).2.1⟩
  obtain ⟨F', N', gr', st', ff'⟩ := shadow_step (new := [(e, excO (some dx) vs), (dx, excD w msg pl k0 t0 k1 t1)]) F N gr st ff hmu' c hr (fun q hq => by
    rcases List.mem_cons.mp hq with rfl | hq
    · exact ⟨he, .inr fe⟩
    · rw [List.mem_singleton.mp hq]; exact ⟨hdx, .inr fd⟩)
  have hne : ∀ a, s.heap.get? a = none → ∀ p ∈ news, p.1 ≠ a := fun a ha p hp z => by have := (N p hp).1; rw [z, ha] at this; cases this
  refine k _ e dx vs msg k0 t0 k1 t1 h' tk' F' N' gr' st' ff' ⟨T, oT, ts, y1, ?_, fun q hq => ?_, y5, y6, y7⟩ hsz (hne e fe) (hne dx fd) fun z => by rw [z, he] at hdx; cases hdx
  · cases z : (shadow g h').get? T with
    | none => rfl
    | some o =>
      obtain ⟨⟨o', z'⟩, _⟩ := of_shadow z
      exact absurd rfl (y2 T o' (F.keep _ _ z') fun w => by rw [(hmu' T w).1] at z'; cases z')
  · rcases List.mem_cons.mp hq with rfl | hq
    · exact Ne.symm y3
    · rcases List.mem_cons.mp hq with rfl | hq
      · exact Ne.symm y4
      · exact y2 _ _ (N _ (hr q hq).1).1 (hr q hq).2
/-- a call in a frame that comes back, and may have touched the frames -/
theorem con_useF {lvl' : Nat} {f : Value} {args : List Value} {own' : List (Addr × Obj)} {V : Value → List (Addr × Obj) → Prop} {h₀ : Heap} {o₀ : List Addr} {Q : Value → Shared → Prop}
    (C : ConF prog w B lvl' f args own' mu V) (F : Fr g L s.heap m) (N : News g L s.heap news) (gr : GR h₀ o₀ (frs outer) g) (st : B.StaysIn g) (ff : g.FunFrames B outer) (hfr : A.frames = some (env :: outer)) (hf : env.frame = some L) (hk : env.scope.kind ≠ .module)
    (h1 : A.depth ≤ 300 + lvl') (h2 : A.units ≤ 8 * lvl') (h3 : A.handled = none) (ho : ∀ q ∈ own', q ∈ news) (hmu : ∀ a ∈ mu, ∃ o, (a, o) ∈ news) (hr : ∀ q ∈ rest, q ∈ news ∧ q.1 ∉ mu)
    (k : ∀ v new g' h' tk', V v new → Fr g' L h' m → News g' L h' (new ++ rest) → GR h₀ o₀ (frs outer) g' → B.StaysIn g' → g'.FunFrames B outer → (∀ q ∈ new, q.1 ∈ mu ∨ ∀ p ∈ news, p.1 ≠ q.1) → Q v { s with heap := h', toks := tk' }) :
    wpAny (model prog w) A (call f args) Q E s := by
  refine wpAny_call (C A s _ _ (cal_in F N st ff hfr hf hk h1 h2 h3 ho) fun v new h' tk' hV c hn => ?_)
  rw [frs_cons hf] at c
  have hmu' : ∀ a ∈ mu, g.get? a = none ∧ a ≠ L := fun a ha => by
    obtain ⟨o, hm⟩ := hmu a ha
    exact ⟨(N _ hm).2.2, (N _ hm).2.1⟩
  obtain ⟨F', N', gr', st', ff'⟩ := shadow_step (new := new) F N gr st ff hmu' c hr hn
  exact k v new _ h' tk' hV F' N' gr' st' ff' fun q hq => (hn q hq).2.imp id fun z p hp y => by have := (N p hp).1; rw [y, z] at this; cases this
theorem Con.toF {lvl' : Nat} {f : Value} {args : List Value} {V : Value → List (Addr × Obj) → Prop} (C : Con prog w B lvl' f args own mu V) : ConF prog w B lvl' f args own mu V :=
  fun A s R outer c k => C A s R c.lv c.un c.ha c.st (fun q hq => ⟨(c.ow q hq).1, (c.ow q hq).2.1⟩) fun v new h' tk' hV x hn => k v new h' tk' hV x.F hn
end
set_option maxRecDepth 100000
set_option maxHeartbeats 8000000
theorem ln2 : True := by
  k_with_none
  k_with "M subscriptTail Name Constant ref int" => (k_here; (with_reducible show wpAny _ _ (subscriptTail _ _ (Value.ref _) (Value.int _ _)) _ _ _); k_dflt (refine' Mine.item_N ?k0 ?k1 ?k2 ?k3 ?k4 ?_ ?k6; (case k0 => k_asm); (case k1 => k_mem); (case k2 => decide); (case k3 => decide); (case k4 => rfl); (case k6 => with_unfolding_all rfl); k_whole))
  k_with "M m_new" => first | exact List.forall_mem_nil _ | (refine' List.forall_mem_cons.mpr ⟨And.intro ?mzA ?mzB, ?mzC⟩; (case mzA => k_mem); (case mzB => (try dsimp only); first | exact Or.inl (by k_mem) | exact Or.inr (by walk_at "m_all")); (case mzC => walk_at "m_new"))
  k_with "M m_spl" => first | exact Mine.Spl.head | exact (Mine.Spl.tail Mine.Spl.head) | exact (Mine.Spl.tail (Mine.Spl.tail Mine.Spl.head)) | exact (Mine.Spl.tail (Mine.Spl.tail (Mine.Spl.tail Mine.Spl.head))) | exact (Mine.Spl.tail (Mine.Spl.tail (Mine.Spl.tail (Mine.Spl.tail Mine.Spl.head)))) | exact (Mine.Spl.tail (Mine.Spl.tail (Mine.Spl.tail (Mine.Spl.tail (Mine.Spl.tail Mine.Spl.head))))) | exact (Mine.Spl.tail (Mine.Spl.tail (Mine.Spl.tail (Mine.Spl.tail (Mine.Spl.tail (Mine.Spl.tail Mine.Spl.head)))))) | exact (Mine.Spl.tail (Mine.Spl.tail (Mine.Spl.tail (Mine.Spl.tail (Mine.Spl.tail (Mine.Spl.tail (Mine.Spl.tail Mine.Spl.head))))))) | exact (Mine.Spl.tail (Mine.Spl.tail (Mine.Spl.tail (Mine.Spl.tail (Mine.Spl.tail (Mine.Spl.tail (Mine.Spl.tail (Mine.Spl.tail Mine.Spl.head)))))))) | exact (Mine.Spl.tail (Mine.Spl.tail (Mine.Spl.tail (Mine.Spl.tail (Mine.Spl.tail (Mine.Spl.tail (Mine.Spl.tail (Mine.Spl.tail (Mine.Spl.tail Mine.Spl.head))))))))) | exact (Mine.Spl.tail (Mine.Spl.tail (Mine.Spl.tail (Mine.Spl.tail (Mine.Spl.tail (Mine.Spl.tail (Mine.Spl.tail (Mine.Spl.tail (Mine.Spl.tail (Mine.Spl.tail Mine.Spl.head)))))))))) | exact (Mine.Spl.tail (Mine.Spl.tail (Mine.Spl.tail (Mine.Spl.tail (Mine.Spl.tail (Mine.Spl.tail (Mine.Spl.tail (Mine.Spl.tail (Mine.Spl.tail (Mine.Spl.tail (Mine.Spl.tail Mine.Spl.head))))))))))) | exact (Mine.Spl.tail (Mine.Spl.tail (Mine.Spl.tail (Mine.Spl.tail (Mine.Spl.tail (Mine.Spl.tail (Mine.Spl.tail (Mine.Spl.tail (Mine.Spl.tail (Mine.Spl.tail (Mine.Spl.tail (Mine.Spl.tail Mine.Spl.head)))))))))))) | exact (Mine.Spl.tail (Mine.Spl.tail (Mine.Spl.tail (Mine.Spl.tail (Mine.Spl.tail (Mine.Spl.tail (Mine.Spl.tail (Mine.Spl.tail (Mine.Spl.tail (Mine.Spl.tail (Mine.Spl.tail (Mine.Spl.tail (Mine.Spl.tail Mine.Spl.head)))))))))))))
  k_with "M m_own" => first | exact List.forall_mem_nil _ | (refine' List.forall_mem_cons.mpr ⟨?mzA, ?mzB⟩; (case mzA => k_mem); (case mzB => walk_at "m_own"))
  k_with "M m_lvl" => first | exact lv_le 3 rfl (by assumption) rfl | exact lv_le 1 rfl (by assumption) rfl | exact lv_le 0 rfl (by assumption) rfl | exact lv_le 2 rfl (by assumption) rfl | ((try simp only [depth_under_make, depth_under_kw, depth_in1, depth_deeper, units_in1, units_deeper, units_under_make, Around.mark_units]); (try dsimp only); omega)
  k_with "M call builtin:len" => (k_here; (with_reducible show wpAny _ _ (call (Value.builtin "len") [Value.ref _]) _ _ _); k_dflt (refine' Mine.len_N ?k0 ?k1 ?k2 ?_; (case k0 => k_asm); (case k1 => k_mem); (case k2 => (try simp only [List.length_cons, List.length_nil]); omega); k_whole))
  k_with "M m_ne0" => (replace l1 := ne0_of l1; (try simp only [NewNe0, AllNe, and_true, and_assoc] at l1); (repeat (have := And.left l1; replace l1 := And.right l1)))
  k_with "M m_ne1" => (replace l1 := ne1_of l1; (try simp only [NewNe1, AllNe, and_true, true_or, true_and, and_assoc] at l1); (repeat (have := And.left l1; replace l1 := And.right l1)))
  k_with "M exec Raise some none" => (k_here; k_dflt (refine' Mine.raise_stmt ?hh ?_; (case hh => first | rfl | assumption)))
  k_with "M pyIter ref" => ((with_reducible show wpAny _ _ _ (fun it s₂ => UnrAt _ _ _ _ _ _ _ _ _ it s₂) _ _); (k_dflt (refine' Iter_tuple_unr ?hh ?ht ?F ?N ?htL ?_; (case F => k_asm); (case N => k_asm); (case hh => assumption); (case ht => exact News.isTup (by assumption) (by k_mem)); (case htL => exact News.ne_locals (by assumption) (by k_mem)))))
  k_with "M eval Name" => (k_here; (with_reducible show wpAny _ _ (eval (Expr.Name _ _) (envOfC _ _ _ _ _)) _ _ _); k_dflt (refine' nameX_L ?nxF ?nxV ?_; (case nxF => k_asm); (case nxV => rfl); k_whole))
  k_with "M m_sub" => first | exact List.forall_mem_nil _ | (refine' List.forall_mem_cons.mpr ⟨?mzA, ?mzB⟩; (case mzA => k_mem); (case mzB => walk_at "m_sub")) | (intro mzp mzh; k_mem)
  k_with "M m_off" => first | exact True.intro | assumption | (refine And.intro ⟨by k_ne, by k_ne, by k_ne⟩ ?_; walk_at "m_off")
  k_with "M m_same" => first | exact List.forall_mem_nil _ | (refine' List.forall_mem_cons.mpr ⟨?mzA, ?mzB⟩; (case mzA => (try dsimp only); first | exact Or.inl (by k_mem) | exact Or.inr (by k_mem)); (case mzB => walk_at "m_same")) | simp
  k_with "M m_all" => first | exact List.forall_mem_nil _ | (refine' List.forall_mem_cons.mpr ⟨?mzA, ?mzB⟩; (case mzA => k_ne); (case mzB => walk_at "m_all")) | assumption
  k_with "M om" => first | ((repeat (with_reducible rename (_ ≠ _) => hz9; clear hz9)); omega) | omega
  k_with "M m_ltp" => first | with_reducible assumption | (with_reducible rename (_ < _ ∧ _) => hq9; first | with_reducible exact hq9.1 | with_reducible exact hq9.2.1 | with_reducible exact hq9.2.2.1 | with_reducible exact hq9.2.2.2.1 | with_reducible exact hq9.2.2.2.2.1 | with_reducible exact hq9.2.2.2.2.2.1 | with_reducible exact hq9.2 | with_reducible exact hq9.2.2 | with_reducible exact hq9.2.2.2 | with_reducible exact hq9.2.2.2.2 | with_reducible exact hq9.2.2.2.2.2 | (clear hq9; walk_at "m_ltp"))
  k_with "M m_nel" => first | exact Nat.ne_of_lt (by walk_at "m_ltp") | exact Nat.ne_of_gt (by walk_at "m_ltp") | exact ne_lt_k 1 rfl (by walk_at "m_ltp") | exact ne_lt_k 2 rfl (by walk_at "m_ltp") | exact ne_lt_k 3 rfl (by walk_at "m_ltp") | exact ne_lt_k 4 rfl (by walk_at "m_ltp") | exact ne_gt_k 1 rfl (by walk_at "m_ltp") | exact ne_gt_k 2 rfl (by walk_at "m_ltp") | exact ne_gt_k 3 rfl (by walk_at "m_ltp") | exact ne_gt_k 4 rfl (by walk_at "m_ltp")
  k_with "M execs cons" => (k_here; (try k_gentoks); (with_reducible refine wpAny_execs_cons ?_); (try k_fold); (try dsimp only))
  trivial
section
variable {prog : Program} {w : World} {mean : ExcName → Option Value} {mg mb : Str → Option Value} {B : Heap} (G : Gd w mean mg mb B)
include G
theorem init1_con (e t : Nat) (msg : Str) (tm : Tok) :
    Con prog w B 689 (.ref 87) [.ref e, .str msg tm] [(e, excO none #[.ref t, .none, .none, .none, .bool false, .none])] [e]
      (fun v new => ∃ dx k1 t1 t2, new = [(e, excO (some dx) #[.ref t1, .none, .none, .none, .bool false, .none]), (dx, dictOf [⟨PyData.keyHash w.params "message", .str "message" k1, .str msg t2⟩] 1)] ∧ v = .none ∧ @Ne Nat dx e) := by
  intro A s R hA hu hh hB hown k
  obtain ⟨ah, ad, af, ag, au⟩ := A
  obtain rfl : ah = none := hh
  have hh : (Around.mk none ad af ag au).handled = none := rfl
  replace hA : ad ≤ _ := hA
  replace hu : au ≤ _ := hu
  refine' enter G (binds := [("self", Value.ref e), ("message", Value.str msg tm)]) (rb := [("message", Value.str msg tm), ("self", Value.ref e)]) _ hB hown (Nat.le_trans hA (by decide)) ?ho ?hcd ?hb ?hl rfl ?k ?c1 ?c2 ?c3 ?c4
  case ho => k_is
  case hcd => k_is
  case hb => first | exact BindsTo.of_eq rfl | exact binds_K (G.X.keeps hB) rfl (by k_is) rfl rfl rfl
  case hl => exact locs rfl
  case c1 => rfl
  case c2 => rfl
  case c3 => rfl
  case c4 => decide
  case k =>
    intro g L' h₁ m Q tk hg hL hm hQ hQn F N X' T' st
    subst hm
    walk1
    walk1
    walk1
    walk1
    refine method_type F X' (by rfl) (by decide +kernel) (by k_is) (by rfl) ?_
    k_steps
    refine exc_init X' (by k_asm) (by k_asm) (by walk_at "m_spl") (by walk_at "m_all") (by simp) fun t1 h' F' N' l1 => ?_
    k_lt l1
    k_sweep
    k_steps
    refine exc_set0 X' (by k_asm) (by k_asm) (by walk_at "m_spl") (by walk_at "m_all") (by k_is) fun d k1 h' tk F' N' l1 => ?_
    k_lt l1
    k_sweep
    k_steps
    refine hQn _ ?_
    exact (con_end (s := s) [(e, _), (d, _)] k hg (fun q hq => (hown q hq).1) (by assumption) (by assumption) (by walk_at "m_same") (by walk_at "m_new") ⟨d, _, _, _, rfl, rfl, by k_ne⟩)
end
theorem ln3 : True := by
  k_with "M call ref" => (k_here; (with_reducible show wpAny _ _ (call (Value.ref 87) _) _ _ _); (k_dflt (refine' con_use1 (init1_con ?G _ _ _ _) ?F ?N ?st ?d ?u ?h ?o ?sp ?ne ?_; (case F => k_asm); (case N => k_asm); (case o => walk_at "m_own"); (case sp => walk_at "m_spl"); (case ne => walk_at "m_all"); (case st => assumption); (case d => walk_at "m_lvl"); (case u => walk_at "m_lvl"); (case h => assumption); (try (case G => assumption)); (all_goals (try (case t1 => first | omega | decide | assumption))); (all_goals (try (case t2 => first | omega | decide | assumption))); (all_goals (try (case t3 => first | omega | decide | assumption))); (all_goals (try (case t4 => first | omega | decide | assumption))); (all_goals (try (case t5 => first | omega | decide | assumption))); (all_goals (try (case a1 => assumption))); (all_goals (try (case a2 => assumption))); (all_goals (try (case a3 => assumption))); k_whole)); intro v new h' tk' hV F' N' l1; obtain ⟨d', k1', t1', t2', e', hv', hne'⟩ := hV; subst e'; subst hv'; (try simp only [List.nil_append, List.cons_append] at N'); walk_at "m_ne1"; (try dsimp only); (try k_sweep))
  trivial
section
variable {prog : Program} {w : World} {mean : ExcName → Option Value} {mg mb : Str → Option Value} {B : Heap} (G : Gd w mean mg mb B)
include G
theorem init2_con (e t : Nat) (msg : Str) (tm tp : Tok) (pl : Int) :
    Con prog w B 680 (.ref 108) [.ref e, .str msg tm, .int pl tp] [(e, excO none #[.ref t, .none, .none, .none, .bool false, .none])] [e]
      (fun v new => ∃ dx k1 t1 t2 k3 t3, new = [(e, excO (some dx) #[.ref t1, .none, .none, .none, .bool false, .none]), (dx, excD w msg pl k1 t2 k3 t3)] ∧ v = .none ∧ @Ne Nat dx e) := by
  intro A s R hA hu hh hB hown k
  obtain ⟨ah, ad, af, ag, au⟩ := A
  obtain rfl : ah = none := hh
  have hh : (Around.mk none ad af ag au).handled = none := rfl
  replace hA : ad ≤ _ := hA
  replace hu : au ≤ _ := hu
  refine' enter G (binds := [("self", Value.ref e), ("message", Value.str msg tm), ("place", Value.int pl tp)]) (rb := [("place", Value.int pl tp), ("message", Value.str msg tm), ("self", Value.ref e)]) _ hB hown (Nat.le_trans hA (by decide)) ?ho ?hcd ?hb ?hl rfl ?k ?c1 ?c2 ?c3 ?c4
  case ho => k_is
  case hcd => k_is
  case hb => first | exact BindsTo.of_eq rfl | exact binds_K (G.X.keeps hB) rfl (by k_is) rfl rfl rfl
  case hl => exact locs rfl
  case c1 => rfl
  case c2 => rfl
  case c3 => rfl
  case c4 => decide
  case k =>
    intro g L' h₁ m Q tk hg hL hm hQ hQn F N X' T' st
    subst hm
    k_steps
    refine exc_set1 X' (by k_asm) (by k_asm) (by k_mem) (by walk_at "m_spl") (by walk_at "m_all") fun k3 h' tk F' N' => ?_
    k_sweep
    k_steps
    refine hQn _ ?_
    exact (con_end (s := s) [(e, _), (d', _)] k hg (fun q hq => (hown q hq).1) (by assumption) (by assumption) (by walk_at "m_same") (by walk_at "m_new") ⟨d', _, _, _, _, _, rfl, rfl, hne'⟩)
theorem exc_con (msg : Str) (tm tp : Tok) (pl : Int) :
    Con prog w B 670 (.ref 111) [.str msg tm, .int pl tp] [] []
      (fun v new => ∃ e dx t1 k1 t2 k3 t3, new = [(e, excO (some dx) #[.ref t1, .none, .none, .none, .bool false, .none]), (dx, excD w msg pl k1 t2 k3 t3)] ∧ v = .ref e ∧ @Ne Nat dx e) := by
  intro A s R hA hu hh hB hown k
  obtain ⟨h, g, d, t, os⟩ := s
  dsimp only at hB k
  refine exc_make (G.X.keeps hB) (by rw [sizeLine_eq]; simp) ?_
  have keep : ∀ b o, h.get? b = some o → ((h.push (tupO [.str msg tm, .int pl tp])).push (excO none #[.ref h.objs.size, .none, .none, .none, .bool false, .none])).get? b = some o := fun b o e => Heap.get?_push_of_some _ (Heap.get?_push_of_some _ e)
  have hx : ((h.push (tupO [.str msg tm, .int pl tp])).push (excO none #[.ref h.objs.size, .none, .none, .none, .bool false, .none])).get? (h.objs.size + 1) = some (excO none #[.ref h.objs.size, .none, .none, .none, .bool false, .none]) := by heap_get
  have fresh : h.get? (h.objs.size + 1) = none := Heap.get?_none_of_le (Nat.le_succ _)
  refine init2_con G (h.objs.size + 1) h.objs.size msg tm tp pl _ _ _ ?_ ?_ ?_ (fun b o e => keep b o (hB b o e)) (fun q hq => ?_) fun v new h' tk' hV hc hn => ?_
  · walk_at "m_lvl"
  · walk_at "m_lvl"
  · exact hh
  · rw [List.mem_singleton.mp hq]
    refine ⟨hx, ?_⟩
    cases z : B.get? (h.objs.size + 1) with
    | none => rfl
    | some o => have := hB _ _ z; rw [fresh] at this; cases this
  · obtain ⟨dx, t1, k1, t2, k3, t3, rfl, rfl, hne⟩ := hV
    refine ⟨rfl, k (.ref (h.objs.size + 1)) _ h' tk' ⟨_, _, _, _, _, _, _, rfl, rfl, hne⟩ (fun b o e _ => hc b o (keep b o e) fun z => ?_) fun q hq => ⟨(hn q hq).1, .inr ?_⟩⟩
    · rw [List.mem_singleton.mp z, fresh] at e; cases e
    · rcases (hn q hq).2 with z | z
      · rw [List.mem_singleton.mp z]; exact fresh
      · cases y : h.get? q.1 with
        | none => rfl
        | some o => have := keep _ _ y; dsimp only at z; rw [z] at this; cases this
end
theorem ln4 : True := by
  k_with "M call ref" => (k_here; (with_reducible show wpAny _ _ (call (Value.ref 111) _) _ _ _); (k_dflt (refine' con_use0 (exc_con ?G _ _ _ _) ?F ?N ?st ?d ?u ?h ?o ?_; (case F => k_asm); (case N => k_asm); (case o => walk_at "m_own"); (case st => assumption); (case d => walk_at "m_lvl"); (case u => walk_at "m_lvl"); (case h => assumption); (try (case G => assumption)); (all_goals (try (case t1 => first | omega | decide | assumption))); (all_goals (try (case t2 => first | omega | decide | assumption))); (all_goals (try (case t3 => first | omega | decide | assumption))); (all_goals (try (case t4 => first | omega | decide | assumption))); (all_goals (try (case t5 => first | omega | decide | assumption))); (all_goals (try (case a1 => assumption))); (all_goals (try (case a2 => assumption))); (all_goals (try (case a3 => assumption))); k_whole)); intro v new h' tk' hV F' N' l1; obtain ⟨e1, d1, t1', k1', t2', k3', t3', e', hv', hne1⟩ := hV; subst e'; subst hv'; (try simp only [List.nil_append, List.cons_append] at N'); walk_at "m_ne0"; (try dsimp only); (try k_sweep))
  trivial
section
variable {prog : Program} {w : World} {mean : ExcName → Option Value} {mg mb : Str → Option Value} {B : Heap} (G : Gd w mean mg mb B)
include G
theorem fault_con (x dx : Nat) (text msg : Str) (pl : Int) (tm k1 k2 t1 t2 : Tok) :
    Con prog w B 600 (.ref 134) [.ref x, .str msg tm] [(x, instObj 221 dx), (dx, scD w text pl k1 k2 t1 t2)] []
      (fun v new => ∃ e dx t1 k1 t2 k3 t3, new = [(e, excO (some dx) #[.ref t1, .none, .none, .none, .bool false, .none]), (dx, excD w msg pl k1 t2 k3 t3)] ∧ v = .ref e ∧ @Ne Nat dx e) := by
  intro A s R hA hu hh hB hown k
  obtain ⟨ah, ad, af, ag, au⟩ := A
  obtain rfl : ah = none := hh
  have hh : (Around.mk none ad af ag au).handled = none := rfl
  replace hA : ad ≤ _ := hA
  replace hu : au ≤ _ := hu
  refine' enter G (binds := [("self", Value.ref x), ("message", Value.str msg tm)]) (rb := [("message", Value.str msg tm), ("self", Value.ref x)]) _ hB hown (Nat.le_trans hA (by decide)) ?ho ?hcd ?hb ?hl rfl ?k ?c1 ?c2 ?c3 ?c4
  case ho => k_is
  case hcd => k_is
  case hb => first | exact BindsTo.of_eq rfl | exact binds_K (G.X.keeps hB) rfl (by k_is) rfl rfl rfl
  case hl => exact locs rfl
  case c1 => rfl
  case c2 => rfl
  case c3 => rfl
  case c4 => decide
  case k =>
    intro g L' h₁ m Q tk hg hL hm hQ hQn F N X' T' st
    subst hm
    k_steps
    refine hQ _ _ ?_
    exact (con_end (s := s) [(e1, _), (d1, _)] k hg (fun q hq => (hown q hq).1) (by assumption) (by assumption) (by walk_at "m_same") (by walk_at "m_new") ⟨_, _, _, _, _, _, _, rfl, rfl, hne1⟩)
end
set_option maxRecDepth 100000
set_option maxHeartbeats 8000000
section
open PySem.Builtin.ObjectAttr
variable {prog : Program} {w : World} {A : Around} {E : Value → Shared → Prop} {s : Shared} {env : Env}
noncomputable def Thrown (w : World) (E : Value → Shared → Prop) (v : Value) (s₁ : Shared) : Prop := ∃ e dx vs, v = .ref e ∧ (kfr w.params).In s₁.heap ∧ s₁.heap.get? e = some (excO dx vs) ∧ vs[1]? = some .none ∧ E (.ref e) s₁
theorem thrown {g : Heap} {L : Addr} {m : Str → Option Value} {news : List (Addr × Obj)} {e : Addr} {dx : Option Addr} {vs : Array Value} (X : (kfr w.params).In g) (F : Fr g L s.heap m) (N : News g L s.heap news) (hm : (e, excO dx vs) ∈ news) (h1 : vs[1]? = some .none) (hE : E (.ref e) s) : Thrown w E (.ref e) s :=
  ⟨e, dx, vs, rfl, X.keeps F.keep, (N _ hm).1, h1, hE⟩
theorem raise_core {e : Addr} {dx : Option Addr} {vs : Array Value} {Q : Flow → Shared → Prop} {x : Sem Value} (hh : A.handled = none)
    (h : wpAny (model prog w) A x (Thrown w E) E s) :
    wpAny (model prog w) A (raiseStmt env (some x) none) Q E s := by
  unfold raiseStmt
  refine wpAny_bind (wpAny_mono h (fun v s₁ h₁ => ?_) fun _ _ y => y)
  obtain ⟨e, dx, vs, rfl, X, he, h1, hE⟩ := h₁
  obtain ⟨hp, g, d, t, os⟩ := s₁
  dsimp only at X he hE
  have t1 : Looks (model prog w) hp (typeOf (.ref e)) (.ref 111) := (Looks.ld he).andThen .now
  have i1 : Looks (model prog w) hp (isInstance (.ref e) (.type "BaseException")) true := t1.andThen (looks_mroIn X (by k_is))
  have t2 : Looks (model prog w) hp (typeOf (.ref 111)) (.type "type") := looks_typeIn X (by k_is)
  unfold excFromValue isExcClass
  repeat lk
  rw [h1]
  repeat (first | exact wpAny_raiseNew_none hh hE | lk)
theorem raise_stmt {x : Expr} {pos : Pos} {Q : Flow → Shared → Prop} (hh : A.handled = none)
    (h : wpAny (model prog w) A (eval x env) (Thrown w E) E s) :
    wpAny (model prog w) A (exec (.Raise (some x) none pos) env) Q E s := by
  rw [arm_exec_Raise]
  refine wpAny_bind (wpAny_standAt ?_)
  refine raise_core hh (e := 0) (dx := none) (vs := #[]) (wpAny_bind (wpAny_mono h (fun v s₁ h₁ => wpAny_bind (wpAny_standAt (wpAny_pure h₁))) fun _ _ y => y))
theorem exc_matches {e : Addr} {dx : Option Addr} {vs : Array Value} {Q : Bool → Shared → Prop} (X : (kfr w.params).In s.heap) (he : s.heap.get? e = some (excO dx vs)) (h : Q true s) : wpAny (model prog w) A (excMatches (.ref e) (.ref 111)) Q E s := by
  obtain ⟨hp, g, d, t, os⟩ := s
  dsimp only at X he
  have t1 : Looks (model prog w) hp (typeOf (.ref e)) (.ref 111) := (Looks.ld he).andThen .now
  have i1 : Looks (model prog w) hp (isInstance (.ref 111) (.type "tuple")) false := looks_instIn X (by k_is)
  have i2 : Looks (model prog w) hp (isSubtype (.ref 111) (.type "BaseException")) true := looks_mroIn X (by k_is)
  have i3 : Looks (model prog w) hp (isSubtype (.ref 111) (.ref 111)) true := looks_mroIn X (by k_is)
  have hC := X 111 _ (by k_is)
  unfold excMatches isExcClass
  repeat lk
  exact h
theorem exc_place {e d : Addr} {vs : Array Value} {msg : Str} {pl : Int} {k0 t0 k1 t1 : Tok} {expr : Bool} {Q : Value → Shared → Prop} (X : (kfr w.params).In s.heap) (he : s.heap.get? e = some (excO (some d) vs)) (hd' : s.heap.get? d = some (excD w msg pl k0 t0 k1 t1))
    (h : Q (.int pl t1) { s with toks := s.toks + 1 }) : wpAny (model prog w) A (getAttr (.ref e) "place" expr) Q E s := by
  obtain ⟨hp, g, dr, t, os⟩ := s
  dsimp only at X he hd'
  have t1' : Looks (model prog w) hp (typeOf (.ref e)) (.ref 111) := (Looks.ld he).andThen .now
  have f1 : Looks (model prog w) hp (typeLookup (.ref 111) "__getattribute__") (some (.builtin "BaseException.__getattribute__")) := looks_findIn X (by k_is)
  have f2 : Looks (model prog w) hp (typeLookup (.ref 111) "__getattr__") none := looks_findIn X (by k_is)
  have f3 : Looks (model prog w) hp (typeLookup (.ref 111) "place") none := looks_findIn X (by k_is)
  have hC := X 111 _ (by k_is)
  have hk : builtinKind "BaseException.__getattribute__" = some .slot := by decide +kernel
  have hsplit : splitId "BaseException.__getattribute__" = some ("BaseException", "__getattribute__") := by decide +kernel
  have i1 : Looks (model prog w) hp (isInstance (.ref e) (.type "BaseException")) true := t1'.andThen (looks_mroIn X (by k_is))
  unfold getAttr getAttrBy
  have hx0 : (expr && onTheHeap (Value.builtin "BaseException.__getattribute__")) = false := by cases expr <;> rfl
  have f3' := PySem.F.attrBase_Exception.ga.bind (.ref e)
  repeat (first | with_reducible refine wpAny_attempt ?_ | (unfold callGetattribute; rw [hx0]) | with_reducible refine wpAny_call ?_ | lk)
  show codeAny _ _ (.call (.builtin "BaseException.__getattribute__") ⟨[.ref e, .str "place" t], []⟩) _ _
  refine codeAny_call_builtin PySem.F.attrBase_Exception.ga.plain PySem.F.entry_bexc_ga (@check_slot (model prog w) _ _ _ "BaseException.__getattribute__" "BaseException" "__getattribute__" (.ref e) [.str "place" t] [] _ hk hsplit i1 (PySem.F.args_bexc_ga (.ref e) (.str "place" t)) ?_)
  have I : InstAt hp e (excO (some d) vs) 111 (some (excD w msg pl k0 t0 k1 t1)) := ⟨he, rfl, rfl, hd'⟩
  have f4 : Looks (model prog w) hp (Builtin.ObjectAttr.inOwnDict "place" (.ref e)) (some (.int pl t1)) := looks_own X I (cd := _) (by k_is) (by kernel_rfl)
  unfold Builtin.«object.__getattribute__»
  refine wpAny_bind (wpAny_of_eq (a := (.ref e, [.str "place" t])) (by kernel_rfl) ?_)
  dsimp only
  refine wpAny_bind (wpAny_of_eq (a := PySem.Str.ofString "place") (by rfl) ?_)
  refine wpAny_bind (t1'.at ?_)
  unfold find
  refine wpAny_bind (wpAny_bind (f3.at (wpAny_bind (wpAny_of_eq (a := none) (by rfl) (wpAny_bind (wpAny_of_eq (a := none) (by rfl) ?_))))))
  dsimp only
  unfold ownThenClass
  refine wpAny_bind (f4.at ?_)
  dsimp only
  repeat lk
  exact h
end
section
variable {prog : Program} {w : World} {B g h : Heap} {A : Around} {s : Shared} {outer : List Env} {env : Env} {L : Addr} {m : Str → Option Value} {news rest : List (Addr × Obj)} {E : Value → Shared → Prop}
variable {name : Str} {scope : Scope} {a : Addr} {cd : Value}
noncomputable def SuiteK (M : Model) (A : Around) (env : Env) (e : Addr) (on : Option Str) (body : List Stmt) (pos : Pos) (Q : Flow → Shared → Prop) (E : Value → Shared → Prop) (s : Shared) : Prop := match on with
  | none => wpAny M (A.mark (some (.ref e))) (execs body env) Q (fun _ _ => False) s
  | some n => wpAny M (A.mark (some (.ref e))) (storeName env n (.ref e)) (fun _ s₃ => wpAny M (A.mark (some (.ref e))) (execs body env)
      (fun f s₄ => wpAny M A (do bindName env n .none; unbindBehindTheSuite env n pos) (fun _ s₅ => Q f s₅) E s₄) (fun _ _ => False) s₃) (fun _ _ => False) s
/-- the handler of this very class takes it -/
theorem caught {e dx : Addr} {vs : Array Value} {msg : Str} {pl : Int} {k0 t0 k1 t1 : Tok} {h₀ : Heap} {o₀ : List Addr} {np pos : Pos} {on : Option Str} {b₀ : Stmt} {suite : List Stmt} {hs : List ExceptHandler} {Q : Flow → Shared → Prop} {mean : ExcName → Option Value} {mg mb : Str → Option Value}
    (G : Gd w mean mg mb B) (F : Fr g L s.heap m) (N : News g L s.heap ((e, excO (some dx) vs) :: (dx, excD w msg pl k0 t0 k1 t1) :: rest)) (gr : GR h₀ o₀ (frs outer) g) (st : B.StaysIn g) (ff : g.FunFrames B outer) (hfr : A.frames = some outer)
    (hT : Trc g ((e, excO (some dx) vs) :: (dx, excD w msg pl k0 t0 k1 t1) :: rest) s.heap vs .none) (hsz : 1 < vs.size) (hre : ∀ p ∈ rest, p.1 ≠ e) (hne : dx ≠ e)
    (hk : scope.kind = .function) (hx : (envOf name scope L a cd).kindOf "DtdFault" = some .globalImplicit)
    (k : ∀ g' vs' h', Fr g' L h' m → News g' L h' ((e, excO (some dx) vs') :: (dx, excD w msg pl k0 t0 k1 t1) :: rest) → GR h₀ o₀ (frs outer) g' → B.StaysIn g' → g'.FunFrames B outer →
      SuiteK (model prog w) (A.deeper (envOf name scope L a cd)) (envOf name scope L a cd) e on (b₀ :: suite) pos Q E { s with heap := h' }) :
    wpAny (model prog w) (A.deeper (envOf name scope L a cd)) (noteFrame (.ref e) (envOf name scope L a cd))
      (fun _ s₂ => wpAny (model prog w) (A.deeper (envOf name scope L a cd)) (setFlight (.ref e) none) (fun _ s₃ =>
        wpAny (model prog w) (A.deeper (envOf name scope L a cd)) (handleBy (.ref e) (envOf name scope L a cd) (.ExceptHandler (some (.Name "DtdFault" np)) on (b₀ :: suite) pos :: hs)) Q E s₃) E s₂) E s := by
  have hf : (envOf name scope L a cd).frame = some L := rfl
  have hBL : B.get? L = none := by
    cases z : B.get? L with
    | none => rfl
    | some o =>
      have := Nat.lt_of_lt_of_le (Heap.lt_size (st _ _ z)) F.above
      exact absurd this (Nat.lt_irrefl _)
  have ffh : s.heap.FunFrames B outer := ff.of_keeps fun b o e _ => ⟨o, F.keep _ _ e, rfl⟩
  refine note_land (g := g) (news := (e, excO (some dx) vs) :: (dx, excD w msg pl k0 t0 k1 t1) :: rest) (Around.frames_deeper hfr) (.cons (by rw [show (envOf name scope L a cd).scope.kind = .function from hk]; decide) hf F.ns hBL ffh) hf (List.mem_cons_self) (N _ (List.mem_cons_self)).1 hsz (fun q hq => (N q hq).1) (fun b o e => ⟨o, F.keep _ _ e⟩) (.inr hT) fun h₁ vs₁ keeps he₁ hsz₁ ht₁ => ?_
  rw [frs_cons hf] at keeps
  obtain ⟨T0, oT0, ts0, x1, x2, x3, x4, x5, x6⟩ := hT
  have nTL : T0 ≠ L := fun z => by
    obtain ⟨oL, es, ep, hL, hdd, r⟩ := F.ns
    rw [z, hL] at x4; cases x4; rw [hdd] at x5; cases x5
  have c : ChgF (L :: frs outer) [e, T0] s.heap h₁ := fun b o z n => by
    refine keeps b o z (fun y => n (y ▸ .head _)) fun T y => ?_
    rw [x1] at y; cases y
    exact fun y => n (y ▸ .tail _ (.head _))
  obtain ⟨F₁, N₁, gr₁, st₁, ff₁⟩ := shadow_step (new := [(e, excO (some dx) vs₁)]) (rest := (dx, excD w msg pl k0 t0 k1 t1) :: rest) F N gr st ff (fun b hb => by
      rcases List.mem_cons.mp hb with rfl | hb
      · exact ⟨(N _ (List.mem_cons_self)).2.2, (N _ (List.mem_cons_self)).2.1⟩
      · rw [List.mem_singleton.mp hb]; exact ⟨x2, nTL⟩) c (fun q hq => ⟨.tail _ hq, fun z => by
      rcases List.mem_cons.mp z with z | z
      · rcases List.mem_cons.mp hq with rfl | hq
        · exact hne z
        · exact hre q hq z
      · exact x3 q (.tail _ hq) (List.mem_singleton.mp z)⟩) (fun q hq => by rw [List.mem_singleton.mp hq]; exact ⟨he₁, .inl (.head _)⟩)
  have X₁ := G.X.keeps st₁
  have T₁ := G.T.keeps st₁
  have trc₁ : Trc (shadow g h₁) ((e, excO (some dx) vs₁) :: (dx, excD w msg pl k0 t0 k1 t1) :: rest) h₁ vs₁ .none := by
    obtain ⟨T, oT, ts, y1, y2, y3, y4⟩ := ht₁
    refine ⟨T, oT, ts, y1, ?_, fun q hq => ?_, y4⟩
    · cases z : (shadow g h₁).get? T with
      | none => rfl
      | some o => obtain ⟨⟨o', y⟩, _⟩ := of_shadow z; rw [y2] at y; cases y
    · rcases List.mem_cons.mp hq with rfl | hq
      · exact (y3 (e, excO (some dx) vs) (.head _) : e ≠ T)
      · exact y3 q (.tail _ hq)
  clear N F keeps
  have body : wpAny (model prog w) ((A.deeper (envOf name scope L a cd)).mark (some (.ref e))) (setFlight (.ref e) none) (fun _ s₂ =>
      SuiteK (model prog w) (A.deeper (envOf name scope L a cd)) (envOf name scope L a cd) e on (b₀ :: suite) pos Q E s₂) (fun _ _ => False) { s with heap := h₁ } := by
    refine flight_none (s := { s with heap := h₁ }) (g := shadow g h₁) (news := (e, excO (some dx) vs₁) :: (dx, excD w msg pl k0 t0 k1 t1) :: rest) he₁ (List.mem_cons_self) trc₁ fun h₂ k2 e2 t2 => ?_
    obtain ⟨T, oT, ts, y1, y2, y3, y4, y5, y6⟩ := trc₁
    have nT : ∀ b o, h₁.get? b = some o → b ≠ T → h₂.get? b = some o := fun b o z n => k2 b o z fun T' y => by rw [y1] at y; cases y; exact n
    refine k (shadow g h₁) vs₁ h₂ ⟨?_, (fun b o z => nT b o (F₁.keep b o z) fun y => by rw [y, y2] at z; cases z), F₁.above⟩ (fun q hq => ⟨nT _ _ (N₁ q hq).1 (y3 q hq), (N₁ q hq).2⟩) gr₁ st₁ ff₁
    obtain ⟨oL, es, ep, hL, r⟩ := F₁.ns
    refine ⟨oL, es, ep, nT _ _ hL fun y => ?_, r⟩
    rw [y, y4] at hL; cases hL
    rw [y5] at r; cases r.1
  refine wpAny_handleBy_cons (codeAny_handlers_test ?_) (by intro q; cases q)
  refine name_K F₁ X₁ (topRead_of T₁) (v := .ref 111) (by k_is) ?_ hk hx
  refine exc_matches (F₁.keep |> X₁.keeps) he₁ ?_
  cases on with
  | none =>
    refine codeAny_handlers_suite (wpAny_mono body (fun _ s₂ z => wpAny_mono z (fun _ _ y => y) fun _ _ y => y.elim) fun _ _ y => y.elim)
  | some n =>
    refine codeAny_handlers_suite_as (wpAny_mono body (fun _ s₂ z => wpAny_mono z (fun _ s₃ y => wpAny_mono y (fun _ _ x => x) fun _ _ x => x.elim) fun _ _ y => y.elim) fun _ _ y => y.elim)
end
set_option maxRecDepth 100000
set_option maxHeartbeats 8000000
theorem ln5 : True := by
  k_with_none
  k_with "M subscriptTail Name Constant ref int" => (k_here; (with_reducible show wpAny _ _ (subscriptTail _ _ (Value.ref _) (Value.int _ _)) _ _ _); k_dflt (refine' Mine.item_N ?k0 ?k1 ?k2 ?k3 ?k4 ?_ ?k6; (case k0 => k_asm); (case k1 => k_mem); (case k2 => decide); (case k3 => decide); (case k4 => rfl); (case k6 => with_unfolding_all rfl); k_whole))
  k_with "M m_new" => first | exact List.forall_mem_nil _ | (refine' List.forall_mem_cons.mpr ⟨And.intro ?mzA ?mzB, ?mzC⟩; (case mzA => k_mem); (case mzB => (try dsimp only); first | exact Or.inl (by k_mem) | exact Or.inr (by walk_at "m_all")); (case mzC => walk_at "m_new"))
  k_with "M m_spl" => first | exact Mine.Spl.head | exact (Mine.Spl.tail Mine.Spl.head) | exact (Mine.Spl.tail (Mine.Spl.tail Mine.Spl.head)) | exact (Mine.Spl.tail (Mine.Spl.tail (Mine.Spl.tail Mine.Spl.head))) | exact (Mine.Spl.tail (Mine.Spl.tail (Mine.Spl.tail (Mine.Spl.tail Mine.Spl.head)))) | exact (Mine.Spl.tail (Mine.Spl.tail (Mine.Spl.tail (Mine.Spl.tail (Mine.Spl.tail Mine.Spl.head))))) | exact (Mine.Spl.tail (Mine.Spl.tail (Mine.Spl.tail (Mine.Spl.tail (Mine.Spl.tail (Mine.Spl.tail Mine.Spl.head)))))) | exact (Mine.Spl.tail (Mine.Spl.tail (Mine.Spl.tail (Mine.Spl.tail (Mine.Spl.tail (Mine.Spl.tail (Mine.Spl.tail Mine.Spl.head))))))) | exact (Mine.Spl.tail (Mine.Spl.tail (Mine.Spl.tail (Mine.Spl.tail (Mine.Spl.tail (Mine.Spl.tail (Mine.Spl.tail (Mine.Spl.tail Mine.Spl.head)))))))) | exact (Mine.Spl.tail (Mine.Spl.tail (Mine.Spl.tail (Mine.Spl.tail (Mine.Spl.tail (Mine.Spl.tail (Mine.Spl.tail (Mine.Spl.tail (Mine.Spl.tail Mine.Spl.head))))))))) | exact (Mine.Spl.tail (Mine.Spl.tail (Mine.Spl.tail (Mine.Spl.tail (Mine.Spl.tail (Mine.Spl.tail (Mine.Spl.tail (Mine.Spl.tail (Mine.Spl.tail (Mine.Spl.tail Mine.Spl.head)))))))))) | exact (Mine.Spl.tail (Mine.Spl.tail (Mine.Spl.tail (Mine.Spl.tail (Mine.Spl.tail (Mine.Spl.tail (Mine.Spl.tail (Mine.Spl.tail (Mine.Spl.tail (Mine.Spl.tail (Mine.Spl.tail Mine.Spl.head))))))))))) | exact (Mine.Spl.tail (Mine.Spl.tail (Mine.Spl.tail (Mine.Spl.tail (Mine.Spl.tail (Mine.Spl.tail (Mine.Spl.tail (Mine.Spl.tail (Mine.Spl.tail (Mine.Spl.tail (Mine.Spl.tail (Mine.Spl.tail Mine.Spl.head)))))))))))) | exact (Mine.Spl.tail (Mine.Spl.tail (Mine.Spl.tail (Mine.Spl.tail (Mine.Spl.tail (Mine.Spl.tail (Mine.Spl.tail (Mine.Spl.tail (Mine.Spl.tail (Mine.Spl.tail (Mine.Spl.tail (Mine.Spl.tail (Mine.Spl.tail Mine.Spl.head)))))))))))))
  k_with "M m_own" => first | exact List.forall_mem_nil _ | (refine' List.forall_mem_cons.mpr ⟨?mzA, ?mzB⟩; (case mzA => k_mem); (case mzB => walk_at "m_own"))
  k_with "M m_lvl" => first | exact lv_le 3 rfl (by assumption) rfl | exact lv_le 1 rfl (by assumption) rfl | exact lv_le 0 rfl (by assumption) rfl | exact lv_le 2 rfl (by assumption) rfl | ((try simp only [depth_under_make, depth_under_kw, depth_in1, depth_deeper, units_in1, units_deeper, units_under_make, Around.mark_units]); (try dsimp only); omega)
  k_with "M call builtin:len" => (k_here; (with_reducible show wpAny _ _ (call (Value.builtin "len") [Value.ref _]) _ _ _); k_dflt (refine' Mine.len_N ?k0 ?k1 ?k2 ?_; (case k0 => k_asm); (case k1 => k_mem); (case k2 => (try simp only [List.length_cons, List.length_nil]); omega); k_whole))
  k_with "M m_ne0" => (replace l1 := ne0_of l1; (try simp only [NewNe0, AllNe, and_true, and_assoc] at l1); (repeat (have := And.left l1; replace l1 := And.right l1)))
  k_with "M m_ne1" => (replace l1 := ne1_of l1; (try simp only [NewNe1, AllNe, and_true, true_or, true_and, and_assoc] at l1); (repeat (have := And.left l1; replace l1 := And.right l1)))
  k_with "M exec Raise some none" => (k_here; k_dflt (refine' Mine.raise_stmt ?hh ?_; (case hh => first | rfl | assumption)))
  k_with "M pyIter ref" => ((with_reducible show wpAny _ _ _ (fun it s₂ => UnrAt _ _ _ _ _ _ _ _ _ it s₂) _ _); (k_dflt (refine' Iter_tuple_unr ?hh ?ht ?F ?N ?htL ?_; (case F => k_asm); (case N => k_asm); (case hh => assumption); (case ht => exact News.isTup (by assumption) (by k_mem)); (case htL => exact News.ne_locals (by assumption) (by k_mem)))))
  k_with "M eval Name" => (k_here; (with_reducible show wpAny _ _ (eval (Expr.Name _ _) (envOfC _ _ _ _ _)) _ _ _); k_dflt (refine' nameX_L ?nxF ?nxV ?_; (case nxF => k_asm); (case nxV => rfl); k_whole))
  k_with "M m_sub" => first | exact List.forall_mem_nil _ | (refine' List.forall_mem_cons.mpr ⟨?mzA, ?mzB⟩; (case mzA => k_mem); (case mzB => walk_at "m_sub")) | (intro mzp mzh; k_mem)
  k_with "M m_off" => first | exact True.intro | assumption | (refine And.intro ⟨by k_ne, by k_ne, by k_ne⟩ ?_; walk_at "m_off")
  k_with "M m_same" => first | exact List.forall_mem_nil _ | (refine' List.forall_mem_cons.mpr ⟨?mzA, ?mzB⟩; (case mzA => (try dsimp only); first | exact Or.inl (by k_mem) | exact Or.inr (by k_mem)); (case mzB => walk_at "m_same")) | simp
  k_with "M m_all" => first | exact List.forall_mem_nil _ | (refine' List.forall_mem_cons.mpr ⟨?mzA, ?mzB⟩; (case mzA => k_ne); (case mzB => walk_at "m_all")) | assumption
  k_with "M om" => first | ((repeat (with_reducible rename (_ ≠ _) => hz9; clear hz9)); omega) | omega
  k_with "M m_ltp" => first | with_reducible assumption | (with_reducible rename (_ < _ ∧ _) => hq9; first | with_reducible exact hq9.1 | with_reducible exact hq9.2.1 | with_reducible exact hq9.2.2.1 | with_reducible exact hq9.2.2.2.1 | with_reducible exact hq9.2.2.2.2.1 | with_reducible exact hq9.2.2.2.2.2.1 | with_reducible exact hq9.2 | with_reducible exact hq9.2.2 | with_reducible exact hq9.2.2.2 | with_reducible exact hq9.2.2.2.2 | with_reducible exact hq9.2.2.2.2.2 | (clear hq9; walk_at "m_ltp"))
  k_with "M m_nel" => first | exact Nat.ne_of_lt (by walk_at "m_ltp") | exact Nat.ne_of_gt (by walk_at "m_ltp") | exact ne_lt_k 1 rfl (by walk_at "m_ltp") | exact ne_lt_k 2 rfl (by walk_at "m_ltp") | exact ne_lt_k 3 rfl (by walk_at "m_ltp") | exact ne_lt_k 4 rfl (by walk_at "m_ltp") | exact ne_gt_k 1 rfl (by walk_at "m_ltp") | exact ne_gt_k 2 rfl (by walk_at "m_ltp") | exact ne_gt_k 3 rfl (by walk_at "m_ltp") | exact ne_gt_k 4 rfl (by walk_at "m_ltp")
  k_with "M execs cons" => (k_here; (try k_gentoks); (with_reducible refine wpAny_execs_cons ?_); (try k_fold); (try dsimp only))
  trivial
section
variable {prog : Program} {w : World} {mean : ExcName → Option Value} {mg mb : Str → Option Value} {B : Heap} (G : Gd w mean mg mb B)
include G
theorem is_over_con (x dx : Nat) (text : Str) (pl : Int) (k1 k2 t1 t2 : Tok) (hlen : text.length < 1000000) :
    Con prog w B 60 (.ref 141) [.ref x] [(x, instObj 221 dx), (dx, scD w text pl k1 k2 t1 t2)] [] (fun v new => new = [] ∧ v = .bool (decide ((text.length : Int) ≤ pl))) := by
  intro A s R hA hu hh hB hown k
  obtain ⟨ah, ad, af, ag, au⟩ := A
  obtain rfl : ah = none := hh
  have hh : (Around.mk none ad af ag au).handled = none := rfl
  replace hA : ad ≤ _ := hA
  replace hu : au ≤ _ := hu
  refine' enter G (binds := [("self", Value.ref x)]) (rb := [("self", Value.ref x)]) _ hB hown (Nat.le_trans hA (by decide)) ?ho ?hcd ?hb ?hl rfl ?k ?c1 ?c2 ?c3 ?c4
  case ho => k_is
  case hcd => k_is
  case hb => first | exact BindsTo.of_eq rfl | exact binds_K (G.X.keeps hB) rfl (by k_is) rfl rfl rfl
  case hl => exact locs rfl
  case c1 => rfl
  case c2 => rfl
  case c3 => rfl
  case c4 => decide
  case k =>
    intro g L' h₁ m Q tk hg hL hm hQ hQn F N X' T' st
    subst hm
    k_steps
    refine hQ _ _ ?_
    exact (con_end (s := s) [] k hg (fun q hq => (hown q hq).1) (by assumption) (by assumption) (by walk_at "m_same") (by walk_at "m_new") ⟨rfl, rfl⟩)
theorem looks_con (x dx : Nat) (text word : Str) (pl : Int) (tw k1 k2 t1 t2 : Tok) (hlen : text.length < 1000000) :
    Con prog w B 60 (.ref 148) [.ref x, .str word tw] [(x, instObj 221 dx), (dx, scD w text pl k1 k2 t1 t2)] [] (fun v new => new = [] ∧ v = .bool (Txt.startswith3 text word pl)) := by
  intro A s R hA hu hh hB hown k
  obtain ⟨ah, ad, af, ag, au⟩ := A
  obtain rfl : ah = none := hh
  have hh : (Around.mk none ad af ag au).handled = none := rfl
  replace hA : ad ≤ _ := hA
  replace hu : au ≤ _ := hu
  refine' enter G (binds := [("self", Value.ref x), ("word", Value.str word tw)]) (rb := [("word", Value.str word tw), ("self", Value.ref x)]) _ hB hown (Nat.le_trans hA (by decide)) ?ho ?hcd ?hb ?hl rfl ?k ?c1 ?c2 ?c3 ?c4
  case ho => k_is
  case hcd => k_is
  case hb => first | exact BindsTo.of_eq rfl | exact binds_K (G.X.keeps hB) rfl (by k_is) rfl rfl rfl
  case hl => exact locs rfl
  case c1 => rfl
  case c2 => rfl
  case c3 => rfl
  case c4 => decide
  case k =>
    intro g L' h₁ m Q tk hg hL hm hQ hQn F N X' T' st
    subst hm
    k_steps
    refine hQ _ _ ?_
    exact (con_end (s := s) [] k hg (fun q hq => (hown q hq).1) (by assumption) (by assumption) (by walk_at "m_same") (by walk_at "m_new") ⟨rfl, rfl⟩)
theorem take_con (src : Nat) (a b top : Int) (ta tb tt : Tok) (n : Nat) (ht : 0 < top) (ht2 : top ≤ 20) (ha : 0 ≤ a) (hb0 : 0 ≤ b) (hb1 : b < 2147483647) :
    Con prog w B 60 (.ref 246) [.ref src, .int top tt] [(src, srcO a b ta tb n)] [src]
      (fun v new => ∃ d td a' b' ta' tb' n', new = [(src, srcO a' b' ta' tb' n')] ∧ v = .int d td ∧ 0 ≤ d ∧ d < top ∧ 0 ≤ a' ∧ 0 ≤ b' ∧ b' < 2147483647) := by
  intro A s R hA hu hh hB hown k
  obtain ⟨ah, ad, af, ag, au⟩ := A
  obtain rfl : ah = none := hh
  have hh : (Around.mk none ad af ag au).handled = none := rfl
  replace hA : ad ≤ _ := hA
  replace hu : au ≤ _ := hu
  refine' enter G (binds := [("source", Value.ref src), ("top", Value.int top tt)]) (rb := [("top", Value.int top tt), ("source", Value.ref src)]) _ hB hown (Nat.le_trans hA (by decide)) ?ho ?hcd ?hb ?hl rfl ?k ?c1 ?c2 ?c3 ?c4
  case ho => k_is
  case hcd => k_is
  case hb => first | exact BindsTo.of_eq rfl | exact binds_K (G.X.keeps hB) rfl (by k_is) rfl rfl rfl
  case hl => exact locs rfl
  case c1 => rfl
  case c2 => rfl
  case c3 => rfl
  case c4 => decide
  case k =>
    intro g L' h₁ m Q tk hg hL hm hQ hQn F N X' T' st
    subst hm
    k_steps
    · refine hQ _ _ ?_
      exact (con_end (s := s) [(src, srcO _ _ _ _ _)] k hg (fun q hq => (hown q hq).1) (by assumption) (by assumption) (by walk_at "m_same") (by walk_at "m_new") ⟨_, _, _, _, _, _, _, rfl, rfl, fm0 _ ht, fm1 _ ht, fd0 ha ht, hb0, hb1⟩)
    · refine hQ _ _ ?_
      exact (con_end (s := s) [(src, srcO _ _ _ _ _)] k hg (fun q hq => (hown q hq).1) (by assumption) (by assumption) (by walk_at "m_same") (by walk_at "m_new") ⟨_, _, _, _, _, _, _, rfl, rfl, fm0 _ ht, fm1 _ ht, ha, fm0 _ (by decide), fm1 _ (by decide)⟩)
theorem take_use {A : Around} {s : Shared} {g : Heap} {L : Addr} {m : Str → Option Value} {news rest : List (Addr × Obj)} {Q E : Value → Shared → Prop} {src : Nat} {a b : Int} {ta tb : Tok} {n : Nat} {top : Int} {tt : Tok}
    (F : Fr g L s.heap m) (N : News g L s.heap news) (st : B.StaysIn g) (hA : A.depth ≤ 300 + 60) (hu : A.units ≤ 8 * 60) (hh : A.handled = none) (sp : Spl src (srcO a b ta tb n) news rest) (hne : ∀ q ∈ rest, q.1 ≠ src) (ht : 0 < top) (ht2 : top ≤ 20) (ha : 0 ≤ a) (hb0 : 0 ≤ b) (hb1 : b < 2147483647)
    (k : ∀ d td a' b' ta' tb' n' h' tk', 0 ≤ d → d < top → 0 ≤ a' → 0 ≤ b' → b' < 2147483647 → Fr g L h' m → News g L h' ((src, srcO a' b' ta' tb' n') :: rest) → Q (.int d td) { s with heap := h', toks := tk' }) :
    wpAny (model prog w) A (call (.ref 246) [.ref src, .int top tt]) Q E s :=
  con_use1 (take_con G src a b top ta tb tt n ht ht2 ha hb0 hb1) F N st hA hu hh (fun q hq => by rw [List.mem_singleton.mp hq]; exact sp.mem) sp hne fun v new h' tk' hV F' N' _ => by
    obtain ⟨d, td, a', b', ta', tb', n', rfl, rfl, h0, h1, h2, h3, h4⟩ := hV
    exact k d td a' b' ta' tb' n' h' tk' h0 h1 h2 h3 h4 F' N'
end
set_option maxRecDepth 100000
set_option maxHeartbeats 8000000
theorem ln6 : True := by
  k_with_none
  k_with "M subscriptTail Name Constant ref int" => (k_here; (with_reducible show wpAny _ _ (subscriptTail _ _ (Value.ref _) (Value.int _ _)) _ _ _); k_dflt (refine' Mine.item_N ?k0 ?k1 ?k2 ?k3 ?k4 ?_ ?k6; (case k0 => k_asm); (case k1 => k_mem); (case k2 => decide); (case k3 => decide); (case k4 => rfl); (case k6 => with_unfolding_all rfl); k_whole))
  k_with "M m_new" => first | exact List.forall_mem_nil _ | (refine' List.forall_mem_cons.mpr ⟨And.intro ?mzA ?mzB, ?mzC⟩; (case mzA => k_mem); (case mzB => (try dsimp only); first | exact Or.inl (by k_mem) | exact Or.inr (by walk_at "m_all")); (case mzC => walk_at "m_new"))
  k_with "M m_spl" => first | exact Mine.Spl.head | exact (Mine.Spl.tail Mine.Spl.head) | exact (Mine.Spl.tail (Mine.Spl.tail Mine.Spl.head)) | exact (Mine.Spl.tail (Mine.Spl.tail (Mine.Spl.tail Mine.Spl.head))) | exact (Mine.Spl.tail (Mine.Spl.tail (Mine.Spl.tail (Mine.Spl.tail Mine.Spl.head)))) | exact (Mine.Spl.tail (Mine.Spl.tail (Mine.Spl.tail (Mine.Spl.tail (Mine.Spl.tail Mine.Spl.head))))) | exact (Mine.Spl.tail (Mine.Spl.tail (Mine.Spl.tail (Mine.Spl.tail (Mine.Spl.tail (Mine.Spl.tail Mine.Spl.head)))))) | exact (Mine.Spl.tail (Mine.Spl.tail (Mine.Spl.tail (Mine.Spl.tail (Mine.Spl.tail (Mine.Spl.tail (Mine.Spl.tail Mine.Spl.head))))))) | exact (Mine.Spl.tail (Mine.Spl.tail (Mine.Spl.tail (Mine.Spl.tail (Mine.Spl.tail (Mine.Spl.tail (Mine.Spl.tail (Mine.Spl.tail Mine.Spl.head)))))))) | exact (Mine.Spl.tail (Mine.Spl.tail (Mine.Spl.tail (Mine.Spl.tail (Mine.Spl.tail (Mine.Spl.tail (Mine.Spl.tail (Mine.Spl.tail (Mine.Spl.tail Mine.Spl.head))))))))) | exact (Mine.Spl.tail (Mine.Spl.tail (Mine.Spl.tail (Mine.Spl.tail (Mine.Spl.tail (Mine.Spl.tail (Mine.Spl.tail (Mine.Spl.tail (Mine.Spl.tail (Mine.Spl.tail Mine.Spl.head)))))))))) | exact (Mine.Spl.tail (Mine.Spl.tail (Mine.Spl.tail (Mine.Spl.tail (Mine.Spl.tail (Mine.Spl.tail (Mine.Spl.tail (Mine.Spl.tail (Mine.Spl.tail (Mine.Spl.tail (Mine.Spl.tail Mine.Spl.head))))))))))) | exact (Mine.Spl.tail (Mine.Spl.tail (Mine.Spl.tail (Mine.Spl.tail (Mine.Spl.tail (Mine.Spl.tail (Mine.Spl.tail (Mine.Spl.tail (Mine.Spl.tail (Mine.Spl.tail (Mine.Spl.tail (Mine.Spl.tail Mine.Spl.head)))))))))))) | exact (Mine.Spl.tail (Mine.Spl.tail (Mine.Spl.tail (Mine.Spl.tail (Mine.Spl.tail (Mine.Spl.tail (Mine.Spl.tail (Mine.Spl.tail (Mine.Spl.tail (Mine.Spl.tail (Mine.Spl.tail (Mine.Spl.tail (Mine.Spl.tail Mine.Spl.head)))))))))))))
  k_with "M m_own" => first | exact List.forall_mem_nil _ | (refine' List.forall_mem_cons.mpr ⟨?mzA, ?mzB⟩; (case mzA => k_mem); (case mzB => walk_at "m_own"))
  k_with "M m_lvl" => first | exact lv_le 3 rfl (by assumption) rfl | exact lv_le 1 rfl (by assumption) rfl | exact lv_le 0 rfl (by assumption) rfl | exact lv_le 2 rfl (by assumption) rfl | ((try simp only [depth_under_make, depth_under_kw, depth_in1, depth_deeper, units_in1, units_deeper, units_under_make, Around.mark_units]); (try dsimp only); omega)
  k_with "M call builtin:len" => (k_here; (with_reducible show wpAny _ _ (call (Value.builtin "len") [Value.ref _]) _ _ _); k_dflt (refine' Mine.len_N ?k0 ?k1 ?k2 ?_; (case k0 => k_asm); (case k1 => k_mem); (case k2 => (try simp only [List.length_cons, List.length_nil]); omega); k_whole))
  k_with "M m_ne0" => (replace l1 := ne0_of l1; (try simp only [NewNe0, AllNe, and_true, and_assoc] at l1); (repeat (have := And.left l1; replace l1 := And.right l1)))
  k_with "M m_ne1" => (replace l1 := ne1_of l1; (try simp only [NewNe1, AllNe, and_true, true_or, true_and, and_assoc] at l1); (repeat (have := And.left l1; replace l1 := And.right l1)))
  k_with "M exec Raise some none" => (k_here; k_dflt (refine' Mine.raise_stmt ?hh ?_; (case hh => first | rfl | assumption)))
  k_with "M pyIter ref" => ((with_reducible show wpAny _ _ _ (fun it s₂ => UnrAt _ _ _ _ _ _ _ _ _ it s₂) _ _); (k_dflt (refine' Iter_tuple_unr ?hh ?ht ?F ?N ?htL ?_; (case F => k_asm); (case N => k_asm); (case hh => assumption); (case ht => exact News.isTup (by assumption) (by k_mem)); (case htL => exact News.ne_locals (by assumption) (by k_mem)))))
  k_with "M eval Name" => (k_here; (with_reducible show wpAny _ _ (eval (Expr.Name _ _) (envOfC _ _ _ _ _)) _ _ _); k_dflt (refine' nameX_L ?nxF ?nxV ?_; (case nxF => k_asm); (case nxV => rfl); k_whole))
  k_with "M m_sub" => first | exact List.forall_mem_nil _ | (refine' List.forall_mem_cons.mpr ⟨?mzA, ?mzB⟩; (case mzA => k_mem); (case mzB => walk_at "m_sub")) | (intro mzp mzh; k_mem)
  k_with "M m_off" => first | exact True.intro | assumption | (refine And.intro ⟨by k_ne, by k_ne, by k_ne⟩ ?_; walk_at "m_off")
  k_with "M m_same" => first | exact List.forall_mem_nil _ | (refine' List.forall_mem_cons.mpr ⟨?mzA, ?mzB⟩; (case mzA => (try dsimp only); first | exact Or.inl (by k_mem) | exact Or.inr (by k_mem)); (case mzB => walk_at "m_same")) | simp
  k_with "M m_all" => first | exact List.forall_mem_nil _ | (refine' List.forall_mem_cons.mpr ⟨?mzA, ?mzB⟩; (case mzA => k_ne); (case mzB => walk_at "m_all")) | assumption
  k_with "M om" => first | ((repeat (with_reducible rename (_ ≠ _) => hz9; clear hz9)); omega) | omega
  k_with "M m_ltp" => first | with_reducible assumption | (with_reducible rename (_ < _ ∧ _) => hq9; first | with_reducible exact hq9.1 | with_reducible exact hq9.2.1 | with_reducible exact hq9.2.2.1 | with_reducible exact hq9.2.2.2.1 | with_reducible exact hq9.2.2.2.2.1 | with_reducible exact hq9.2.2.2.2.2.1 | with_reducible exact hq9.2 | with_reducible exact hq9.2.2 | with_reducible exact hq9.2.2.2 | with_reducible exact hq9.2.2.2.2 | with_reducible exact hq9.2.2.2.2.2 | (clear hq9; walk_at "m_ltp"))
  k_with "M m_nel" => first | exact Nat.ne_of_lt (by walk_at "m_ltp") | exact Nat.ne_of_gt (by walk_at "m_ltp") | exact ne_lt_k 1 rfl (by walk_at "m_ltp") | exact ne_lt_k 2 rfl (by walk_at "m_ltp") | exact ne_lt_k 3 rfl (by walk_at "m_ltp") | exact ne_lt_k 4 rfl (by walk_at "m_ltp") | exact ne_gt_k 1 rfl (by walk_at "m_ltp") | exact ne_gt_k 2 rfl (by walk_at "m_ltp") | exact ne_gt_k 3 rfl (by walk_at "m_ltp") | exact ne_gt_k 4 rfl (by walk_at "m_ltp")
  k_with "M execs cons" => (k_here; (try k_gentoks); (with_reducible refine wpAny_execs_cons ?_); (try k_fold); (try dsimp only))
  k_with "M call ref" => (k_here; (with_reducible show wpAny _ _ (call (Value.ref 246) _) _ _ _); (k_dflt (refine' take_use ?G ?F ?N ?st ?d ?u ?h ?sp ?ne ?t1 ?t2 ?t3 ?t4 ?t5 ?_; (case F => k_asm); (case N => k_asm); (case sp => walk_at "m_spl"); (case ne => walk_at "m_all"); (case st => assumption); (case d => walk_at "m_lvl"); (case u => walk_at "m_lvl"); (case h => assumption); (try (case G => assumption)); (all_goals (try (case t1 => first | omega | decide | assumption))); (all_goals (try (case t2 => first | omega | decide | assumption))); (all_goals (try (case t3 => first | omega | decide | assumption))); (all_goals (try (case t4 => first | omega | decide | assumption))); (all_goals (try (case t5 => first | omega | decide | assumption))); (all_goals (try (case a1 => assumption))); (all_goals (try (case a2 => assumption))); (all_goals (try (case a3 => assumption))); k_whole)); intro d' td' a' b' ta' tb' n' h' tk' hd0' hd1' ha' hb0' hb1' F' N'; (try dsimp only); (try k_sweep))
  trivial
section
variable {prog : Program} {w : World} {mean : ExcName → Option Value} {mg mb : Str → Option Value} {B : Heap} (G : Gd w mean mg mb B)
include G
theorem one_con (src th : Nat) (a b : Int) (ta tb : Tok) (n nt : Nat) (vs : List Value) (ht : 0 < vs.length) (ht2 : vs.length ≤ 20) (ha : 0 ≤ a) (hb0 : 0 ≤ b) (hb1 : b < 2147483647) (hne : th ≠ src) :
    Con prog w B 55 (.ref 253) [.ref src, .ref th] [(src, srcO a b ta tb n), (th, listOf vs.toArray nt)] [src]
      (fun v new => ∃ a' b' ta' tb' n', new = [(src, srcO a' b' ta' tb' n')] ∧ v ∈ vs ∧ 0 ≤ a' ∧ 0 ≤ b' ∧ b' < 2147483647) := by
  intro A s R hA hu hh hB hown k
  obtain ⟨ah, ad, af, ag, au⟩ := A
  obtain rfl : ah = none := hh
  have hh : (Around.mk none ad af ag au).handled = none := rfl
  replace hA : ad ≤ _ := hA
  replace hu : au ≤ _ := hu
  refine' enter G (binds := [("source", Value.ref src), ("things", Value.ref th)]) (rb := [("things", Value.ref th), ("source", Value.ref src)]) _ hB hown (Nat.le_trans hA (by decide)) ?ho ?hcd ?hb ?hl rfl ?k ?c1 ?c2 ?c3 ?c4
  case ho => k_is
  case hcd => k_is
  case hb => first | exact BindsTo.of_eq rfl | exact binds_K (G.X.keeps hB) rfl (by k_is) rfl rfl rfl
  case hl => exact locs rfl
  case c1 => rfl
  case c2 => rfl
  case c3 => rfl
  case c4 => decide
  case k =>
    intro g L' h₁ m Q tk hg hL hm hQ hQn F N X' T' st
    subst hm
    k_steps
    have hlt : d'.toNat < vs.length := by omega
    refine item_N (v := vs[d'.toNat]) (by assumption) (by k_mem) (by omega) (by omega) (List.getElem?_eq_getElem hlt) ?_
    k_steps
    refine hQ _ _ ?_
    exact (con_end (s := s) [(src, srcO _ _ _ _ _)] k hg (fun q hq => (hown q hq).1) (by assumption) (by assumption) (by walk_at "m_same") (by walk_at "m_new") ⟨_, _, _, _, _, rfl, List.getElem_mem hlt, ha', hb0', hb1'⟩)
end
set_option maxRecDepth 100000
set_option maxHeartbeats 8000000
theorem ln7 : True := by
  k_with_none
  k_with "M subscriptTail Name Constant ref int" => (k_here; (with_reducible show wpAny _ _ (subscriptTail _ _ (Value.ref _) (Value.int _ _)) _ _ _); k_dflt (refine' Mine.item_N ?k0 ?k1 ?k2 ?k3 ?k4 ?_ ?k6; (case k0 => k_asm); (case k1 => k_mem); (case k2 => decide); (case k3 => decide); (case k4 => rfl); (case k6 => with_unfolding_all rfl); k_whole))
  k_with "M m_new" => first | exact List.forall_mem_nil _ | (refine' List.forall_mem_cons.mpr ⟨And.intro ?mzA ?mzB, ?mzC⟩; (case mzA => k_mem); (case mzB => (try dsimp only); first | exact Or.inl (by k_mem) | exact Or.inr (by walk_at "m_all")); (case mzC => walk_at "m_new"))
  k_with "M m_spl" => first | exact Mine.Spl.head | exact (Mine.Spl.tail Mine.Spl.head) | exact (Mine.Spl.tail (Mine.Spl.tail Mine.Spl.head)) | exact (Mine.Spl.tail (Mine.Spl.tail (Mine.Spl.tail Mine.Spl.head))) | exact (Mine.Spl.tail (Mine.Spl.tail (Mine.Spl.tail (Mine.Spl.tail Mine.Spl.head)))) | exact (Mine.Spl.tail (Mine.Spl.tail (Mine.Spl.tail (Mine.Spl.tail (Mine.Spl.tail Mine.Spl.head))))) | exact (Mine.Spl.tail (Mine.Spl.tail (Mine.Spl.tail (Mine.Spl.tail (Mine.Spl.tail (Mine.Spl.tail Mine.Spl.head)))))) | exact (Mine.Spl.tail (Mine.Spl.tail (Mine.Spl.tail (Mine.Spl.tail (Mine.Spl.tail (Mine.Spl.tail (Mine.Spl.tail Mine.Spl.head))))))) | exact (Mine.Spl.tail (Mine.Spl.tail (Mine.Spl.tail (Mine.Spl.tail (Mine.Spl.tail (Mine.Spl.tail (Mine.Spl.tail (Mine.Spl.tail Mine.Spl.head)))))))) | exact (Mine.Spl.tail (Mine.Spl.tail (Mine.Spl.tail (Mine.Spl.tail (Mine.Spl.tail (Mine.Spl.tail (Mine.Spl.tail (Mine.Spl.tail (Mine.Spl.tail Mine.Spl.head))))))))) | exact (Mine.Spl.tail (Mine.Spl.tail (Mine.Spl.tail (Mine.Spl.tail (Mine.Spl.tail (Mine.Spl.tail (Mine.Spl.tail (Mine.Spl.tail (Mine.Spl.tail (Mine.Spl.tail Mine.Spl.head)))))))))) | exact (Mine.Spl.tail (Mine.Spl.tail (Mine.Spl.tail (Mine.Spl.tail (Mine.Spl.tail (Mine.Spl.tail (Mine.Spl.tail (Mine.Spl.tail (Mine.Spl.tail (Mine.Spl.tail (Mine.Spl.tail Mine.Spl.head))))))))))) | exact (Mine.Spl.tail (Mine.Spl.tail (Mine.Spl.tail (Mine.Spl.tail (Mine.Spl.tail (Mine.Spl.tail (Mine.Spl.tail (Mine.Spl.tail (Mine.Spl.tail (Mine.Spl.tail (Mine.Spl.tail (Mine.Spl.tail Mine.Spl.head)))))))))))) | exact (Mine.Spl.tail (Mine.Spl.tail (Mine.Spl.tail (Mine.Spl.tail (Mine.Spl.tail (Mine.Spl.tail (Mine.Spl.tail (Mine.Spl.tail (Mine.Spl.tail (Mine.Spl.tail (Mine.Spl.tail (Mine.Spl.tail (Mine.Spl.tail Mine.Spl.head)))))))))))))
  k_with "M m_own" => first | exact List.forall_mem_nil _ | (refine' List.forall_mem_cons.mpr ⟨?mzA, ?mzB⟩; (case mzA => k_mem); (case mzB => walk_at "m_own"))
  k_with "M m_lvl" => first | exact lv_le 3 rfl (by assumption) rfl | exact lv_le 1 rfl (by assumption) rfl | exact lv_le 0 rfl (by assumption) rfl | exact lv_le 2 rfl (by assumption) rfl | ((try simp only [depth_under_make, depth_under_kw, depth_in1, depth_deeper, units_in1, units_deeper, units_under_make, Around.mark_units]); (try dsimp only); omega)
  k_with "M call builtin:len" => (k_here; (with_reducible show wpAny _ _ (call (Value.builtin "len") [Value.ref _]) _ _ _); k_dflt (refine' Mine.len_N ?k0 ?k1 ?k2 ?_; (case k0 => k_asm); (case k1 => k_mem); (case k2 => (try simp only [List.length_cons, List.length_nil]); omega); k_whole))
  k_with "M m_ne0" => (replace l1 := ne0_of l1; (try simp only [NewNe0, AllNe, and_true, and_assoc] at l1); (repeat (have := And.left l1; replace l1 := And.right l1)))
  k_with "M m_ne1" => (replace l1 := ne1_of l1; (try simp only [NewNe1, AllNe, and_true, true_or, true_and, and_assoc] at l1); (repeat (have := And.left l1; replace l1 := And.right l1)))
  k_with "M exec Raise some none" => (k_here; k_dflt (refine' Mine.raise_stmt ?hh ?_; (case hh => first | rfl | assumption)))
  k_with "M pyIter ref" => ((with_reducible show wpAny _ _ _ (fun it s₂ => UnrAt _ _ _ _ _ _ _ _ _ it s₂) _ _); (k_dflt (refine' Iter_tuple_unr ?hh ?ht ?F ?N ?htL ?_; (case F => k_asm); (case N => k_asm); (case hh => assumption); (case ht => exact News.isTup (by assumption) (by k_mem)); (case htL => exact News.ne_locals (by assumption) (by k_mem)))))
  k_with "M eval Name" => (k_here; (with_reducible show wpAny _ _ (eval (Expr.Name _ _) (envOfC _ _ _ _ _)) _ _ _); k_dflt (refine' nameX_L ?nxF ?nxV ?_; (case nxF => k_asm); (case nxV => rfl); k_whole))
  k_with "M m_sub" => first | exact List.forall_mem_nil _ | (refine' List.forall_mem_cons.mpr ⟨?mzA, ?mzB⟩; (case mzA => k_mem); (case mzB => walk_at "m_sub")) | (intro mzp mzh; k_mem)
  k_with "M m_off" => first | exact True.intro | assumption | (refine And.intro ⟨by k_ne, by k_ne, by k_ne⟩ ?_; walk_at "m_off")
  k_with "M m_same" => first | exact List.forall_mem_nil _ | (refine' List.forall_mem_cons.mpr ⟨?mzA, ?mzB⟩; (case mzA => (try dsimp only); first | exact Or.inl (by k_mem) | exact Or.inr (by k_mem)); (case mzB => walk_at "m_same")) | simp
  k_with "M m_all" => first | exact List.forall_mem_nil _ | (refine' List.forall_mem_cons.mpr ⟨?mzA, ?mzB⟩; (case mzA => k_ne); (case mzB => walk_at "m_all")) | assumption
  k_with "M om" => first | ((repeat (with_reducible rename (_ ≠ _) => hz9; clear hz9)); omega) | omega
  k_with "M m_ltp" => first | with_reducible assumption | (with_reducible rename (_ < _ ∧ _) => hq9; first | with_reducible exact hq9.1 | with_reducible exact hq9.2.1 | with_reducible exact hq9.2.2.1 | with_reducible exact hq9.2.2.2.1 | with_reducible exact hq9.2.2.2.2.1 | with_reducible exact hq9.2.2.2.2.2.1 | with_reducible exact hq9.2 | with_reducible exact hq9.2.2 | with_reducible exact hq9.2.2.2 | with_reducible exact hq9.2.2.2.2 | with_reducible exact hq9.2.2.2.2.2 | (clear hq9; walk_at "m_ltp"))
  k_with "M m_nel" => first | exact Nat.ne_of_lt (by walk_at "m_ltp") | exact Nat.ne_of_gt (by walk_at "m_ltp") | exact ne_lt_k 1 rfl (by walk_at "m_ltp") | exact ne_lt_k 2 rfl (by walk_at "m_ltp") | exact ne_lt_k 3 rfl (by walk_at "m_ltp") | exact ne_lt_k 4 rfl (by walk_at "m_ltp") | exact ne_gt_k 1 rfl (by walk_at "m_ltp") | exact ne_gt_k 2 rfl (by walk_at "m_ltp") | exact ne_gt_k 3 rfl (by walk_at "m_ltp") | exact ne_gt_k 4 rfl (by walk_at "m_ltp")
  k_with "M execs cons" => (k_here; (try k_gentoks); (with_reducible refine wpAny_execs_cons ?_); (try k_fold); (try dsimp only))
  trivial
noncomputable def spB (c : Nat) : Bool := c == 32 || c == 9 || c == 10 || c == 13
noncomputable def smB (c : Nat) : Bool := decide (97 ≤ c) && decide (c ≤ 122)
noncomputable def nsB (c : Nat) : Bool := smB c || (decide (65 ≤ c) && decide (c ≤ 90)) || c == 95 || c == 58
noncomputable def ncB (c : Nat) : Bool := nsB c || (decide (48 ≤ c) && decide (c ≤ 57)) || c == 45 || c == 46
theorem lt1 (a b : Nat) : (([a] : List Nat) < [b]) ↔ a < b := by simp [List.cons_lt_cons_iff]
theorem eq1 (a b : Nat) : ((⟨#[a]⟩ : Str) == ⟨#[b]⟩) = (a == b) := by
  rw [Bool.eq_iff_iff, beq_iff_eq, beq_iff_eq]
  constructor
  · intro h; cases h; rfl
  · intro h; rw [h]
theorem sc0 : Str.ofString "_" = ⟨#[95]⟩ ∧ Str.ofString ":" = ⟨#[58]⟩ ∧ Str.ofString "A" = ⟨#[65]⟩ ∧ Str.ofString "Z" = ⟨#[90]⟩ ∧ Str.ofString "0" = ⟨#[48]⟩ ∧ Str.ofString "9" = ⟨#[57]⟩ ∧ Str.ofString "-" = ⟨#[45]⟩ ∧ Str.ofString "." = ⟨#[46]⟩ := by decide
theorem sp_occ (c : Nat) : (Builtin.Str.occurrences (Str.ofString " \t\n\x0d") ⟨#[c]⟩ 0 (Str.ofString " \t\n\x0d").length 1).isEmpty = !spB c := by
  have h := StrLaws.found_one (Str.ofString " \t\n\x0d") c
  have e : (Str.ofString " \t\n\x0d").cps.toList = [32, 9, 10, 13] := by decide
  rw [e] at h
  have h2 : decide (c ∈ [32, 9, 10, 13]) = spB c := by
    simp only [List.mem_cons, List.not_mem_nil, or_false, spB]
    by_cases a : c = 32 <;> by_cases b : c = 9 <;> by_cases d : c = 10 <;> by_cases e : c = 13 <;> simp [a, b, d, e]
  rw [h2] at h
  rw [← h, Bool.not_not]
theorem sm_lo (c : Nat) (h : ([c] : List Nat) < [97]) : (!decide (([c] : List Nat) < [97])) = smB c := by
  have h1 : c < 97 := (lt1 c 97).mp h
  rw [decide_eq_true h]
  have : ¬ 97 ≤ c := by omega
  simp [smB, this]
theorem sm_hi (c : Nat) (h : ¬ ([c] : List Nat) < [97]) : (!decide (([122] : List Nat) < [c])) = smB c := by
  have h1 : 97 ≤ c := Nat.le_of_not_lt fun q => h ((lt1 c 97).mpr q)
  simp only [lt1, smB, h1, decide_true, Bool.true_and]
  by_cases q : 122 < c
  · have : ¬ c ≤ 122 := by omega
    simp [q, this]
  · have : c ≤ 122 := by omega
    simp [q, this]
section
variable {prog : Program} {w : World} {mean : ExcName → Option Value} {mg mb : Str → Option Value} {B : Heap} (G : Gd w mean mg mb B)
include G
theorem is_space_con (c : Nat) (t : Tok) :
    Con prog w B 60 (.ref 52) [.str ⟨#[c]⟩ t] [] [] (fun v new => new = [] ∧ v = .bool (spB c)) := by
  intro A s R hA hu hh hB hown k
  obtain ⟨ah, ad, af, ag, au⟩ := A
  obtain rfl : ah = none := hh
  have hh : (Around.mk none ad af ag au).handled = none := rfl
  replace hA : ad ≤ _ := hA
  replace hu : au ≤ _ := hu
  refine' enter G (binds := [("sign", Value.str ⟨#[c]⟩ t)]) (rb := [("sign", Value.str ⟨#[c]⟩ t)]) _ hB hown (Nat.le_trans hA (by decide)) ?ho ?hcd ?hb ?hl rfl ?k ?c1 ?c2 ?c3 ?c4
  case ho => k_is
  case hcd => k_is
  case hb => first | exact BindsTo.of_eq rfl | exact binds_K (G.X.keeps hB) rfl (by k_is) rfl rfl rfl
  case hl => exact locs rfl
  case c1 => rfl
  case c2 => rfl
  case c3 => rfl
  case c4 => decide
  case k =>
    intro g L' h₁ m Q tk hg hL hm hQ hQn F N X' T' st
    subst hm
    k_steps
    · rename_i hz; rw [sp_occ]
      refine hQ _ _ ?_
      exact (con_end (s := s) [] k hg (fun q hq => (hown q hq).1) (by assumption) (by assumption) (by walk_at "m_same") (by walk_at "m_new") ⟨rfl, by rw [Bool.not_not]⟩)
    · rename_i hz; rw [sp_occ] at hz
      refine hQ _ _ ?_
      exact (con_end (s := s) [] k hg (fun q hq => (hown q hq).1) (by assumption) (by assumption) (by walk_at "m_same") (by walk_at "m_new") ⟨rfl, by simp at hz; rw [hz]; rfl⟩)
theorem is_small_con (c : Nat) (t : Tok) :
    Con prog w B 60 (.ref 59) [.str ⟨#[c]⟩ t] [] [] (fun v new => new = [] ∧ v = .bool (smB c)) := by
  intro A s R hA hu hh hB hown k
  obtain ⟨ah, ad, af, ag, au⟩ := A
  obtain rfl : ah = none := hh
  have hh : (Around.mk none ad af ag au).handled = none := rfl
  replace hA : ad ≤ _ := hA
  replace hu : au ≤ _ := hu
  refine' enter G (binds := [("sign", Value.str ⟨#[c]⟩ t)]) (rb := [("sign", Value.str ⟨#[c]⟩ t)]) _ hB hown (Nat.le_trans hA (by decide)) ?ho ?hcd ?hb ?hl rfl ?k ?c1 ?c2 ?c3 ?c4
  case ho => k_is
  case hcd => k_is
  case hb => first | exact BindsTo.of_eq rfl | exact binds_K (G.X.keeps hB) rfl (by k_is) rfl rfl rfl
  case hl => exact locs rfl
  case c1 => rfl
  case c2 => rfl
  case c3 => rfl
  case c4 => decide
  case k =>
    intro g L' h₁ m Q tk hg hL hm hQ hQn F N X' T' st
    subst hm
    k_steps
    · rename_i hz
      refine hQ _ _ ?_
      exact (con_end (s := s) [] k hg (fun q hq => (hown q hq).1) (by assumption) (by assumption) (by walk_at "m_same") (by walk_at "m_new") ⟨rfl, congrArg Value.bool (sm_lo c hz)⟩)
    · rename_i hz
      refine hQ _ _ ?_
      exact (con_end (s := s) [] k hg (fun q hq => (hown q hq).1) (by assumption) (by assumption) (by walk_at "m_same") (by walk_at "m_new") ⟨rfl, congrArg Value.bool (sm_hi c hz)⟩)
end
theorem ln8 : True := by
  k_with "M call ref" => (k_here; (with_reducible show wpAny _ _ (call (Value.ref 59) _) _ _ _); (k_dflt (refine' use00 (is_small_con ?G _ _) ?F ?N ?st ?d ?u ?h ?o ?_; (case F => k_asm); (case N => k_asm); (case o => walk_at "m_own"); (case st => assumption); (case d => walk_at "m_lvl"); (case u => walk_at "m_lvl"); (case h => assumption); (try (case G => assumption)); (all_goals (try (case t1 => first | omega | decide | assumption))); (all_goals (try (case t2 => first | omega | decide | assumption))); (all_goals (try (case t3 => first | omega | decide | assumption))); (all_goals (try (case t4 => first | omega | decide | assumption))); (all_goals (try (case t5 => first | omega | decide | assumption))); (all_goals (try (case a1 => assumption))); (all_goals (try (case a2 => assumption))); (all_goals (try (case a3 => assumption))); k_whole)); intro h' tk' F' N'; (try dsimp only); (try k_sweep))
  trivial
section
variable {prog : Program} {w : World} {mean : ExcName → Option Value} {mg mb : Str → Option Value} {B : Heap} (G : Gd w mean mg mb B)
include G
theorem is_name_start_con (c : Nat) (t : Tok) (hc : c < 128) :
    Con prog w B 59 (.ref 66) [.str ⟨#[c]⟩ t] [] [] (fun v new => new = [] ∧ v = .bool (nsB c)) := by
  intro A s R hA hu hh hB hown k
  obtain ⟨ah, ad, af, ag, au⟩ := A
  obtain rfl : ah = none := hh
  have hh : (Around.mk none ad af ag au).handled = none := rfl
  replace hA : ad ≤ _ := hA
  replace hu : au ≤ _ := hu
  refine' enter G (binds := [("sign", Value.str ⟨#[c]⟩ t)]) (rb := [("sign", Value.str ⟨#[c]⟩ t)]) _ hB hown (Nat.le_trans hA (by decide)) ?ho ?hcd ?hb ?hl rfl ?k ?c1 ?c2 ?c3 ?c4
  case ho => k_is
  case hcd => k_is
  case hb => first | exact BindsTo.of_eq rfl | exact binds_K (G.X.keeps hB) rfl (by k_is) rfl rfl rfl
  case hl => exact locs rfl
  case c1 => rfl
  case c2 => rfl
  case c3 => rfl
  case c4 => decide
  case k =>
    intro g L' h₁ m Q tk hg hL hm hQ hQn F N X' T' st
    subst hm
    k_steps
    all_goals (refine hQ _ _ (con_end (s := s) [] k hg (fun q hq => (hown q hq).1) (by assumption) (by assumption) (by walk_at "m_same") (by walk_at "m_new") ⟨rfl, congrArg Value.bool ?_⟩))
    all_goals (clear k hQ hQn hown hg G X' T' st hB; (try clear F'); (try clear F); (try clear N'); (try clear N); revert c; set_option synthInstance.maxSize 100000 in (set_option synthInstance.maxHeartbeats 2000000 in decide +kernel))
end
theorem ln9 : True := by
  k_with "M call ref" => (k_here; (with_reducible show wpAny _ _ (call (Value.ref 66) _) _ _ _); (k_dflt (refine' use00 (is_name_start_con ?G _ _ ?t1) ?F ?N ?st ?d ?u ?h ?o ?_; (case F => k_asm); (case N => k_asm); (case o => walk_at "m_own"); (case st => assumption); (case d => walk_at "m_lvl"); (case u => walk_at "m_lvl"); (case h => assumption); (try (case G => assumption)); (all_goals (try (case t1 => first | omega | decide | assumption))); (all_goals (try (case t2 => first | omega | decide | assumption))); (all_goals (try (case t3 => first | omega | decide | assumption))); (all_goals (try (case t4 => first | omega | decide | assumption))); (all_goals (try (case t5 => first | omega | decide | assumption))); (all_goals (try (case a1 => assumption))); (all_goals (try (case a2 => assumption))); (all_goals (try (case a3 => assumption))); k_whole)); intro h' tk' F' N'; (try dsimp only); (try k_sweep))
  trivial
section
variable {prog : Program} {w : World} {mean : ExcName → Option Value} {mg mb : Str → Option Value} {B : Heap} (G : Gd w mean mg mb B)
include G
theorem is_name_char_con (c : Nat) (t : Tok) (hc : c < 128) :
    Con prog w B 58 (.ref 73) [.str ⟨#[c]⟩ t] [] [] (fun v new => new = [] ∧ v = .bool (ncB c)) := by
  intro A s R hA hu hh hB hown k
  obtain ⟨ah, ad, af, ag, au⟩ := A
  obtain rfl : ah = none := hh
  have hh : (Around.mk none ad af ag au).handled = none := rfl
  replace hA : ad ≤ _ := hA
  replace hu : au ≤ _ := hu
  refine' enter G (binds := [("sign", Value.str ⟨#[c]⟩ t)]) (rb := [("sign", Value.str ⟨#[c]⟩ t)]) _ hB hown (Nat.le_trans hA (by decide)) ?ho ?hcd ?hb ?hl rfl ?k ?c1 ?c2 ?c3 ?c4
  case ho => k_is
  case hcd => k_is
  case hb => first | exact BindsTo.of_eq rfl | exact binds_K (G.X.keeps hB) rfl (by k_is) rfl rfl rfl
  case hl => exact locs rfl
  case c1 => rfl
  case c2 => rfl
  case c3 => rfl
  case c4 => decide
  case k =>
    intro g L' h₁ m Q tk hg hL hm hQ hQn F N X' T' st
    subst hm
    k_steps
    all_goals (refine hQ _ _ (con_end (s := s) [] k hg (fun q hq => (hown q hq).1) (by assumption) (by assumption) (by walk_at "m_same") (by walk_at "m_new") ⟨rfl, congrArg Value.bool ?_⟩))
    all_goals (clear k hQ hQn hown hg G X' T' st hB; (try clear F'); (try clear F); (try clear N'); (try clear N); revert c; set_option synthInstance.maxSize 100000 in (set_option synthInstance.maxHeartbeats 2000000 in decide +kernel))
end
set_option maxRecDepth 100000
set_option maxHeartbeats 8000000
theorem ln10 : True := by
  k_with_none
  k_with "M subscriptTail Name Constant ref int" => (k_here; (with_reducible show wpAny _ _ (subscriptTail _ _ (Value.ref _) (Value.int _ _)) _ _ _); k_dflt (refine' Mine.item_N ?k0 ?k1 ?k2 ?k3 ?k4 ?_ ?k6; (case k0 => k_asm); (case k1 => k_mem); (case k2 => decide); (case k3 => decide); (case k4 => rfl); (case k6 => with_unfolding_all rfl); k_whole))
  k_with "M m_new" => first | exact List.forall_mem_nil _ | (refine' List.forall_mem_cons.mpr ⟨And.intro ?mzA ?mzB, ?mzC⟩; (case mzA => k_mem); (case mzB => (try dsimp only); first | exact Or.inl (by k_mem) | exact Or.inr (by walk_at "m_all")); (case mzC => walk_at "m_new"))
  k_with "M m_spl" => first | exact Mine.Spl.head | exact (Mine.Spl.tail Mine.Spl.head) | exact (Mine.Spl.tail (Mine.Spl.tail Mine.Spl.head)) | exact (Mine.Spl.tail (Mine.Spl.tail (Mine.Spl.tail Mine.Spl.head))) | exact (Mine.Spl.tail (Mine.Spl.tail (Mine.Spl.tail (Mine.Spl.tail Mine.Spl.head)))) | exact (Mine.Spl.tail (Mine.Spl.tail (Mine.Spl.tail (Mine.Spl.tail (Mine.Spl.tail Mine.Spl.head))))) | exact (Mine.Spl.tail (Mine.Spl.tail (Mine.Spl.tail (Mine.Spl.tail (Mine.Spl.tail (Mine.Spl.tail Mine.Spl.head)))))) | exact (Mine.Spl.tail (Mine.Spl.tail (Mine.Spl.tail (Mine.Spl.tail (Mine.Spl.tail (Mine.Spl.tail (Mine.Spl.tail Mine.Spl.head))))))) | exact (Mine.Spl.tail (Mine.Spl.tail (Mine.Spl.tail (Mine.Spl.tail (Mine.Spl.tail (Mine.Spl.tail (Mine.Spl.tail (Mine.Spl.tail Mine.Spl.head)))))))) | exact (Mine.Spl.tail (Mine.Spl.tail (Mine.Spl.tail (Mine.Spl.tail (Mine.Spl.tail (Mine.Spl.tail (Mine.Spl.tail (Mine.Spl.tail (Mine.Spl.tail Mine.Spl.head))))))))) | exact (Mine.Spl.tail (Mine.Spl.tail (Mine.Spl.tail (Mine.Spl.tail (Mine.Spl.tail (Mine.Spl.tail (Mine.Spl.tail (Mine.Spl.tail (Mine.Spl.tail (Mine.Spl.tail Mine.Spl.head)))))))))) | exact (Mine.Spl.tail (Mine.Spl.tail (Mine.Spl.tail (Mine.Spl.tail (Mine.Spl.tail (Mine.Spl.tail (Mine.Spl.tail (Mine.Spl.tail (Mine.Spl.tail (Mine.Spl.tail (Mine.Spl.tail Mine.Spl.head))))))))))) | exact (Mine.Spl.tail (Mine.Spl.tail (Mine.Spl.tail (Mine.Spl.tail (Mine.Spl.tail (Mine.Spl.tail (Mine.Spl.tail (Mine.Spl.tail (Mine.Spl.tail (Mine.Spl.tail (Mine.Spl.tail (Mine.Spl.tail Mine.Spl.head)))))))))))) | exact (Mine.Spl.tail (Mine.Spl.tail (Mine.Spl.tail (Mine.Spl.tail (Mine.Spl.tail (Mine.Spl.tail (Mine.Spl.tail (Mine.Spl.tail (Mine.Spl.tail (Mine.Spl.tail (Mine.Spl.tail (Mine.Spl.tail (Mine.Spl.tail Mine.Spl.head)))))))))))))
  k_with "M m_own" => first | exact List.forall_mem_nil _ | (refine' List.forall_mem_cons.mpr ⟨?mzA, ?mzB⟩; (case mzA => k_mem); (case mzB => walk_at "m_own"))
  k_with "M m_lvl" => first | exact lv_le 3 rfl (by assumption) rfl | exact lv_le 1 rfl (by assumption) rfl | exact lv_le 0 rfl (by assumption) rfl | exact lv_le 2 rfl (by assumption) rfl | ((try simp only [depth_under_make, depth_under_kw, depth_in1, depth_deeper, units_in1, units_deeper, units_under_make, Around.mark_units]); (try dsimp only); omega)
  k_with "M call builtin:len" => (k_here; (with_reducible show wpAny _ _ (call (Value.builtin "len") [Value.ref _]) _ _ _); k_dflt (refine' Mine.len_N ?k0 ?k1 ?k2 ?_; (case k0 => k_asm); (case k1 => k_mem); (case k2 => (try simp only [List.length_cons, List.length_nil]); omega); k_whole))
  k_with "M m_ne0" => (replace l1 := ne0_of l1; (try simp only [NewNe0, AllNe, and_true, and_assoc] at l1); (repeat (have := And.left l1; replace l1 := And.right l1)))
  k_with "M m_ne1" => (replace l1 := ne1_of l1; (try simp only [NewNe1, AllNe, and_true, true_or, true_and, and_assoc] at l1); (repeat (have := And.left l1; replace l1 := And.right l1)))
  k_with "M exec Raise some none" => (k_here; k_dflt (refine' Mine.raise_stmt ?hh ?_; (case hh => first | rfl | assumption)))
  k_with "M pyIter ref" => ((with_reducible show wpAny _ _ _ (fun it s₂ => UnrAt _ _ _ _ _ _ _ _ _ it s₂) _ _); (k_dflt (refine' Iter_tuple_unr ?hh ?ht ?F ?N ?htL ?_; (case F => k_asm); (case N => k_asm); (case hh => assumption); (case ht => exact News.isTup (by assumption) (by k_mem)); (case htL => exact News.ne_locals (by assumption) (by k_mem)))))
  k_with "M eval Name" => (k_here; (with_reducible show wpAny _ _ (eval (Expr.Name _ _) (envOfC _ _ _ _ _)) _ _ _); k_dflt (refine' nameX_L ?nxF ?nxV ?_; (case nxF => k_asm); (case nxV => rfl); k_whole))
  k_with "M m_sub" => first | exact List.forall_mem_nil _ | (refine' List.forall_mem_cons.mpr ⟨?mzA, ?mzB⟩; (case mzA => k_mem); (case mzB => walk_at "m_sub")) | (intro mzp mzh; k_mem)
  k_with "M m_off" => first | exact True.intro | assumption | (refine And.intro ⟨by k_ne, by k_ne, by k_ne⟩ ?_; walk_at "m_off")
  k_with "M m_same" => first | exact List.forall_mem_nil _ | (refine' List.forall_mem_cons.mpr ⟨?mzA, ?mzB⟩; (case mzA => (try dsimp only); first | exact Or.inl (by k_mem) | exact Or.inr (by k_mem)); (case mzB => walk_at "m_same")) | simp
  k_with "M m_all" => first | exact List.forall_mem_nil _ | (refine' List.forall_mem_cons.mpr ⟨?mzA, ?mzB⟩; (case mzA => k_ne); (case mzB => walk_at "m_all")) | assumption
  k_with "M om" => first | ((repeat (with_reducible rename (_ ≠ _) => hz9; clear hz9)); omega) | omega
  k_with "M m_ltp" => first | with_reducible assumption | (with_reducible rename (_ < _ ∧ _) => hq9; first | with_reducible exact hq9.1 | with_reducible exact hq9.2.1 | with_reducible exact hq9.2.2.1 | with_reducible exact hq9.2.2.2.1 | with_reducible exact hq9.2.2.2.2.1 | with_reducible exact hq9.2.2.2.2.2.1 | with_reducible exact hq9.2 | with_reducible exact hq9.2.2 | with_reducible exact hq9.2.2.2 | with_reducible exact hq9.2.2.2.2 | with_reducible exact hq9.2.2.2.2.2 | (clear hq9; walk_at "m_ltp"))
  k_with "M m_nel" => first | exact Nat.ne_of_lt (by walk_at "m_ltp") | exact Nat.ne_of_gt (by walk_at "m_ltp") | exact ne_lt_k 1 rfl (by walk_at "m_ltp") | exact ne_lt_k 2 rfl (by walk_at "m_ltp") | exact ne_lt_k 3 rfl (by walk_at "m_ltp") | exact ne_lt_k 4 rfl (by walk_at "m_ltp") | exact ne_gt_k 1 rfl (by walk_at "m_ltp") | exact ne_gt_k 2 rfl (by walk_at "m_ltp") | exact ne_gt_k 3 rfl (by walk_at "m_ltp") | exact ne_gt_k 4 rfl (by walk_at "m_ltp")
  k_with "M execs cons" => (k_here; (try k_gentoks); (with_reducible refine wpAny_execs_cons ?_); (try k_fold); (try dsimp only))
  k_with "M call ref" => (k_here; (with_reducible show wpAny _ _ (call (Value.ref 66) _) _ _ _); (k_dflt (refine' use00 (is_name_start_con ?G _ _ ?t1) ?F ?N ?st ?d ?u ?h ?o ?_; (case F => k_asm); (case N => k_asm); (case o => walk_at "m_own"); (case st => assumption); (case d => walk_at "m_lvl"); (case u => walk_at "m_lvl"); (case h => assumption); (try (case G => assumption)); (all_goals (try (case t1 => first | omega | decide | assumption))); (all_goals (try (case t2 => first | omega | decide | assumption))); (all_goals (try (case t3 => first | omega | decide | assumption))); (all_goals (try (case t4 => first | omega | decide | assumption))); (all_goals (try (case t5 => first | omega | decide | assumption))); (all_goals (try (case a1 => assumption))); (all_goals (try (case a2 => assumption))); (all_goals (try (case a3 => assumption))); k_whole)); intro h' tk' F' N'; (try dsimp only); (try k_sweep))
  k_with "M call ref" => (k_here; (with_reducible show wpAny _ _ (call (Value.ref 73) _) _ _ _); (k_dflt (refine' use00 (is_name_char_con ?G _ _ ?t1) ?F ?N ?st ?d ?u ?h ?o ?_; (case F => k_asm); (case N => k_asm); (case o => walk_at "m_own"); (case st => assumption); (case d => walk_at "m_lvl"); (case u => walk_at "m_lvl"); (case h => assumption); (try (case G => assumption)); (all_goals (try (case t1 => first | omega | decide | assumption))); (all_goals (try (case t2 => first | omega | decide | assumption))); (all_goals (try (case t3 => first | omega | decide | assumption))); (all_goals (try (case t4 => first | omega | decide | assumption))); (all_goals (try (case t5 => first | omega | decide | assumption))); (all_goals (try (case a1 => assumption))); (all_goals (try (case a2 => assumption))); (all_goals (try (case a3 => assumption))); k_whole)); intro h' tk' F' N'; (try dsimp only); (try k_sweep))
  k_with "M call ref" => (k_here; (with_reducible show wpAny _ _ (call (Value.ref 52) _) _ _ _); (k_dflt (refine' use00 (is_space_con ?G _ _) ?F ?N ?st ?d ?u ?h ?o ?_; (case F => k_asm); (case N => k_asm); (case o => walk_at "m_own"); (case st => assumption); (case d => walk_at "m_lvl"); (case u => walk_at "m_lvl"); (case h => assumption); (try (case G => assumption)); (all_goals (try (case t1 => first | omega | decide | assumption))); (all_goals (try (case t2 => first | omega | decide | assumption))); (all_goals (try (case t3 => first | omega | decide | assumption))); (all_goals (try (case t4 => first | omega | decide | assumption))); (all_goals (try (case t5 => first | omega | decide | assumption))); (all_goals (try (case a1 => assumption))); (all_goals (try (case a2 => assumption))); (all_goals (try (case a3 => assumption))); k_whole)); intro h' tk' F' N'; (try dsimp only); (try k_sweep))
  k_with "M call ref" => (k_here; (with_reducible show wpAny _ _ (call (Value.ref 141) _) _ _ _); (k_dflt (refine' use00 (is_over_con ?G _ _ _ _ _ _ _ _ ?t1) ?F ?N ?st ?d ?u ?h ?o ?_; (case F => k_asm); (case N => k_asm); (case o => walk_at "m_own"); (case st => assumption); (case d => walk_at "m_lvl"); (case u => walk_at "m_lvl"); (case h => assumption); (try (case G => assumption)); (all_goals (try (case t1 => first | omega | decide | assumption))); (all_goals (try (case t2 => first | omega | decide | assumption))); (all_goals (try (case t3 => first | omega | decide | assumption))); (all_goals (try (case t4 => first | omega | decide | assumption))); (all_goals (try (case t5 => first | omega | decide | assumption))); (all_goals (try (case a1 => assumption))); (all_goals (try (case a2 => assumption))); (all_goals (try (case a3 => assumption))); k_whole)); intro h' tk' F' N'; (try dsimp only); (try k_sweep))
  k_with "M call ref" => (k_here; (with_reducible show wpAny _ _ (call (Value.ref 148) _) _ _ _); (k_dflt (refine' use00 (looks_con ?G _ _ _ _ _ _ _ _ _ _ ?t1) ?F ?N ?st ?d ?u ?h ?o ?_; (case F => k_asm); (case N => k_asm); (case o => walk_at "m_own"); (case st => assumption); (case d => walk_at "m_lvl"); (case u => walk_at "m_lvl"); (case h => assumption); (try (case G => assumption)); (all_goals (try (case t1 => first | omega | decide | assumption))); (all_goals (try (case t2 => first | omega | decide | assumption))); (all_goals (try (case t3 => first | omega | decide | assumption))); (all_goals (try (case t4 => first | omega | decide | assumption))); (all_goals (try (case t5 => first | omega | decide | assumption))); (all_goals (try (case a1 => assumption))); (all_goals (try (case a2 => assumption))); (all_goals (try (case a3 => assumption))); k_whole)); intro h' tk' F' N'; (try dsimp only); (try k_sweep))
  trivial
noncomputable def cntB (f : Nat → Bool) (l : List Nat) : Nat := (l.takeWhile f).length
theorem cnt_lt {f : Nat → Bool} : ∀ {l : List Nat} {i c : Nat}, i ≤ cntB f l → l[i]? = some c → f c = true → i + 1 ≤ cntB f l
  | [], i, c, _, h, _ => by simp at h
  | a :: l, i, c, hi, h, hf => by
    unfold cntB at *
    cases hq : f a with
    | false =>
      simp [List.takeWhile_cons, hq] at hi ⊢
      subst hi
      simp at h; subst h; rw [hq] at hf; cases hf
    | true =>
      simp only [List.takeWhile_cons, hq, if_true, List.length_cons] at hi ⊢
      cases i with
      | zero => walk_at "om"
      | succ i =>
        have := cnt_lt (f := f) (l := l) (i := i) (c := c) (by unfold cntB; walk_at "om") (by simpa using h) hf
        unfold cntB at this; walk_at "om"
theorem cnt_end {f : Nat → Bool} : ∀ {l : List Nat} {i : Nat}, i ≤ cntB f l → (l[i]?).any f = false → i = cntB f l
  | [], i, hi, _ => by simp [cntB] at *; walk_at "om"
  | a :: l, i, hi, h => by
    unfold cntB at *
    cases hq : f a with
    | false => simp [List.takeWhile_cons, hq] at hi ⊢; walk_at "om"
    | true =>
      simp only [List.takeWhile_cons, hq, if_true, List.length_cons] at hi ⊢
      cases i with
      | zero => simp [hq] at h
      | succ i =>
        have := cnt_end (f := f) (l := l) (i := i) (by unfold cntB; walk_at "om") (by simpa using h)
        unfold cntB at this; walk_at "om"
set_option autoImplicit false in
inductive SpJ (w : World) (x dx : Nat) (text : Str) (pl : Nat) (k1 k2 t1 t2 : Tok) (j : Nat) (m₁ : Str → Option Value) (news₁ : List (Addr × Obj)) : Prop
  | mk (i : _) (t : _) (z0 : i ≤ cntB spB (text.cps.toList.drop pl)) (z1 : j = cntB spB (text.cps.toList.drop pl) - i) (z2 : m₁ = (fun y => if y = Str.ofString "begin" then some (Value.int (pl : Int) t2) else List.lookup y [(Str.ofString "self", Value.ref x)])) (z3 : news₁ = [(x, instObj 221 dx), (dx, scD w text ((pl + i : Nat) : Int) k1 k2 t1 t)]) : SpJ w x dx text pl k1 k2 t1 t2 j m₁ news₁
section
variable {prog : Program} {w : World} {mean : ExcName → Option Value} {mg mb : Str → Option Value} {B : Heap} (G : Gd w mean mg mb B)
include G
theorem looks_at_name_con (x dx : Nat) (text : Str) (pl : Nat) (k1 k2 t1 t2 : Tok) (hlen : text.length < 1000000) (hasc : ∀ c ∈ text.cps.toList, c < 128) :
    Con prog w B 55 (.ref 183) [.ref x] [(x, instObj 221 dx), (dx, scD w text pl k1 k2 t1 t2)] [] (fun v new => new = [] ∧ v = .bool (((text.cps.toList[pl]?).map nsB).getD false)) := by
  intro A s R hA hu hh hB hown k
  obtain ⟨ah, ad, af, ag, au⟩ := A
  obtain rfl : ah = none := hh
  have hh : (Around.mk none ad af ag au).handled = none := rfl
  replace hA : ad ≤ _ := hA
  replace hu : au ≤ _ := hu
  refine' enter G (binds := [("self", Value.ref x)]) (rb := [("self", Value.ref x)]) _ hB hown (Nat.le_trans hA (by decide)) ?ho ?hcd ?hb ?hl rfl ?k ?c1 ?c2 ?c3 ?c4
  case ho => k_is
  case hcd => k_is
  case hb => first | exact BindsTo.of_eq rfl | exact binds_K (G.X.keeps hB) rfl (by k_is) rfl rfl rfl
  case hl => exact locs rfl
  case c1 => rfl
  case c2 => rfl
  case c3 => rfl
  case c4 => decide
  case k =>
    intro g L' h₁ m Q tk hg hL hm hQ hQn F N X' T' st
    subst hm
    k_steps
    · rename_i hlt
      have hp : pl < text.cps.toList.length := by simp [Str.length] at hlt; simpa using hlt
      have hc := List.getElem?_eq_getElem hp
      have hc' := hasc _ (List.getElem_mem hp)
      refine text_N (by walk_at "om") (by walk_at "om") hc fun t' => ?_
      k_steps
      refine hQ _ _ ?_
      exact (con_end (s := s) [] k hg (fun q hq => (hown q hq).1) (by assumption) (by assumption) (by walk_at "m_same") (by walk_at "m_new") ⟨rfl, by rw [hc]; rfl⟩)
    · rename_i hlt
      have hp : ¬ pl < text.cps.toList.length := by simp [Str.length] at hlt; simpa using hlt
      refine hQ _ _ ?_
      exact (con_end (s := s) [] k hg (fun q hq => (hown q hq).1) (by assumption) (by assumption) (by walk_at "m_same") (by walk_at "m_new") ⟨rfl, by rw [List.getElem?_eq_none (by walk_at "om")]; rw [decide_eq_false hlt]; rfl⟩)
theorem takes_con (x dx : Nat) (text word : Str) (pl : Nat) (tw k1 k2 t1 t2 : Tok) (hlen : text.length < 1000000) (hw : word.length < 1000000) (hne : dx < x) :
    Con prog w B 55 (.ref 155) [.ref x, .str word tw] [(x, instObj 221 dx), (dx, scD w text pl k1 k2 t1 t2)] [dx]
      (fun v new => ∃ t2', new = [(dx, scD w text ((if Txt.startswith3 text word pl = true then pl + word.length else pl : Nat) : Int) k1 k2 t1 t2')] ∧ v = .bool (Txt.startswith3 text word pl)) := by
  intro A s R hA hu hh hB hown k
  obtain ⟨ah, ad, af, ag, au⟩ := A
  obtain rfl : ah = none := hh
  have hh : (Around.mk none ad af ag au).handled = none := rfl
  replace hA : ad ≤ _ := hA
  replace hu : au ≤ _ := hu
  refine' enter G (binds := [("self", Value.ref x), ("word", Value.str word tw)]) (rb := [("word", Value.str word tw), ("self", Value.ref x)]) _ hB hown (Nat.le_trans hA (by decide)) ?ho ?hcd ?hb ?hl rfl ?k ?c1 ?c2 ?c3 ?c4
  case ho => k_is
  case hcd => k_is
  case hb => first | exact BindsTo.of_eq rfl | exact binds_K (G.X.keeps hB) rfl (by k_is) rfl rfl rfl
  case hl => exact locs rfl
  case c1 => rfl
  case c2 => rfl
  case c3 => rfl
  case c4 => decide
  case k =>
    intro g L' h₁ m Q tk hg hL hm hQ hQn F N X' T' st
    subst hm
    k_steps
    · rename (Txt.startswith3 _ _ _ = true) => hs
      refine hQ _ _ ?_
      exact (con_end (s := s) [(dx, _)] k hg (fun q hq => (hown q hq).1) (by assumption) (by assumption) (by walk_at "m_same") (by walk_at "m_new") ⟨_, by rw [if_pos hs, Int.natCast_add], congrArg Value.bool hs.symm⟩)
    · rename_i hs
      refine hQ _ _ ?_
      exact (con_end (s := s) [(dx, _)] k hg (fun q hq => (hown q hq).1) (by assumption) (by assumption) (by walk_at "m_same") (by walk_at "m_new") ⟨_, by rw [if_neg (by rw [hs]; decide)], congrArg Value.bool hs.symm⟩)
theorem spaces_con (x dx : Nat) (text : Str) (pl : Nat) (k1 k2 t1 t2 : Tok) (hlen : text.length < 1000000) (hne : dx < x) :
    Con prog w B 55 (.ref 169) [.ref x] [(x, instObj 221 dx), (dx, scD w text pl k1 k2 t1 t2)] [dx]
      (fun v new => ∃ t2' tv, new = [(dx, scD w text ((pl + cntB spB (text.cps.toList.drop pl) : Nat) : Int) k1 k2 t1 t2')] ∧ v = .int (cntB spB (text.cps.toList.drop pl) : Nat) tv) := by
  intro A s R hA hu hh hB hown k
  obtain ⟨ah, ad, af, ag, au⟩ := A
  obtain rfl : ah = none := hh
  have hh : (Around.mk none ad af ag au).handled = none := rfl
  replace hA : ad ≤ _ := hA
  replace hu : au ≤ _ := hu
  refine' enter G (binds := [("self", Value.ref x)]) (rb := [("self", Value.ref x)]) _ hB hown (Nat.le_trans hA (by decide)) ?ho ?hcd ?hb ?hl rfl ?k ?c1 ?c2 ?c3 ?c4
  case ho => k_is
  case hcd => k_is
  case hb => first | exact BindsTo.of_eq rfl | exact binds_K (G.X.keeps hB) rfl (by k_is) rfl rfl rfl
  case hl => exact locs rfl
  case c1 => rfl
  case c2 => rfl
  case c3 => rfl
  case c4 => decide
  case k =>
    intro g L' h₁ m Q tk hg hL hm hQ hQn F N X' T' st
    subst hm
    walk1
    walk1
    walk1
    walk1
    walk1
    walk1
    walk1
    refine While_inv2 (fun j m₁ news₁ => SpJ w x dx text pl k1 k2 t1 t2 j m₁ news₁) (by assumption) (by assumption) ⟨0, _, Nat.zero_le _, rfl, rfl, rfl⟩ ?_ PassesOwn.never
    rintro j m₁ news₁ h₂ tk₂ F₂ N₂ ⟨i, t, hi, hj, rfl, rfl⟩
    (try dsimp only)
    k_steps
    · rename_i hlt
      have hp : pl + i < text.cps.toList.length := by simp [Str.length] at hlt; simp; walk_at "om"
      have hc := List.getElem?_eq_getElem hp
      refine text_N (by walk_at "om") (by walk_at "om") hc fun t' => ?_
      have hd' : (text.cps.toList.drop pl)[i]? = some text.cps.toList[pl + i] := by rw [List.getElem?_drop]; exact hc
      k_steps
      · have hsp : spB text.cps.toList[pl + i] = true := by assumption
        have hi' := cnt_lt hi hd' hsp
        exact ws_next (by assumption) (by assumption) (show _ < j by walk_at "om") ⟨i + 1, _, hi', rfl, rfl, by rw [show ((pl + i : Nat) : Int) + 1 = ((pl + (i + 1) : Nat) : Int) from by walk_at "om"]⟩
      · rename_i hsp
        have hi' := cnt_end hi (by rw [hd']; exact hsp)
        subst hi'
        refine hQ _ _ ?_
        exact (con_end (s := s) [(dx, _)] k hg (fun q hq => (hown q hq).1) (by assumption) (by assumption) (by walk_at "m_same") (by walk_at "m_new") ⟨_, _, rfl, by rw [show ((pl + cntB spB (text.cps.toList.drop pl) : Nat) : Int) - (pl : Int) = ((cntB spB (text.cps.toList.drop pl) : Nat) : Int) from by walk_at "om"]⟩)
    · rename_i hlt
      have hp : text.cps.toList.length ≤ pl + i := by simp [Str.length] at hlt; simp; walk_at "om"
      have hi' := cnt_end hi (by rw [List.getElem?_drop, List.getElem?_eq_none hp]; rfl)
      subst hi'
      refine hQ _ _ ?_
      exact (con_end (s := s) [(dx, _)] k hg (fun q hq => (hown q hq).1) (by assumption) (by assumption) (by walk_at "m_same") (by walk_at "m_new") ⟨_, _, rfl, by rw [show ((pl + cntB spB (text.cps.toList.drop pl) : Nat) : Int) - (pl : Int) = ((cntB spB (text.cps.toList.drop pl) : Nat) : Int) from by walk_at "om"]⟩)
end
set_option maxRecDepth 100000
set_option maxHeartbeats 8000000
theorem ln11 : True := by
  k_with_none
  k_with "M subscriptTail Name Constant ref int" => (k_here; (with_reducible show wpAny _ _ (subscriptTail _ _ (Value.ref _) (Value.int _ _)) _ _ _); k_dflt (refine' Mine.item_N ?k0 ?k1 ?k2 ?k3 ?k4 ?_ ?k6; (case k0 => k_asm); (case k1 => k_mem); (case k2 => decide); (case k3 => decide); (case k4 => rfl); (case k6 => with_unfolding_all rfl); k_whole))
  k_with "M m_new" => first | exact List.forall_mem_nil _ | (refine' List.forall_mem_cons.mpr ⟨And.intro ?mzA ?mzB, ?mzC⟩; (case mzA => k_mem); (case mzB => (try dsimp only); first | exact Or.inl (by k_mem) | exact Or.inr (by walk_at "m_all")); (case mzC => walk_at "m_new"))
  k_with "M m_spl" => first | exact Mine.Spl.head | exact (Mine.Spl.tail Mine.Spl.head) | exact (Mine.Spl.tail (Mine.Spl.tail Mine.Spl.head)) | exact (Mine.Spl.tail (Mine.Spl.tail (Mine.Spl.tail Mine.Spl.head))) | exact (Mine.Spl.tail (Mine.Spl.tail (Mine.Spl.tail (Mine.Spl.tail Mine.Spl.head)))) | exact (Mine.Spl.tail (Mine.Spl.tail (Mine.Spl.tail (Mine.Spl.tail (Mine.Spl.tail Mine.Spl.head))))) | exact (Mine.Spl.tail (Mine.Spl.tail (Mine.Spl.tail (Mine.Spl.tail (Mine.Spl.tail (Mine.Spl.tail Mine.Spl.head)))))) | exact (Mine.Spl.tail (Mine.Spl.tail (Mine.Spl.tail (Mine.Spl.tail (Mine.Spl.tail (Mine.Spl.tail (Mine.Spl.tail Mine.Spl.head))))))) | exact (Mine.Spl.tail (Mine.Spl.tail (Mine.Spl.tail (Mine.Spl.tail (Mine.Spl.tail (Mine.Spl.tail (Mine.Spl.tail (Mine.Spl.tail Mine.Spl.head)))))))) | exact (Mine.Spl.tail (Mine.Spl.tail (Mine.Spl.tail (Mine.Spl.tail (Mine.Spl.tail (Mine.Spl.tail (Mine.Spl.tail (Mine.Spl.tail (Mine.Spl.tail Mine.Spl.head))))))))) | exact (Mine.Spl.tail (Mine.Spl.tail (Mine.Spl.tail (Mine.Spl.tail (Mine.Spl.tail (Mine.Spl.tail (Mine.Spl.tail (Mine.Spl.tail (Mine.Spl.tail (Mine.Spl.tail Mine.Spl.head)))))))))) | exact (Mine.Spl.tail (Mine.Spl.tail (Mine.Spl.tail (Mine.Spl.tail (Mine.Spl.tail (Mine.Spl.tail (Mine.Spl.tail (Mine.Spl.tail (Mine.Spl.tail (Mine.Spl.tail (Mine.Spl.tail Mine.Spl.head))))))))))) | exact (Mine.Spl.tail (Mine.Spl.tail (Mine.Spl.tail (Mine.Spl.tail (Mine.Spl.tail (Mine.Spl.tail (Mine.Spl.tail (Mine.Spl.tail (Mine.Spl.tail (Mine.Spl.tail (Mine.Spl.tail (Mine.Spl.tail Mine.Spl.head)))))))))))) | exact (Mine.Spl.tail (Mine.Spl.tail (Mine.Spl.tail (Mine.Spl.tail (Mine.Spl.tail (Mine.Spl.tail (Mine.Spl.tail (Mine.Spl.tail (Mine.Spl.tail (Mine.Spl.tail (Mine.Spl.tail (Mine.Spl.tail (Mine.Spl.tail Mine.Spl.head)))))))))))))
  k_with "M m_own" => first | exact List.forall_mem_nil _ | (refine' List.forall_mem_cons.mpr ⟨?mzA, ?mzB⟩; (case mzA => k_mem); (case mzB => walk_at "m_own"))
  k_with "M m_lvl" => first | exact lv_le 3 rfl (by assumption) rfl | exact lv_le 1 rfl (by assumption) rfl | exact lv_le 0 rfl (by assumption) rfl | exact lv_le 2 rfl (by assumption) rfl | ((try simp only [depth_under_make, depth_under_kw, depth_in1, depth_deeper, units_in1, units_deeper, units_under_make, Around.mark_units]); (try dsimp only); omega)
  k_with "M call builtin:len" => (k_here; (with_reducible show wpAny _ _ (call (Value.builtin "len") [Value.ref _]) _ _ _); k_dflt (refine' Mine.len_N ?k0 ?k1 ?k2 ?_; (case k0 => k_asm); (case k1 => k_mem); (case k2 => (try simp only [List.length_cons, List.length_nil]); omega); k_whole))
  k_with "M m_ne0" => (replace l1 := ne0_of l1; (try simp only [NewNe0, AllNe, and_true, and_assoc] at l1); (repeat (have := And.left l1; replace l1 := And.right l1)))
  k_with "M m_ne1" => (replace l1 := ne1_of l1; (try simp only [NewNe1, AllNe, and_true, true_or, true_and, and_assoc] at l1); (repeat (have := And.left l1; replace l1 := And.right l1)))
  k_with "M exec Raise some none" => (k_here; k_dflt (refine' Mine.raise_stmt ?hh ?_; (case hh => first | rfl | assumption)))
  k_with "M pyIter ref" => ((with_reducible show wpAny _ _ _ (fun it s₂ => UnrAt _ _ _ _ _ _ _ _ _ it s₂) _ _); (k_dflt (refine' Iter_tuple_unr ?hh ?ht ?F ?N ?htL ?_; (case F => k_asm); (case N => k_asm); (case hh => assumption); (case ht => exact News.isTup (by assumption) (by k_mem)); (case htL => exact News.ne_locals (by assumption) (by k_mem)))))
  k_with "M eval Name" => (k_here; (with_reducible show wpAny _ _ (eval (Expr.Name _ _) (envOfC _ _ _ _ _)) _ _ _); k_dflt (refine' nameX_L ?nxF ?nxV ?_; (case nxF => k_asm); (case nxV => rfl); k_whole))
  k_with "M m_sub" => first | exact List.forall_mem_nil _ | (refine' List.forall_mem_cons.mpr ⟨?mzA, ?mzB⟩; (case mzA => k_mem); (case mzB => walk_at "m_sub")) | (intro mzp mzh; k_mem)
  k_with "M m_off" => first | exact True.intro | assumption | (refine And.intro ⟨by k_ne, by k_ne, by k_ne⟩ ?_; walk_at "m_off")
  k_with "M m_same" => first | exact List.forall_mem_nil _ | (refine' List.forall_mem_cons.mpr ⟨?mzA, ?mzB⟩; (case mzA => (try dsimp only); first | exact Or.inl (by k_mem) | exact Or.inr (by k_mem)); (case mzB => walk_at "m_same")) | simp
  k_with "M m_all" => first | exact List.forall_mem_nil _ | (refine' List.forall_mem_cons.mpr ⟨?mzA, ?mzB⟩; (case mzA => k_ne); (case mzB => walk_at "m_all")) | assumption
  k_with "M om" => first | ((repeat (with_reducible rename (_ ≠ _) => hz9; clear hz9)); omega) | omega
  k_with "M m_ltp" => first | with_reducible assumption | (with_reducible rename (_ < _ ∧ _) => hq9; first | with_reducible exact hq9.1 | with_reducible exact hq9.2.1 | with_reducible exact hq9.2.2.1 | with_reducible exact hq9.2.2.2.1 | with_reducible exact hq9.2.2.2.2.1 | with_reducible exact hq9.2.2.2.2.2.1 | with_reducible exact hq9.2 | with_reducible exact hq9.2.2 | with_reducible exact hq9.2.2.2 | with_reducible exact hq9.2.2.2.2 | with_reducible exact hq9.2.2.2.2.2 | (clear hq9; walk_at "m_ltp"))
  k_with "M m_nel" => first | exact Nat.ne_of_lt (by walk_at "m_ltp") | exact Nat.ne_of_gt (by walk_at "m_ltp") | exact ne_lt_k 1 rfl (by walk_at "m_ltp") | exact ne_lt_k 2 rfl (by walk_at "m_ltp") | exact ne_lt_k 3 rfl (by walk_at "m_ltp") | exact ne_lt_k 4 rfl (by walk_at "m_ltp") | exact ne_gt_k 1 rfl (by walk_at "m_ltp") | exact ne_gt_k 2 rfl (by walk_at "m_ltp") | exact ne_gt_k 3 rfl (by walk_at "m_ltp") | exact ne_gt_k 4 rfl (by walk_at "m_ltp")
  k_with "M execs cons" => (k_here; (try k_gentoks); (with_reducible refine wpAny_execs_cons ?_); (try k_fold); (try dsimp only))
  k_with "M call ref" => (k_here; (with_reducible show wpAny _ _ (call (Value.ref 66) _) _ _ _); (k_dflt (refine' use00 (is_name_start_con ?G _ _ ?t1) ?F ?N ?st ?d ?u ?h ?o ?_; (case F => k_asm); (case N => k_asm); (case o => walk_at "m_own"); (case st => assumption); (case d => walk_at "m_lvl"); (case u => walk_at "m_lvl"); (case h => assumption); (try (case G => assumption)); (all_goals (try (case t1 => first | omega | decide | assumption))); (all_goals (try (case t2 => first | omega | decide | assumption))); (all_goals (try (case t3 => first | omega | decide | assumption))); (all_goals (try (case t4 => first | omega | decide | assumption))); (all_goals (try (case t5 => first | omega | decide | assumption))); (all_goals (try (case a1 => assumption))); (all_goals (try (case a2 => assumption))); (all_goals (try (case a3 => assumption))); k_whole)); intro h' tk' F' N'; (try dsimp only); (try k_sweep))
  k_with "M call ref" => (k_here; (with_reducible show wpAny _ _ (call (Value.ref 73) _) _ _ _); (k_dflt (refine' use00 (is_name_char_con ?G _ _ ?t1) ?F ?N ?st ?d ?u ?h ?o ?_; (case F => k_asm); (case N => k_asm); (case o => walk_at "m_own"); (case st => assumption); (case d => walk_at "m_lvl"); (case u => walk_at "m_lvl"); (case h => assumption); (try (case G => assumption)); (all_goals (try (case t1 => first | omega | decide | assumption))); (all_goals (try (case t2 => first | omega | decide | assumption))); (all_goals (try (case t3 => first | omega | decide | assumption))); (all_goals (try (case t4 => first | omega | decide | assumption))); (all_goals (try (case t5 => first | omega | decide | assumption))); (all_goals (try (case a1 => assumption))); (all_goals (try (case a2 => assumption))); (all_goals (try (case a3 => assumption))); k_whole)); intro h' tk' F' N'; (try dsimp only); (try k_sweep))
  k_with "M call ref" => (k_here; (with_reducible show wpAny _ _ (call (Value.ref 52) _) _ _ _); (k_dflt (refine' use00 (is_space_con ?G _ _) ?F ?N ?st ?d ?u ?h ?o ?_; (case F => k_asm); (case N => k_asm); (case o => walk_at "m_own"); (case st => assumption); (case d => walk_at "m_lvl"); (case u => walk_at "m_lvl"); (case h => assumption); (try (case G => assumption)); (all_goals (try (case t1 => first | omega | decide | assumption))); (all_goals (try (case t2 => first | omega | decide | assumption))); (all_goals (try (case t3 => first | omega | decide | assumption))); (all_goals (try (case t4 => first | omega | decide | assumption))); (all_goals (try (case t5 => first | omega | decide | assumption))); (all_goals (try (case a1 => assumption))); (all_goals (try (case a2 => assumption))); (all_goals (try (case a3 => assumption))); k_whole)); intro h' tk' F' N'; (try dsimp only); (try k_sweep))
  k_with "M call ref" => (k_here; (with_reducible show wpAny _ _ (call (Value.ref 141) _) _ _ _); (k_dflt (refine' use00 (is_over_con ?G _ _ _ _ _ _ _ _ ?t1) ?F ?N ?st ?d ?u ?h ?o ?_; (case F => k_asm); (case N => k_asm); (case o => walk_at "m_own"); (case st => assumption); (case d => walk_at "m_lvl"); (case u => walk_at "m_lvl"); (case h => assumption); (try (case G => assumption)); (all_goals (try (case t1 => first | omega | decide | assumption))); (all_goals (try (case t2 => first | omega | decide | assumption))); (all_goals (try (case t3 => first | omega | decide | assumption))); (all_goals (try (case t4 => first | omega | decide | assumption))); (all_goals (try (case t5 => first | omega | decide | assumption))); (all_goals (try (case a1 => assumption))); (all_goals (try (case a2 => assumption))); (all_goals (try (case a3 => assumption))); k_whole)); intro h' tk' F' N'; (try dsimp only); (try k_sweep))
  k_with "M call ref" => (k_here; (with_reducible show wpAny _ _ (call (Value.ref 148) _) _ _ _); (k_dflt (refine' use00 (looks_con ?G _ _ _ _ _ _ _ _ _ _ ?t1) ?F ?N ?st ?d ?u ?h ?o ?_; (case F => k_asm); (case N => k_asm); (case o => walk_at "m_own"); (case st => assumption); (case d => walk_at "m_lvl"); (case u => walk_at "m_lvl"); (case h => assumption); (try (case G => assumption)); (all_goals (try (case t1 => first | omega | decide | assumption))); (all_goals (try (case t2 => first | omega | decide | assumption))); (all_goals (try (case t3 => first | omega | decide | assumption))); (all_goals (try (case t4 => first | omega | decide | assumption))); (all_goals (try (case t5 => first | omega | decide | assumption))); (all_goals (try (case a1 => assumption))); (all_goals (try (case a2 => assumption))); (all_goals (try (case a3 => assumption))); k_whole)); intro h' tk' F' N'; (try dsimp only); (try k_sweep))
  k_with "M call ref" => (k_here; (with_reducible show wpAny _ _ (call (Value.ref 183) _) _ _ _); (k_dflt (refine' use00 (looks_at_name_con ?G _ _ _ _ _ _ _ _ ?t1 ?a1) ?F ?N ?st ?d ?u ?h ?o ?_; (case F => k_asm); (case N => k_asm); (case o => walk_at "m_own"); (case st => assumption); (case d => walk_at "m_lvl"); (case u => walk_at "m_lvl"); (case h => assumption); (try (case G => assumption)); (all_goals (try (case t1 => first | omega | decide | assumption))); (all_goals (try (case t2 => first | omega | decide | assumption))); (all_goals (try (case t3 => first | omega | decide | assumption))); (all_goals (try (case t4 => first | omega | decide | assumption))); (all_goals (try (case t5 => first | omega | decide | assumption))); (all_goals (try (case a1 => assumption))); (all_goals (try (case a2 => assumption))); (all_goals (try (case a3 => assumption))); k_whole)); intro h' tk' F' N'; (try dsimp only); (try k_sweep))
  k_with "M call ref" => (k_here; (with_reducible show wpAny _ _ (call (Value.ref 155) _) _ _ _); (k_dflt (refine' use11 (takes_con ?G _ _ _ _ _ _ _ _ _ _ ?t1 ?t2 ?t3) ?F ?N ?st ?d ?u ?h ?o ?sp ?ne ?_; (case F => k_asm); (case N => k_asm); (case o => walk_at "m_own"); (case sp => walk_at "m_spl"); (case ne => walk_at "m_all"); (case st => assumption); (case d => walk_at "m_lvl"); (case u => walk_at "m_lvl"); (case h => assumption); (try (case G => assumption)); (all_goals (try (case t1 => first | omega | decide | assumption))); (all_goals (try (case t2 => first | omega | decide | assumption))); (all_goals (try (case t3 => first | omega | decide | assumption))); (all_goals (try (case t4 => first | omega | decide | assumption))); (all_goals (try (case t5 => first | omega | decide | assumption))); (all_goals (try (case a1 => assumption))); (all_goals (try (case a2 => assumption))); (all_goals (try (case a3 => assumption))); k_whole)); intro t2' h' tk' F' N'; (try dsimp only); (try k_sweep))
  k_with "M call ref" => (k_here; (with_reducible show wpAny _ _ (call (Value.ref 169) _) _ _ _); (k_dflt (refine' use12 (spaces_con ?G _ _ _ _ _ _ _ _ ?t1 ?t2) ?F ?N ?st ?d ?u ?h ?o ?sp ?ne ?_; (case F => k_asm); (case N => k_asm); (case o => walk_at "m_own"); (case sp => walk_at "m_spl"); (case ne => walk_at "m_all"); (case st => assumption); (case d => walk_at "m_lvl"); (case u => walk_at "m_lvl"); (case h => assumption); (try (case G => assumption)); (all_goals (try (case t1 => first | omega | decide | assumption))); (all_goals (try (case t2 => first | omega | decide | assumption))); (all_goals (try (case t3 => first | omega | decide | assumption))); (all_goals (try (case t4 => first | omega | decide | assumption))); (all_goals (try (case t5 => first | omega | decide | assumption))); (all_goals (try (case a1 => assumption))); (all_goals (try (case a2 => assumption))); (all_goals (try (case a3 => assumption))); k_whole)); intro t2' tv' h' tk' F' N'; (try dsimp only); (try k_sweep))
  trivial
noncomputable def sub (text : Str) (i j : Nat) : Str := ⟨((text.cps.toList.drop i).take (j - i)).toArray⟩
theorem slice_sub (text : Str) {i j : Nat} (h : i ≤ j) (h2 : j ≤ text.length) : Txt.slice text (some (i : Int)) (some (j : Int)) = sub text i j := StrLaws.sliceText_nat text h h2
theorem cnt_le (f : Nat → Bool) (l : List Nat) : cntB f l ≤ l.length := by unfold cntB; exact (List.takeWhile_prefix f).length_le
theorem cnt_drop (f : Nat → Bool) (text : Str) (pl : Nat) (h : 0 < cntB f (text.cps.toList.drop pl)) : pl + cntB f (text.cps.toList.drop pl) ≤ text.length := by
  have := cnt_le f (text.cps.toList.drop pl)
  simp [Str.length] at this ⊢
  walk_at "om"
set_option autoImplicit false in
inductive ToJ (w : World) (x dx : Nat) (text : Str) (pl : Nat) (k1 k2 t1 t2 : Tok) (j : Nat) (m₁ : Str → Option Value) (news₁ : List (Addr × Obj)) : Prop
  | mk (i : _) (t : _) (z0 : i ≤ cntB ncB (text.cps.toList.drop pl)) (z1 : j = cntB ncB (text.cps.toList.drop pl) - i) (z2 : m₁ = (fun y => if y = Str.ofString "begin" then some (Value.int (pl : Int) t2) else List.lookup y [(Str.ofString "self", Value.ref x)])) (z3 : news₁ = [(x, instObj 221 dx), (dx, scD w text ((pl + i : Nat) : Int) k1 k2 t1 t)]) : ToJ w x dx text pl k1 k2 t1 t2 j m₁ news₁
section
variable {prog : Program} {w : World} {mean : ExcName → Option Value} {mg mb : Str → Option Value} {B : Heap} (G : Gd w mean mg mb B)
include G
theorem token_con (x dx : Nat) (text : Str) (pl : Nat) (k1 k2 t1 t2 : Tok) (hlen : text.length < 1000000) (hne : dx < x) (hasc : ∀ c ∈ text.cps.toList, c < 128) (hpos : 0 < cntB ncB (text.cps.toList.drop pl)) :
    Con prog w B 54 (.ref 190) [.ref x] [(x, instObj 221 dx), (dx, scD w text pl k1 k2 t1 t2)] [dx]
      (fun v new => ∃ t2' tv, new = [(dx, scD w text ((pl + cntB ncB (text.cps.toList.drop pl) : Nat) : Int) k1 k2 t1 t2')] ∧ v = .str (sub text pl (pl + cntB ncB (text.cps.toList.drop pl))) tv) := by
  intro A s R hA hu hh hB hown k
  obtain ⟨ah, ad, af, ag, au⟩ := A
  obtain rfl : ah = none := hh
  have hh : (Around.mk none ad af ag au).handled = none := rfl
  replace hA : ad ≤ _ := hA
  replace hu : au ≤ _ := hu
  refine' enter G (binds := [("self", Value.ref x)]) (rb := [("self", Value.ref x)]) _ hB hown (Nat.le_trans hA (by decide)) ?ho ?hcd ?hb ?hl rfl ?k ?c1 ?c2 ?c3 ?c4
  case ho => k_is
  case hcd => k_is
  case hb => first | exact BindsTo.of_eq rfl | exact binds_K (G.X.keeps hB) rfl (by k_is) rfl rfl rfl
  case hl => exact locs rfl
  case c1 => rfl
  case c2 => rfl
  case c3 => rfl
  case c4 => decide
  case k =>
    intro g L' h₁ m Q tk hg hL hm hQ hQn F N X' T' st
    subst hm
    walk1
    walk1
    walk1
    walk1
    walk1
    walk1
    walk1
    refine While_inv2 (fun j m₁ news₁ => ToJ w x dx text pl k1 k2 t1 t2 j m₁ news₁) (by assumption) (by assumption) ⟨0, _, Nat.zero_le _, rfl, rfl, rfl⟩ ?_ PassesOwn.never
    rintro j m₁ news₁ h₂ tk₂ F₂ N₂ ⟨i, t, hi, hj, rfl, rfl⟩
    (try dsimp only)
    by_cases hp : pl + i < text.length
    · have hp' : pl + i < text.cps.toList.length := by simpa [Str.length] using hp
      have hc := List.getElem?_eq_getElem hp'
      have hc' := hasc _ (List.getElem_mem hp')
      have hd' : (text.cps.toList.drop pl)[i]? = some text.cps.toList[pl + i] := by rw [List.getElem?_drop]; exact hc
      generalize text.cps.toList[pl + i] = c at hc hc' hd'
      cases hnc : ncB c with
      | true =>
        have hi' := cnt_lt hi hd' hnc
        k_steps
        refine text_N (by walk_at "om") (by walk_at "om") hc fun t' => ?_
        k_steps
        exact ws_next (by assumption) (by assumption) (show _ < j by walk_at "om") ⟨i + 1, _, hi', rfl, rfl, by rw [show ((pl + i : Nat) : Int) + 1 = ((pl + (i + 1) : Nat) : Int) from by walk_at "om"]⟩
      | false =>
        have hi' := cnt_end hi (by rw [hd']; exact hnc)
        subst hi'
        k_steps
        refine text_N (by walk_at "om") (by walk_at "om") hc fun t' => ?_
        k_steps
        · exfalso; walk_at "om"
        · refine hQ _ _ ?_
          exact (con_end (s := s) [(dx, _)] k hg (fun q hq => (hown q hq).1) (by assumption) (by assumption) (by walk_at "m_same") (by walk_at "m_new") ⟨_, _, rfl, congrArg (Value.str · _) (slice_sub text (by walk_at "om") (cnt_drop _ _ _ hpos))⟩)
    · have hp' : text.cps.toList.length ≤ pl + i := by simp [Str.length] at hp; simp; walk_at "om"
      have hi' := cnt_end hi (by rw [List.getElem?_drop, List.getElem?_eq_none hp']; rfl)
      subst hi'
      k_steps
      · exfalso; walk_at "om"
      · refine hQ _ _ ?_
        exact (con_end (s := s) [(dx, _)] k hg (fun q hq => (hown q hq).1) (by assumption) (by assumption) (by walk_at "m_same") (by walk_at "m_new") ⟨_, _, rfl, congrArg (Value.str · _) (slice_sub text (by walk_at "om") (cnt_drop _ _ _ hpos))⟩)
theorem until_con (x dx : Nat) (text word : Str) (pl e : Nat) (tw k1 k2 t1 t2 : Tok) (hlen : text.length < 1000000) (hw : word.length < 1000000) (hne : dx < x) (hf : Txt.find3 text word pl = (e : Int)) (h1 : pl ≤ e) (h2 : e ≤ text.length) :
    Con prog w B 54 (.ref 204) [.ref x, .str word tw] [(x, instObj 221 dx), (dx, scD w text pl k1 k2 t1 t2)] [dx]
      (fun v new => ∃ t2' tv, new = [(dx, scD w text ((e + word.length : Nat) : Int) k1 k2 t1 t2')] ∧ v = .str (sub text pl e) tv) := by
  intro A s R hA hu hh hB hown k
  obtain ⟨ah, ad, af, ag, au⟩ := A
  obtain rfl : ah = none := hh
  have hh : (Around.mk none ad af ag au).handled = none := rfl
  replace hA : ad ≤ _ := hA
  replace hu : au ≤ _ := hu
  refine' enter G (binds := [("self", Value.ref x), ("word", Value.str word tw)]) (rb := [("word", Value.str word tw), ("self", Value.ref x)]) _ hB hown (Nat.le_trans hA (by decide)) ?ho ?hcd ?hb ?hl rfl ?k ?c1 ?c2 ?c3 ?c4
  case ho => k_is
  case hcd => k_is
  case hb => first | exact BindsTo.of_eq rfl | exact binds_K (G.X.keeps hB) rfl (by k_is) rfl rfl rfl
  case hl => exact locs rfl
  case c1 => rfl
  case c2 => rfl
  case c3 => rfl
  case c4 => decide
  case k =>
    intro g L' h₁ m Q tk hg hL hm hQ hQn F N X' T' st
    subst hm
    k_steps
    refine hQ _ _ ?_
    exact (con_end (s := s) [(dx, _)] k hg (fun q hq => (hown q hq).1) (by assumption) (by assumption) (by walk_at "m_same") (by walk_at "m_new") ⟨_, _, by rw [hf, Int.natCast_add], congrArg (Value.str · _) (by rw [hf]; exact slice_sub text h1 h2)⟩)
end
set_option maxRecDepth 100000
set_option maxHeartbeats 8000000
theorem ln12 : True := by
  k_with_none
  k_with "M subscriptTail Name Constant ref int" => (k_here; (with_reducible show wpAny _ _ (subscriptTail _ _ (Value.ref _) (Value.int _ _)) _ _ _); k_dflt (refine' Mine.item_N ?k0 ?k1 ?k2 ?k3 ?k4 ?_ ?k6; (case k0 => k_asm); (case k1 => k_mem); (case k2 => decide); (case k3 => decide); (case k4 => rfl); (case k6 => with_unfolding_all rfl); k_whole))
  k_with "M m_new" => first | exact List.forall_mem_nil _ | (refine' List.forall_mem_cons.mpr ⟨And.intro ?mzA ?mzB, ?mzC⟩; (case mzA => k_mem); (case mzB => (try dsimp only); first | exact Or.inl (by k_mem) | exact Or.inr (by walk_at "m_all")); (case mzC => walk_at "m_new"))
  k_with "M m_spl" => first | exact Mine.Spl.head | exact (Mine.Spl.tail Mine.Spl.head) | exact (Mine.Spl.tail (Mine.Spl.tail Mine.Spl.head)) | exact (Mine.Spl.tail (Mine.Spl.tail (Mine.Spl.tail Mine.Spl.head))) | exact (Mine.Spl.tail (Mine.Spl.tail (Mine.Spl.tail (Mine.Spl.tail Mine.Spl.head)))) | exact (Mine.Spl.tail (Mine.Spl.tail (Mine.Spl.tail (Mine.Spl.tail (Mine.Spl.tail Mine.Spl.head))))) | exact (Mine.Spl.tail (Mine.Spl.tail (Mine.Spl.tail (Mine.Spl.tail (Mine.Spl.tail (Mine.Spl.tail Mine.Spl.head)))))) | exact (Mine.Spl.tail (Mine.Spl.tail (Mine.Spl.tail (Mine.Spl.tail (Mine.Spl.tail (Mine.Spl.tail (Mine.Spl.tail Mine.Spl.head))))))) | exact (Mine.Spl.tail (Mine.Spl.tail (Mine.Spl.tail (Mine.Spl.tail (Mine.Spl.tail (Mine.Spl.tail (Mine.Spl.tail (Mine.Spl.tail Mine.Spl.head)))))))) | exact (Mine.Spl.tail (Mine.Spl.tail (Mine.Spl.tail (Mine.Spl.tail (Mine.Spl.tail (Mine.Spl.tail (Mine.Spl.tail (Mine.Spl.tail (Mine.Spl.tail Mine.Spl.head))))))))) | exact (Mine.Spl.tail (Mine.Spl.tail (Mine.Spl.tail (Mine.Spl.tail (Mine.Spl.tail (Mine.Spl.tail (Mine.Spl.tail (Mine.Spl.tail (Mine.Spl.tail (Mine.Spl.tail Mine.Spl.head)))))))))) | exact (Mine.Spl.tail (Mine.Spl.tail (Mine.Spl.tail (Mine.Spl.tail (Mine.Spl.tail (Mine.Spl.tail (Mine.Spl.tail (Mine.Spl.tail (Mine.Spl.tail (Mine.Spl.tail (Mine.Spl.tail Mine.Spl.head))))))))))) | exact (Mine.Spl.tail (Mine.Spl.tail (Mine.Spl.tail (Mine.Spl.tail (Mine.Spl.tail (Mine.Spl.tail (Mine.Spl.tail (Mine.Spl.tail (Mine.Spl.tail (Mine.Spl.tail (Mine.Spl.tail (Mine.Spl.tail Mine.Spl.head)))))))))))) | exact (Mine.Spl.tail (Mine.Spl.tail (Mine.Spl.tail (Mine.Spl.tail (Mine.Spl.tail (Mine.Spl.tail (Mine.Spl.tail (Mine.Spl.tail (Mine.Spl.tail (Mine.Spl.tail (Mine.Spl.tail (Mine.Spl.tail (Mine.Spl.tail Mine.Spl.head)))))))))))))
  k_with "M m_own" => first | exact List.forall_mem_nil _ | (refine' List.forall_mem_cons.mpr ⟨?mzA, ?mzB⟩; (case mzA => k_mem); (case mzB => walk_at "m_own"))
  k_with "M m_lvl" => first | exact lv_le 3 rfl (by assumption) rfl | exact lv_le 1 rfl (by assumption) rfl | exact lv_le 0 rfl (by assumption) rfl | exact lv_le 2 rfl (by assumption) rfl | ((try simp only [depth_under_make, depth_under_kw, depth_in1, depth_deeper, units_in1, units_deeper, units_under_make, Around.mark_units]); (try dsimp only); omega)
  k_with "M call builtin:len" => (k_here; (with_reducible show wpAny _ _ (call (Value.builtin "len") [Value.ref _]) _ _ _); k_dflt (refine' Mine.len_N ?k0 ?k1 ?k2 ?_; (case k0 => k_asm); (case k1 => k_mem); (case k2 => (try simp only [List.length_cons, List.length_nil]); omega); k_whole))
  k_with "M m_ne0" => (replace l1 := ne0_of l1; (try simp only [NewNe0, AllNe, and_true, and_assoc] at l1); (repeat (have := And.left l1; replace l1 := And.right l1)))
  k_with "M m_ne1" => (replace l1 := ne1_of l1; (try simp only [NewNe1, AllNe, and_true, true_or, true_and, and_assoc] at l1); (repeat (have := And.left l1; replace l1 := And.right l1)))
  k_with "M exec Raise some none" => (k_here; k_dflt (refine' Mine.raise_stmt ?hh ?_; (case hh => first | rfl | assumption)))
  k_with "M pyIter ref" => ((with_reducible show wpAny _ _ _ (fun it s₂ => UnrAt _ _ _ _ _ _ _ _ _ it s₂) _ _); (k_dflt (refine' Iter_tuple_unr ?hh ?ht ?F ?N ?htL ?_; (case F => k_asm); (case N => k_asm); (case hh => assumption); (case ht => exact News.isTup (by assumption) (by k_mem)); (case htL => exact News.ne_locals (by assumption) (by k_mem)))))
  k_with "M eval Name" => (k_here; (with_reducible show wpAny _ _ (eval (Expr.Name _ _) (envOfC _ _ _ _ _)) _ _ _); k_dflt (refine' nameX_L ?nxF ?nxV ?_; (case nxF => k_asm); (case nxV => rfl); k_whole))
  k_with "M m_sub" => first | exact List.forall_mem_nil _ | (refine' List.forall_mem_cons.mpr ⟨?mzA, ?mzB⟩; (case mzA => k_mem); (case mzB => walk_at "m_sub")) | (intro mzp mzh; k_mem)
  k_with "M m_off" => first | exact True.intro | assumption | (refine And.intro ⟨by k_ne, by k_ne, by k_ne⟩ ?_; walk_at "m_off")
  k_with "M m_same" => first | exact List.forall_mem_nil _ | (refine' List.forall_mem_cons.mpr ⟨?mzA, ?mzB⟩; (case mzA => (try dsimp only); first | exact Or.inl (by k_mem) | exact Or.inr (by k_mem)); (case mzB => walk_at "m_same")) | simp
  k_with "M m_all" => first | exact List.forall_mem_nil _ | (refine' List.forall_mem_cons.mpr ⟨?mzA, ?mzB⟩; (case mzA => k_ne); (case mzB => walk_at "m_all")) | assumption
  k_with "M om" => first | ((repeat (with_reducible rename (_ ≠ _) => hz9; clear hz9)); omega) | omega
  k_with "M m_ltp" => first | with_reducible assumption | (with_reducible rename (_ < _ ∧ _) => hq9; first | with_reducible exact hq9.1 | with_reducible exact hq9.2.1 | with_reducible exact hq9.2.2.1 | with_reducible exact hq9.2.2.2.1 | with_reducible exact hq9.2.2.2.2.1 | with_reducible exact hq9.2.2.2.2.2.1 | with_reducible exact hq9.2 | with_reducible exact hq9.2.2 | with_reducible exact hq9.2.2.2 | with_reducible exact hq9.2.2.2.2 | with_reducible exact hq9.2.2.2.2.2 | (clear hq9; walk_at "m_ltp"))
  k_with "M m_nel" => first | exact Nat.ne_of_lt (by walk_at "m_ltp") | exact Nat.ne_of_gt (by walk_at "m_ltp") | exact ne_lt_k 1 rfl (by walk_at "m_ltp") | exact ne_lt_k 2 rfl (by walk_at "m_ltp") | exact ne_lt_k 3 rfl (by walk_at "m_ltp") | exact ne_lt_k 4 rfl (by walk_at "m_ltp") | exact ne_gt_k 1 rfl (by walk_at "m_ltp") | exact ne_gt_k 2 rfl (by walk_at "m_ltp") | exact ne_gt_k 3 rfl (by walk_at "m_ltp") | exact ne_gt_k 4 rfl (by walk_at "m_ltp")
  k_with "M execs cons" => (k_here; (try k_gentoks); (with_reducible refine wpAny_execs_cons ?_); (try k_fold); (try dsimp only))
  k_with "M call ref" => (k_here; (with_reducible show wpAny _ _ (call (Value.ref 66) _) _ _ _); (k_dflt (refine' use00 (is_name_start_con ?G _ _ ?t1) ?F ?N ?st ?d ?u ?h ?o ?_; (case F => k_asm); (case N => k_asm); (case o => walk_at "m_own"); (case st => assumption); (case d => walk_at "m_lvl"); (case u => walk_at "m_lvl"); (case h => assumption); (try (case G => assumption)); (all_goals (try (case t1 => first | omega | decide | assumption))); (all_goals (try (case t2 => first | omega | decide | assumption))); (all_goals (try (case t3 => first | omega | decide | assumption))); (all_goals (try (case t4 => first | omega | decide | assumption))); (all_goals (try (case t5 => first | omega | decide | assumption))); (all_goals (try (case a1 => assumption))); (all_goals (try (case a2 => assumption))); (all_goals (try (case a3 => assumption))); k_whole)); intro h' tk' F' N'; (try dsimp only); (try k_sweep))
  k_with "M call ref" => (k_here; (with_reducible show wpAny _ _ (call (Value.ref 73) _) _ _ _); (k_dflt (refine' use00 (is_name_char_con ?G _ _ ?t1) ?F ?N ?st ?d ?u ?h ?o ?_; (case F => k_asm); (case N => k_asm); (case o => walk_at "m_own"); (case st => assumption); (case d => walk_at "m_lvl"); (case u => walk_at "m_lvl"); (case h => assumption); (try (case G => assumption)); (all_goals (try (case t1 => first | omega | decide | assumption))); (all_goals (try (case t2 => first | omega | decide | assumption))); (all_goals (try (case t3 => first | omega | decide | assumption))); (all_goals (try (case t4 => first | omega | decide | assumption))); (all_goals (try (case t5 => first | omega | decide | assumption))); (all_goals (try (case a1 => assumption))); (all_goals (try (case a2 => assumption))); (all_goals (try (case a3 => assumption))); k_whole)); intro h' tk' F' N'; (try dsimp only); (try k_sweep))
  k_with "M call ref" => (k_here; (with_reducible show wpAny _ _ (call (Value.ref 52) _) _ _ _); (k_dflt (refine' use00 (is_space_con ?G _ _) ?F ?N ?st ?d ?u ?h ?o ?_; (case F => k_asm); (case N => k_asm); (case o => walk_at "m_own"); (case st => assumption); (case d => walk_at "m_lvl"); (case u => walk_at "m_lvl"); (case h => assumption); (try (case G => assumption)); (all_goals (try (case t1 => first | omega | decide | assumption))); (all_goals (try (case t2 => first | omega | decide | assumption))); (all_goals (try (case t3 => first | omega | decide | assumption))); (all_goals (try (case t4 => first | omega | decide | assumption))); (all_goals (try (case t5 => first | omega | decide | assumption))); (all_goals (try (case a1 => assumption))); (all_goals (try (case a2 => assumption))); (all_goals (try (case a3 => assumption))); k_whole)); intro h' tk' F' N'; (try dsimp only); (try k_sweep))
  k_with "M call ref" => (k_here; (with_reducible show wpAny _ _ (call (Value.ref 141) _) _ _ _); (k_dflt (refine' use00 (is_over_con ?G _ _ _ _ _ _ _ _ ?t1) ?F ?N ?st ?d ?u ?h ?o ?_; (case F => k_asm); (case N => k_asm); (case o => walk_at "m_own"); (case st => assumption); (case d => walk_at "m_lvl"); (case u => walk_at "m_lvl"); (case h => assumption); (try (case G => assumption)); (all_goals (try (case t1 => first | omega | decide | assumption))); (all_goals (try (case t2 => first | omega | decide | assumption))); (all_goals (try (case t3 => first | omega | decide | assumption))); (all_goals (try (case t4 => first | omega | decide | assumption))); (all_goals (try (case t5 => first | omega | decide | assumption))); (all_goals (try (case a1 => assumption))); (all_goals (try (case a2 => assumption))); (all_goals (try (case a3 => assumption))); k_whole)); intro h' tk' F' N'; (try dsimp only); (try k_sweep))
  k_with "M call ref" => (k_here; (with_reducible show wpAny _ _ (call (Value.ref 148) _) _ _ _); (k_dflt (refine' use00 (looks_con ?G _ _ _ _ _ _ _ _ _ _ ?t1) ?F ?N ?st ?d ?u ?h ?o ?_; (case F => k_asm); (case N => k_asm); (case o => walk_at "m_own"); (case st => assumption); (case d => walk_at "m_lvl"); (case u => walk_at "m_lvl"); (case h => assumption); (try (case G => assumption)); (all_goals (try (case t1 => first | omega | decide | assumption))); (all_goals (try (case t2 => first | omega | decide | assumption))); (all_goals (try (case t3 => first | omega | decide | assumption))); (all_goals (try (case t4 => first | omega | decide | assumption))); (all_goals (try (case t5 => first | omega | decide | assumption))); (all_goals (try (case a1 => assumption))); (all_goals (try (case a2 => assumption))); (all_goals (try (case a3 => assumption))); k_whole)); intro h' tk' F' N'; (try dsimp only); (try k_sweep))
  k_with "M call ref" => (k_here; (with_reducible show wpAny _ _ (call (Value.ref 134) _) _ _ _); (k_dflt (refine' con_use0 (fault_con ?G _ _ _ _ _ _ _ _ _ _) ?F ?N ?st ?d ?u ?h ?o ?_; (case F => k_asm); (case N => k_asm); (case o => walk_at "m_own"); (case st => assumption); (case d => walk_at "m_lvl"); (case u => walk_at "m_lvl"); (case h => assumption); (try (case G => assumption)); (all_goals (try (case t1 => first | omega | decide | assumption))); (all_goals (try (case t2 => first | omega | decide | assumption))); (all_goals (try (case t3 => first | omega | decide | assumption))); (all_goals (try (case t4 => first | omega | decide | assumption))); (all_goals (try (case t5 => first | omega | decide | assumption))); (all_goals (try (case a1 => assumption))); (all_goals (try (case a2 => assumption))); (all_goals (try (case a3 => assumption))); k_whole)); intro v new h' tk' hV F' N' l1; obtain ⟨e1, d1, t1', k1', t2', k3', t3', e', hv', hne1⟩ := hV; subst e'; subst hv'; (try simp only [List.nil_append, List.cons_append] at N'); walk_at "m_ne0"; (try dsimp only); (try k_sweep))
  trivial
theorem cnt0 {f : Nat → Bool} {l : List Nat} {p : Nat} (h : ((l[p]?).map f).getD false = false) : cntB f (l.drop p) = 0 := by
  unfold cntB
  cases e : l.drop p with
  | nil => rfl
  | cons a r =>
    have : l[p]? = some a := by rw [← List.head?_drop, e]; rfl
    rw [this] at h
    simp at h
    simp [List.takeWhile_cons, h]
section
variable {prog : Program} {w : World} {mean : ExcName → Option Value} {mg mb : Str → Option Value} {B : Heap} (G : Gd w mean mg mb B)
include G
theorem takesF_con (x dx : Nat) (text word : Str) (pl : Nat) (tw k1 k2 t1 t2 : Tok) (hlen : text.length < 1000000) (hw : word.length < 1000000) (hne : dx < x) (hs : Txt.startswith3 text word pl = false) :
    Con prog w B 56 (.ref 155) [.ref x, .str word tw] [(x, instObj 221 dx), (dx, scD w text pl k1 k2 t1 t2)] [] (fun v new => new = [] ∧ v = .bool false) := by
  intro A s R hA hu hh hB hown k
  obtain ⟨ah, ad, af, ag, au⟩ := A
  obtain rfl : ah = none := hh
  have hh : (Around.mk none ad af ag au).handled = none := rfl
  replace hA : ad ≤ _ := hA
  replace hu : au ≤ _ := hu
  refine' enter G (binds := [("self", Value.ref x), ("word", Value.str word tw)]) (rb := [("word", Value.str word tw), ("self", Value.ref x)]) _ hB hown (Nat.le_trans hA (by decide)) ?ho ?hcd ?hb ?hl rfl ?k ?c1 ?c2 ?c3 ?c4
  case ho => k_is
  case hcd => k_is
  case hb => first | exact BindsTo.of_eq rfl | exact binds_K (G.X.keeps hB) rfl (by k_is) rfl rfl rfl
  case hl => exact locs rfl
  case c1 => rfl
  case c2 => rfl
  case c3 => rfl
  case c4 => decide
  case k =>
    intro g L' h₁ m Q tk hg hL hm hQ hQn F N X' T' st
    subst hm
    k_steps
    refine hQ _ _ ?_
    exact (con_end (s := s) [] k hg (fun q hq => (hown q hq).1) (by assumption) (by assumption) (by walk_at "m_same") (by walk_at "m_new") ⟨rfl, rfl⟩)
theorem spaces0_con (x dx : Nat) (text : Str) (pl : Nat) (k1 k2 t1 t2 : Tok) (hlen : text.length < 1000000) (hne : dx < x) (hs : ((text.cps.toList[pl]?).map spB).getD false = false) :
    Con prog w B 55 (.ref 169) [.ref x] [(x, instObj 221 dx), (dx, scD w text pl k1 k2 t1 t2)] [] (fun v new => ∃ tv, new = [] ∧ v = .int 0 tv) := by
  intro A s R hA hu hh hB hown k
  obtain ⟨ah, ad, af, ag, au⟩ := A
  obtain rfl : ah = none := hh
  have hh : (Around.mk none ad af ag au).handled = none := rfl
  replace hA : ad ≤ _ := hA
  replace hu : au ≤ _ := hu
  refine' enter G (binds := [("self", Value.ref x)]) (rb := [("self", Value.ref x)]) _ hB hown (Nat.le_trans hA (by decide)) ?ho ?hcd ?hb ?hl rfl ?k ?c1 ?c2 ?c3 ?c4
  case ho => k_is
  case hcd => k_is
  case hb => first | exact BindsTo.of_eq rfl | exact binds_K (G.X.keeps hB) rfl (by k_is) rfl rfl rfl
  case hl => exact locs rfl
  case c1 => rfl
  case c2 => rfl
  case c3 => rfl
  case c4 => decide
  case k =>
    intro g L' h₁ m Q tk hg hL hm hQ hQn F N X' T' st
    subst hm
    walk1
    walk1
    walk1
    walk1
    walk1
    walk1
    walk1
    refine While_inv2 (fun j m₁ news₁ => 
      m₁ = (fun y => if y = Str.ofString "begin" then some (Value.int (pl : Int) t2) else List.lookup y [(Str.ofString "self", Value.ref x)]) ∧
      news₁ = [(x, instObj 221 dx), (dx, scD w text ((pl : Nat) : Int) k1 k2 t1 t2)]) (n₀ := 0) (by assumption) (by assumption) ⟨rfl, rfl⟩ ?_ PassesOwn.never
    rintro j m₁ news₁ h₂ tk₂ F₂ N₂ ⟨rfl, rfl⟩
    (try dsimp only)
    k_steps
    · rename_i hlt
      have hp : pl < text.cps.toList.length := by simp [Str.length] at hlt; simp; walk_at "om"
      have hc := List.getElem?_eq_getElem hp
      refine text_N (by walk_at "om") (by walk_at "om") hc fun t' => ?_
      have hsp : spB text.cps.toList[pl] = false := by rw [hc] at hs; exact hs
      k_steps
      refine hQ _ _ ?_
      exact (con_end (s := s) [] k hg (fun q hq => (hown q hq).1) (by assumption) (by assumption) (by walk_at "m_same") (by walk_at "m_new") ⟨_, rfl, by rw [Int.sub_self]⟩)
    · refine hQ _ _ ?_
      exact (con_end (s := s) [] k hg (fun q hq => (hown q hq).1) (by assumption) (by assumption) (by walk_at "m_same") (by walk_at "m_new") ⟨_, rfl, by rw [Int.sub_self]⟩)
end
theorem ln13 : True := by
  k_with "M call ref" => (k_here; (with_reducible show wpAny _ _ (call (Value.ref 155) _) _ _ _); (k_dflt (refine' use00 (takesF_con ?G _ _ _ _ _ _ _ _ _ _ ?t1 ?t2 ?t3 ?a1) ?F ?N ?st ?d ?u ?h ?o ?_; (case F => k_asm); (case N => k_asm); (case o => walk_at "m_own"); (case st => assumption); (case d => walk_at "m_lvl"); (case u => walk_at "m_lvl"); (case h => assumption); (try (case G => assumption)); (all_goals (try (case t1 => first | omega | decide | assumption))); (all_goals (try (case t2 => first | omega | decide | assumption))); (all_goals (try (case t3 => first | omega | decide | assumption))); (all_goals (try (case t4 => first | omega | decide | assumption))); (all_goals (try (case t5 => first | omega | decide | assumption))); (all_goals (try (case a1 => assumption))); (all_goals (try (case a2 => assumption))); (all_goals (try (case a3 => assumption))); k_whole)); intro h' tk' F' N'; (try dsimp only); (try k_sweep))
  k_with "M call ref" => (k_here; (with_reducible show wpAny _ _ (call (Value.ref 169) _) _ _ _); (k_dflt (refine' use01 (spaces0_con ?G _ _ _ _ _ _ _ _ ?t1 ?t2 ?a1) ?F ?N ?st ?d ?u ?h ?o ?_; (case F => k_asm); (case N => k_asm); (case o => walk_at "m_own"); (case st => assumption); (case d => walk_at "m_lvl"); (case u => walk_at "m_lvl"); (case h => assumption); (try (case G => assumption)); (all_goals (try (case t1 => first | omega | decide | assumption))); (all_goals (try (case t2 => first | omega | decide | assumption))); (all_goals (try (case t3 => first | omega | decide | assumption))); (all_goals (try (case t4 => first | omega | decide | assumption))); (all_goals (try (case t5 => first | omega | decide | assumption))); (all_goals (try (case a1 => assumption))); (all_goals (try (case a2 => assumption))); (all_goals (try (case a3 => assumption))); k_whole)); intro tv' h' tk' F' N'; (try dsimp only); (try k_sweep))
  k_with "M call ref" => (k_here; (with_reducible show wpAny _ _ (call (Value.ref 183) _) _ _ _); (k_dflt (refine' use00 (looks_at_name_con ?G _ _ _ _ _ _ _ _ ?t1 ?a1) ?F ?N ?st ?d ?u ?h ?o ?_; (case F => k_asm); (case N => k_asm); (case o => walk_at "m_own"); (case st => assumption); (case d => walk_at "m_lvl"); (case u => walk_at "m_lvl"); (case h => assumption); (try (case G => assumption)); (all_goals (try (case t1 => first | omega | decide | assumption))); (all_goals (try (case t2 => first | omega | decide | assumption))); (all_goals (try (case t3 => first | omega | decide | assumption))); (all_goals (try (case t4 => first | omega | decide | assumption))); (all_goals (try (case t5 => first | omega | decide | assumption))); (all_goals (try (case a1 => assumption))); (all_goals (try (case a2 => assumption))); (all_goals (try (case a3 => assumption))); k_whole)); intro h' tk' F' N'; (try dsimp only); (try k_sweep))
  trivial
section
variable {prog : Program} {w : World} {mean : ExcName → Option Value} {mg mb : Str → Option Value} {B : Heap} (G : Gd w mean mg mb B)
include G
theorem expectR_con (x dx : Nat) (text word : Str) (pl : Nat) (tw k1 k2 t1 t2 : Tok) (hlen : text.length < 1000000) (hw : word.length < 1000000) (hne : dx < x) (hs : Txt.startswith3 text word pl = false) :
    ConR prog w B 54 (.ref 162) [.ref x, .str word tw] [(x, instObj 221 dx), (dx, scD w text pl k1 k2 t1 t2)] [] pl := by
  intro A s R outer C k
  obtain ⟨ah, ad, af, ag, au⟩ := A
  obtain rfl : ah = none := C.ha
  refine' enterF G C (by decide) (binds := [("self", Value.ref x), ("word", Value.str word tw)]) (rb := [("word", Value.str word tw), ("self", Value.ref x)]) ?ho ?hcd ?hb ?hl rfl ?k ?c1 ?c2 ?c3 ?c4
  case ho => k_is
  case hcd => k_is
  case hb => first | exact BindsTo.of_eq rfl | exact binds_K (G.X.keeps C.st) rfl (by k_is) rfl rfl rfl
  case hl => exact locs rfl
  case c1 => rfl
  case c2 => rfl
  case c3 => rfl
  case c4 => decide
  case k =>
    intro g L' h₁ m Q E tk gr hm hQ hQn hE hP F N X' T' st ff
    subst hm
    have hA : ad ≤ _ := C.lv
    have hu : au ≤ _ := C.un
    have hh := C.ha
    have hfr : af = some outer := C.fr
    k_steps
    refine thrown X' (by assumption) (by assumption) (by k_mem) (by rfl) ?_
    refine hE _ _ ?_
    exact (raise_end k C gr (by assumption) (by assumption) st ff rfl (fun z => nomatch z) (by k_mem) (by k_mem) hne1 (by walk_at "m_same") (.inl rfl) (by walk_at "m_all") (by walk_at "m_all") (by walk_at "m_same"))
theorem needR_con (x dx : Nat) (text : Str) (pl : Nat) (k1 k2 t1 t2 : Tok) (hlen : text.length < 1000000) (hne : dx < x) (hs : ((text.cps.toList[pl]?).map spB).getD false = false) :
    ConR prog w B 54 (.ref 176) [.ref x] [(x, instObj 221 dx), (dx, scD w text pl k1 k2 t1 t2)] [] pl := by
  intro A s R outer C k
  obtain ⟨ah, ad, af, ag, au⟩ := A
  obtain rfl : ah = none := C.ha
  refine' enterF G C (by decide) (binds := [("self", Value.ref x)]) (rb := [("self", Value.ref x)]) ?ho ?hcd ?hb ?hl rfl ?k ?c1 ?c2 ?c3 ?c4
  case ho => k_is
  case hcd => k_is
  case hb => first | exact BindsTo.of_eq rfl | exact binds_K (G.X.keeps C.st) rfl (by k_is) rfl rfl rfl
  case hl => exact locs rfl
  case c1 => rfl
  case c2 => rfl
  case c3 => rfl
  case c4 => decide
  case k =>
    intro g L' h₁ m Q E tk gr hm hQ hQn hE hP F N X' T' st ff
    subst hm
    have hA : ad ≤ _ := C.lv
    have hu : au ≤ _ := C.un
    have hh := C.ha
    have hfr : af = some outer := C.fr
    k_steps
    refine thrown X' (by assumption) (by assumption) (by k_mem) (by rfl) ?_
    refine hE _ _ ?_
    exact (raise_end k C gr (by assumption) (by assumption) st ff rfl (fun z => nomatch z) (by k_mem) (by k_mem) hne1 (by walk_at "m_same") (.inl rfl) (by walk_at "m_all") (by walk_at "m_all") (by walk_at "m_same"))
theorem tokenR_con (x dx : Nat) (text : Str) (pl : Nat) (k1 k2 t1 t2 : Tok) (hlen : text.length < 1000000) (hne : dx < x) (hasc : ∀ c ∈ text.cps.toList, c < 128) (hs : ((text.cps.toList[pl]?).map ncB).getD false = false) :
    ConR prog w B 54 (.ref 190) [.ref x] [(x, instObj 221 dx), (dx, scD w text pl k1 k2 t1 t2)] [] pl := by
  intro A s R outer C k
  obtain ⟨ah, ad, af, ag, au⟩ := A
  obtain rfl : ah = none := C.ha
  refine' enterF G C (by decide) (binds := [("self", Value.ref x)]) (rb := [("self", Value.ref x)]) ?ho ?hcd ?hb ?hl rfl ?k ?c1 ?c2 ?c3 ?c4
  case ho => k_is
  case hcd => k_is
  case hb => first | exact BindsTo.of_eq rfl | exact binds_K (G.X.keeps C.st) rfl (by k_is) rfl rfl rfl
  case hl => exact locs rfl
  case c1 => rfl
  case c2 => rfl
  case c3 => rfl
  case c4 => decide
  case k =>
    intro g L' h₁ m Q E tk gr hm hQ hQn hE hP F N X' T' st ff
    subst hm
    have hA : ad ≤ _ := C.lv
    have hu : au ≤ _ := C.un
    have hh := C.ha
    have hfr : af = some outer := C.fr
    walk1
    walk1
    walk1
    walk1
    walk1
    walk1
    walk1
    refine While_inv2 (fun j m₁ news₁ => 
      m₁ = (fun y => if y = Str.ofString "begin" then some (Value.int (pl : Int) t2) else List.lookup y [(Str.ofString "self", Value.ref x)]) ∧
      news₁ = [(x, instObj 221 dx), (dx, scD w text ((pl : Nat) : Int) k1 k2 t1 t2)]) (n₀ := 0) (by assumption) (by assumption) ⟨rfl, rfl⟩ ?_ hP
    rintro j m₁ news₁ h₂ tk₂ F₂ N₂ ⟨rfl, rfl⟩
    (try dsimp only)
    k_steps
    · rename_i hlt
      have hp : pl < text.cps.toList.length := by simp [Str.length] at hlt; simp; walk_at "om"
      have hc := List.getElem?_eq_getElem hp
      have hc' := hasc _ (List.getElem_mem hp)
      refine text_N (by walk_at "om") (by walk_at "om") hc fun t' => ?_
      have hsp : ncB text.cps.toList[pl] = false := by rw [hc] at hs; exact hs
      k_steps
      · refine thrown X' (by assumption) (by assumption) (by k_mem) (by rfl) ?_
        refine hE _ _ ?_
        exact (raise_end k C gr (by assumption) (by assumption) st ff rfl (fun z => nomatch z) (by k_mem) (by k_mem) hne1 (by walk_at "m_same") (.inl rfl) (by walk_at "m_all") (by walk_at "m_all") (by walk_at "m_same"))
      · exfalso; walk_at "om"
    · refine thrown X' (by assumption) (by assumption) (by k_mem) (by rfl) ?_
      refine hE _ _ ?_
      exact (raise_end k C gr (by assumption) (by assumption) st ff rfl (fun z => nomatch z) (by k_mem) (by k_mem) hne1 (by walk_at "m_same") (.inl rfl) (by walk_at "m_all") (by walk_at "m_all") (by walk_at "m_same"))
    · exfalso; walk_at "om"
theorem nameR_con (x dx : Nat) (text : Str) (pl : Nat) (k1 k2 t1 t2 : Tok) (hlen : text.length < 1000000) (hne : dx < x) (hasc : ∀ c ∈ text.cps.toList, c < 128) (hs : ((text.cps.toList[pl]?).map nsB).getD false = false) :
    ConR prog w B 54 (.ref 197) [.ref x] [(x, instObj 221 dx), (dx, scD w text pl k1 k2 t1 t2)] [] pl := by
  intro A s R outer C k
  obtain ⟨ah, ad, af, ag, au⟩ := A
  obtain rfl : ah = none := C.ha
  refine' enterF G C (by decide) (binds := [("self", Value.ref x)]) (rb := [("self", Value.ref x)]) ?ho ?hcd ?hb ?hl rfl ?k ?c1 ?c2 ?c3 ?c4
  case ho => k_is
  case hcd => k_is
  case hb => first | exact BindsTo.of_eq rfl | exact binds_K (G.X.keeps C.st) rfl (by k_is) rfl rfl rfl
  case hl => exact locs rfl
  case c1 => rfl
  case c2 => rfl
  case c3 => rfl
  case c4 => decide
  case k =>
    intro g L' h₁ m Q E tk gr hm hQ hQn hE hP F N X' T' st ff
    subst hm
    have hA : ad ≤ _ := C.lv
    have hu : au ≤ _ := C.un
    have hh := C.ha
    have hfr : af = some outer := C.fr
    k_steps
    refine thrown X' (by assumption) (by assumption) (by k_mem) (by rfl) ?_
    refine hE _ _ ?_
    exact (raise_end k C gr (by assumption) (by assumption) st ff rfl (fun z => nomatch z) (by k_mem) (by k_mem) hne1 (by walk_at "m_same") (.inl rfl) (by walk_at "m_all") (by walk_at "m_all") (by walk_at "m_same"))
theorem untilR_con (x dx : Nat) (text word : Str) (pl : Nat) (tw k1 k2 t1 t2 : Tok) (hlen : text.length < 1000000) (hw : word.length < 1000000) (hne : dx < x) (hf : Txt.find3 text word pl = -1) :
    ConR prog w B 54 (.ref 204) [.ref x, .str word tw] [(x, instObj 221 dx), (dx, scD w text pl k1 k2 t1 t2)] [] pl := by
  intro A s R outer C k
  obtain ⟨ah, ad, af, ag, au⟩ := A
  obtain rfl : ah = none := C.ha
  refine' enterF G C (by decide) (binds := [("self", Value.ref x), ("word", Value.str word tw)]) (rb := [("word", Value.str word tw), ("self", Value.ref x)]) ?ho ?hcd ?hb ?hl rfl ?k ?c1 ?c2 ?c3 ?c4
  case ho => k_is
  case hcd => k_is
  case hb => first | exact BindsTo.of_eq rfl | exact binds_K (G.X.keeps C.st) rfl (by k_is) rfl rfl rfl
  case hl => exact locs rfl
  case c1 => rfl
  case c2 => rfl
  case c3 => rfl
  case c4 => decide
  case k =>
    intro g L' h₁ m Q E tk gr hm hQ hQn hE hP F N X' T' st ff
    subst hm
    have hA : ad ≤ _ := C.lv
    have hu : au ≤ _ := C.un
    have hh := C.ha
    have hfr : af = some outer := C.fr
    k_steps
    refine thrown X' (by assumption) (by assumption) (by k_mem) (by rfl) ?_
    refine hE _ _ ?_
    exact (raise_end k C gr (by assumption) (by assumption) st ff rfl (fun z => nomatch z) (by k_mem) (by k_mem) hne1 (by walk_at "m_same") (.inl rfl) (by walk_at "m_all") (by walk_at "m_all") (by walk_at "m_same"))
end
section
variable {prog : Program} {w : World} {mean : ExcName → Option Value} {mg mb : Str → Option Value} {B : Heap} (G : Gd w mean mg mb B)
include G
theorem quotedR_con (x dx : Nat) (text : Str) (pl : Nat) (k1 k2 t1 t2 : Tok) (hlen : text.length < 1000000) (hne : dx < x) (hs : Txt.startswith3 text "\"" pl = false) (hs' : Txt.startswith3 text "'" pl = false) :
    ConR prog w B 54 (.ref 211) [.ref x] [(x, instObj 221 dx), (dx, scD w text pl k1 k2 t1 t2)] [] pl := by
  intro A s R outer C k
  obtain ⟨ah, ad, af, ag, au⟩ := A
  obtain rfl : ah = none := C.ha
  refine' enterF G C (by decide) (binds := [("self", Value.ref x)]) (rb := [("self", Value.ref x)]) ?ho ?hcd ?hb ?hl rfl ?k ?c1 ?c2 ?c3 ?c4
  case ho => k_is
  case hcd => k_is
  case hb => first | exact BindsTo.of_eq rfl | exact binds_K (G.X.keeps C.st) rfl (by k_is) rfl rfl rfl
  case hl => exact locs rfl
  case c1 => rfl
  case c2 => rfl
  case c3 => rfl
  case c4 => decide
  case k =>
    intro g L' h₁ m Q E tk gr hm hQ hQn hE hP F N X' T' st ff
    subst hm
    have hA : ad ≤ _ := C.lv
    have hu : au ≤ _ := C.un
    have hh := C.ha
    have hfr : af = some outer := C.fr
    k_steps
    refine thrown X' (by assumption) (by assumption) (by k_mem) (by rfl) ?_
    refine hE _ _ ?_
    exact (raise_end k C gr (by assumption) (by assumption) st ff rfl (fun z => nomatch z) (by k_mem) (by k_mem) hne1 (by walk_at "m_same") (.inl rfl) (by walk_at "m_all") (by walk_at "m_all") (by walk_at "m_same"))
end
set_option maxRecDepth 100000
set_option maxHeartbeats 8000000
theorem ln14 : True := by
  k_with_none
  k_with "M subscriptTail Name Constant ref int" => (k_here; (with_reducible show wpAny _ _ (subscriptTail _ _ (Value.ref _) (Value.int _ _)) _ _ _); k_dflt (refine' Mine.item_N ?k0 ?k1 ?k2 ?k3 ?k4 ?_ ?k6; (case k0 => k_asm); (case k1 => k_mem); (case k2 => decide); (case k3 => decide); (case k4 => rfl); (case k6 => with_unfolding_all rfl); k_whole))
  k_with "M m_new" => first | exact List.forall_mem_nil _ | (refine' List.forall_mem_cons.mpr ⟨And.intro ?mzA ?mzB, ?mzC⟩; (case mzA => k_mem); (case mzB => (try dsimp only); first | exact Or.inl (by k_mem) | exact Or.inr (by walk_at "m_all")); (case mzC => walk_at "m_new"))
  k_with "M m_spl" => first | exact Mine.Spl.head | exact (Mine.Spl.tail Mine.Spl.head) | exact (Mine.Spl.tail (Mine.Spl.tail Mine.Spl.head)) | exact (Mine.Spl.tail (Mine.Spl.tail (Mine.Spl.tail Mine.Spl.head))) | exact (Mine.Spl.tail (Mine.Spl.tail (Mine.Spl.tail (Mine.Spl.tail Mine.Spl.head)))) | exact (Mine.Spl.tail (Mine.Spl.tail (Mine.Spl.tail (Mine.Spl.tail (Mine.Spl.tail Mine.Spl.head))))) | exact (Mine.Spl.tail (Mine.Spl.tail (Mine.Spl.tail (Mine.Spl.tail (Mine.Spl.tail (Mine.Spl.tail Mine.Spl.head)))))) | exact (Mine.Spl.tail (Mine.Spl.tail (Mine.Spl.tail (Mine.Spl.tail (Mine.Spl.tail (Mine.Spl.tail (Mine.Spl.tail Mine.Spl.head))))))) | exact (Mine.Spl.tail (Mine.Spl.tail (Mine.Spl.tail (Mine.Spl.tail (Mine.Spl.tail (Mine.Spl.tail (Mine.Spl.tail (Mine.Spl.tail Mine.Spl.head)))))))) | exact (Mine.Spl.tail (Mine.Spl.tail (Mine.Spl.tail (Mine.Spl.tail (Mine.Spl.tail (Mine.Spl.tail (Mine.Spl.tail (Mine.Spl.tail (Mine.Spl.tail Mine.Spl.head))))))))) | exact (Mine.Spl.tail (Mine.Spl.tail (Mine.Spl.tail (Mine.Spl.tail (Mine.Spl.tail (Mine.Spl.tail (Mine.Spl.tail (Mine.Spl.tail (Mine.Spl.tail (Mine.Spl.tail Mine.Spl.head)))))))))) | exact (Mine.Spl.tail (Mine.Spl.tail (Mine.Spl.tail (Mine.Spl.tail (Mine.Spl.tail (Mine.Spl.tail (Mine.Spl.tail (Mine.Spl.tail (Mine.Spl.tail (Mine.Spl.tail (Mine.Spl.tail Mine.Spl.head))))))))))) | exact (Mine.Spl.tail (Mine.Spl.tail (Mine.Spl.tail (Mine.Spl.tail (Mine.Spl.tail (Mine.Spl.tail (Mine.Spl.tail (Mine.Spl.tail (Mine.Spl.tail (Mine.Spl.tail (Mine.Spl.tail (Mine.Spl.tail Mine.Spl.head)))))))))))) | exact (Mine.Spl.tail (Mine.Spl.tail (Mine.Spl.tail (Mine.Spl.tail (Mine.Spl.tail (Mine.Spl.tail (Mine.Spl.tail (Mine.Spl.tail (Mine.Spl.tail (Mine.Spl.tail (Mine.Spl.tail (Mine.Spl.tail (Mine.Spl.tail Mine.Spl.head)))))))))))))
  k_with "M m_own" => first | exact List.forall_mem_nil _ | (refine' List.forall_mem_cons.mpr ⟨?mzA, ?mzB⟩; (case mzA => k_mem); (case mzB => walk_at "m_own"))
  k_with "M m_lvl" => first | exact lv_le 3 rfl (by assumption) rfl | exact lv_le 1 rfl (by assumption) rfl | exact lv_le 0 rfl (by assumption) rfl | exact lv_le 2 rfl (by assumption) rfl | ((try simp only [depth_under_make, depth_under_kw, depth_in1, depth_deeper, units_in1, units_deeper, units_under_make, Around.mark_units]); (try dsimp only); omega)
  k_with "M call builtin:len" => (k_here; (with_reducible show wpAny _ _ (call (Value.builtin "len") [Value.ref _]) _ _ _); k_dflt (refine' Mine.len_N ?k0 ?k1 ?k2 ?_; (case k0 => k_asm); (case k1 => k_mem); (case k2 => (try simp only [List.length_cons, List.length_nil]); omega); k_whole))
  k_with "M m_ne0" => (replace l1 := ne0_of l1; (try simp only [NewNe0, AllNe, and_true, and_assoc] at l1); (repeat (have := And.left l1; replace l1 := And.right l1)))
  k_with "M m_ne1" => (replace l1 := ne1_of l1; (try simp only [NewNe1, AllNe, and_true, true_or, true_and, and_assoc] at l1); (repeat (have := And.left l1; replace l1 := And.right l1)))
  k_with "M exec Raise some none" => (k_here; k_dflt (refine' Mine.raise_stmt ?hh ?_; (case hh => first | rfl | assumption)))
  k_with "M pyIter ref" => ((with_reducible show wpAny _ _ _ (fun it s₂ => UnrAt _ _ _ _ _ _ _ _ _ it s₂) _ _); (k_dflt (refine' Iter_tuple_unr ?hh ?ht ?F ?N ?htL ?_; (case F => k_asm); (case N => k_asm); (case hh => assumption); (case ht => exact News.isTup (by assumption) (by k_mem)); (case htL => exact News.ne_locals (by assumption) (by k_mem)))))
  k_with "M eval Name" => (k_here; (with_reducible show wpAny _ _ (eval (Expr.Name _ _) (envOfC _ _ _ _ _)) _ _ _); k_dflt (refine' nameX_L ?nxF ?nxV ?_; (case nxF => k_asm); (case nxV => rfl); k_whole))
  k_with "M m_sub" => first | exact List.forall_mem_nil _ | (refine' List.forall_mem_cons.mpr ⟨?mzA, ?mzB⟩; (case mzA => k_mem); (case mzB => walk_at "m_sub")) | (intro mzp mzh; k_mem)
  k_with "M m_off" => first | exact True.intro | assumption | (refine And.intro ⟨by k_ne, by k_ne, by k_ne⟩ ?_; walk_at "m_off")
  k_with "M m_same" => first | exact List.forall_mem_nil _ | (refine' List.forall_mem_cons.mpr ⟨?mzA, ?mzB⟩; (case mzA => (try dsimp only); first | exact Or.inl (by k_mem) | exact Or.inr (by k_mem)); (case mzB => walk_at "m_same")) | simp
  k_with "M m_all" => first | exact List.forall_mem_nil _ | (refine' List.forall_mem_cons.mpr ⟨?mzA, ?mzB⟩; (case mzA => k_ne); (case mzB => walk_at "m_all")) | assumption
  k_with "M om" => first | ((repeat (with_reducible rename (_ ≠ _) => hz9; clear hz9)); omega) | omega
  k_with "M m_ltp" => first | with_reducible assumption | (with_reducible rename (_ < _ ∧ _) => hq9; first | with_reducible exact hq9.1 | with_reducible exact hq9.2.1 | with_reducible exact hq9.2.2.1 | with_reducible exact hq9.2.2.2.1 | with_reducible exact hq9.2.2.2.2.1 | with_reducible exact hq9.2.2.2.2.2.1 | with_reducible exact hq9.2 | with_reducible exact hq9.2.2 | with_reducible exact hq9.2.2.2 | with_reducible exact hq9.2.2.2.2 | with_reducible exact hq9.2.2.2.2.2 | (clear hq9; walk_at "m_ltp"))
  k_with "M m_nel" => first | exact Nat.ne_of_lt (by walk_at "m_ltp") | exact Nat.ne_of_gt (by walk_at "m_ltp") | exact ne_lt_k 1 rfl (by walk_at "m_ltp") | exact ne_lt_k 2 rfl (by walk_at "m_ltp") | exact ne_lt_k 3 rfl (by walk_at "m_ltp") | exact ne_lt_k 4 rfl (by walk_at "m_ltp") | exact ne_gt_k 1 rfl (by walk_at "m_ltp") | exact ne_gt_k 2 rfl (by walk_at "m_ltp") | exact ne_gt_k 3 rfl (by walk_at "m_ltp") | exact ne_gt_k 4 rfl (by walk_at "m_ltp")
  k_with "M execs cons" => (k_here; (try k_gentoks); (with_reducible refine wpAny_execs_cons ?_); (try k_fold); (try dsimp only))
  k_with "M call ref" => (k_here; (with_reducible show wpAny _ _ (call (Value.ref 66) _) _ _ _); (k_dflt (refine' use00 (is_name_start_con ?G _ _ ?t1) ?F ?N ?st ?d ?u ?h ?o ?_; (case F => k_asm); (case N => k_asm); (case o => walk_at "m_own"); (case st => assumption); (case d => walk_at "m_lvl"); (case u => walk_at "m_lvl"); (case h => assumption); (try (case G => assumption)); (all_goals (try (case t1 => first | omega | decide | assumption))); (all_goals (try (case t2 => first | omega | decide | assumption))); (all_goals (try (case t3 => first | omega | decide | assumption))); (all_goals (try (case t4 => first | omega | decide | assumption))); (all_goals (try (case t5 => first | omega | decide | assumption))); (all_goals (try (case a1 => assumption))); (all_goals (try (case a2 => assumption))); (all_goals (try (case a3 => assumption))); k_whole)); intro h' tk' F' N'; (try dsimp only); (try k_sweep))
  k_with "M call ref" => (k_here; (with_reducible show wpAny _ _ (call (Value.ref 73) _) _ _ _); (k_dflt (refine' use00 (is_name_char_con ?G _ _ ?t1) ?F ?N ?st ?d ?u ?h ?o ?_; (case F => k_asm); (case N => k_asm); (case o => walk_at "m_own"); (case st => assumption); (case d => walk_at "m_lvl"); (case u => walk_at "m_lvl"); (case h => assumption); (try (case G => assumption)); (all_goals (try (case t1 => first | omega | decide | assumption))); (all_goals (try (case t2 => first | omega | decide | assumption))); (all_goals (try (case t3 => first | omega | decide | assumption))); (all_goals (try (case t4 => first | omega | decide | assumption))); (all_goals (try (case t5 => first | omega | decide | assumption))); (all_goals (try (case a1 => assumption))); (all_goals (try (case a2 => assumption))); (all_goals (try (case a3 => assumption))); k_whole)); intro h' tk' F' N'; (try dsimp only); (try k_sweep))
  k_with "M call ref" => (k_here; (with_reducible show wpAny _ _ (call (Value.ref 52) _) _ _ _); (k_dflt (refine' use00 (is_space_con ?G _ _) ?F ?N ?st ?d ?u ?h ?o ?_; (case F => k_asm); (case N => k_asm); (case o => walk_at "m_own"); (case st => assumption); (case d => walk_at "m_lvl"); (case u => walk_at "m_lvl"); (case h => assumption); (try (case G => assumption)); (all_goals (try (case t1 => first | omega | decide | assumption))); (all_goals (try (case t2 => first | omega | decide | assumption))); (all_goals (try (case t3 => first | omega | decide | assumption))); (all_goals (try (case t4 => first | omega | decide | assumption))); (all_goals (try (case t5 => first | omega | decide | assumption))); (all_goals (try (case a1 => assumption))); (all_goals (try (case a2 => assumption))); (all_goals (try (case a3 => assumption))); k_whole)); intro h' tk' F' N'; (try dsimp only); (try k_sweep))
  k_with "M call ref" => (k_here; (with_reducible show wpAny _ _ (call (Value.ref 141) _) _ _ _); (k_dflt (refine' use00 (is_over_con ?G _ _ _ _ _ _ _ _ ?t1) ?F ?N ?st ?d ?u ?h ?o ?_; (case F => k_asm); (case N => k_asm); (case o => walk_at "m_own"); (case st => assumption); (case d => walk_at "m_lvl"); (case u => walk_at "m_lvl"); (case h => assumption); (try (case G => assumption)); (all_goals (try (case t1 => first | omega | decide | assumption))); (all_goals (try (case t2 => first | omega | decide | assumption))); (all_goals (try (case t3 => first | omega | decide | assumption))); (all_goals (try (case t4 => first | omega | decide | assumption))); (all_goals (try (case t5 => first | omega | decide | assumption))); (all_goals (try (case a1 => assumption))); (all_goals (try (case a2 => assumption))); (all_goals (try (case a3 => assumption))); k_whole)); intro h' tk' F' N'; (try dsimp only); (try k_sweep))
  k_with "M call ref" => (k_here; (with_reducible show wpAny _ _ (call (Value.ref 148) _) _ _ _); (k_dflt (refine' use00 (looks_con ?G _ _ _ _ _ _ _ _ _ _ ?t1) ?F ?N ?st ?d ?u ?h ?o ?_; (case F => k_asm); (case N => k_asm); (case o => walk_at "m_own"); (case st => assumption); (case d => walk_at "m_lvl"); (case u => walk_at "m_lvl"); (case h => assumption); (try (case G => assumption)); (all_goals (try (case t1 => first | omega | decide | assumption))); (all_goals (try (case t2 => first | omega | decide | assumption))); (all_goals (try (case t3 => first | omega | decide | assumption))); (all_goals (try (case t4 => first | omega | decide | assumption))); (all_goals (try (case t5 => first | omega | decide | assumption))); (all_goals (try (case a1 => assumption))); (all_goals (try (case a2 => assumption))); (all_goals (try (case a3 => assumption))); k_whole)); intro h' tk' F' N'; (try dsimp only); (try k_sweep))
  k_with "M call ref" => (k_here; (with_reducible show wpAny _ _ (call (Value.ref 134) _) _ _ _); (k_dflt (refine' con_use0 (fault_con ?G _ _ _ _ _ _ _ _ _ _) ?F ?N ?st ?d ?u ?h ?o ?_; (case F => k_asm); (case N => k_asm); (case o => walk_at "m_own"); (case st => assumption); (case d => walk_at "m_lvl"); (case u => walk_at "m_lvl"); (case h => assumption); (try (case G => assumption)); (all_goals (try (case t1 => first | omega | decide | assumption))); (all_goals (try (case t2 => first | omega | decide | assumption))); (all_goals (try (case t3 => first | omega | decide | assumption))); (all_goals (try (case t4 => first | omega | decide | assumption))); (all_goals (try (case t5 => first | omega | decide | assumption))); (all_goals (try (case a1 => assumption))); (all_goals (try (case a2 => assumption))); (all_goals (try (case a3 => assumption))); k_whole)); intro v new h' tk' hV F' N' l1; obtain ⟨e1, d1, t1', k1', t2', k3', t3', e', hv', hne1⟩ := hV; subst e'; subst hv'; (try simp only [List.nil_append, List.cons_append] at N'); walk_at "m_ne0"; (try dsimp only); (try k_sweep))
  k_with "M call ref" => (k_here; (with_reducible show wpAny _ _ (call (Value.ref 155) _) _ _ _); (k_dflt (refine' use00 (takesF_con ?G _ _ _ _ _ _ _ _ _ _ ?t1 ?t2 ?t3 ?a1) ?F ?N ?st ?d ?u ?h ?o ?_; (case F => k_asm); (case N => k_asm); (case o => walk_at "m_own"); (case st => assumption); (case d => walk_at "m_lvl"); (case u => walk_at "m_lvl"); (case h => assumption); (try (case G => assumption)); (all_goals (try (case t1 => first | omega | decide | assumption))); (all_goals (try (case t2 => first | omega | decide | assumption))); (all_goals (try (case t3 => first | omega | decide | assumption))); (all_goals (try (case t4 => first | omega | decide | assumption))); (all_goals (try (case t5 => first | omega | decide | assumption))); (all_goals (try (case a1 => assumption))); (all_goals (try (case a2 => assumption))); (all_goals (try (case a3 => assumption))); k_whole)); intro h' tk' F' N'; (try dsimp only); (try k_sweep))
  k_with "M call ref" => (k_here; (with_reducible show wpAny _ _ (call (Value.ref 169) _) _ _ _); (k_dflt (refine' use01 (spaces0_con ?G _ _ _ _ _ _ _ _ ?t1 ?t2 ?a1) ?F ?N ?st ?d ?u ?h ?o ?_; (case F => k_asm); (case N => k_asm); (case o => walk_at "m_own"); (case st => assumption); (case d => walk_at "m_lvl"); (case u => walk_at "m_lvl"); (case h => assumption); (try (case G => assumption)); (all_goals (try (case t1 => first | omega | decide | assumption))); (all_goals (try (case t2 => first | omega | decide | assumption))); (all_goals (try (case t3 => first | omega | decide | assumption))); (all_goals (try (case t4 => first | omega | decide | assumption))); (all_goals (try (case t5 => first | omega | decide | assumption))); (all_goals (try (case a1 => assumption))); (all_goals (try (case a2 => assumption))); (all_goals (try (case a3 => assumption))); k_whole)); intro tv' h' tk' F' N'; (try dsimp only); (try k_sweep))
  k_with "M call ref" => (k_here; (with_reducible show wpAny _ _ (call (Value.ref 190) _) _ _ _); (k_dflt (refine' use12 (token_con ?G _ _ _ _ _ _ _ _ ?t1 ?t2 ?a1 ?t3) ?F ?N ?st ?d ?u ?h ?o ?sp ?ne ?_; (case F => k_asm); (case N => k_asm); (case o => walk_at "m_own"); (case sp => walk_at "m_spl"); (case ne => walk_at "m_all"); (case st => assumption); (case d => walk_at "m_lvl"); (case u => walk_at "m_lvl"); (case h => assumption); (try (case G => assumption)); (all_goals (try (case t1 => first | omega | decide | assumption))); (all_goals (try (case t2 => first | omega | decide | assumption))); (all_goals (try (case t3 => first | omega | decide | assumption))); (all_goals (try (case t4 => first | omega | decide | assumption))); (all_goals (try (case t5 => first | omega | decide | assumption))); (all_goals (try (case a1 => assumption))); (all_goals (try (case a2 => assumption))); (all_goals (try (case a3 => assumption))); k_whole)); intro t2' tv' h' tk' F' N'; (try dsimp only); (try k_sweep))
  k_with "M call ref" => (k_here; (with_reducible show wpAny _ _ (call (Value.ref 204) _) _ _ _); (k_dflt (refine' use12 (until_con ?G _ _ _ _ _ _ _ _ _ _ _ ?t1 ?t5 ?t2 ?a1 ?t3 ?t4) ?F ?N ?st ?d ?u ?h ?o ?sp ?ne ?_; (case F => k_asm); (case N => k_asm); (case o => walk_at "m_own"); (case sp => walk_at "m_spl"); (case ne => walk_at "m_all"); (case st => assumption); (case d => walk_at "m_lvl"); (case u => walk_at "m_lvl"); (case h => assumption); (try (case G => assumption)); (all_goals (try (case t1 => first | omega | decide | assumption))); (all_goals (try (case t2 => first | omega | decide | assumption))); (all_goals (try (case t3 => first | omega | decide | assumption))); (all_goals (try (case t4 => first | omega | decide | assumption))); (all_goals (try (case t5 => first | omega | decide | assumption))); (all_goals (try (case a1 => assumption))); (all_goals (try (case a2 => assumption))); (all_goals (try (case a3 => assumption))); k_whole)); intro t2' tv' h' tk' F' N'; (try dsimp only); (try k_sweep))
  k_with "M call ref" => (k_here; (with_reducible show wpAny _ _ (call (Value.ref 183) _) _ _ _); (k_dflt (refine' use00 (looks_at_name_con ?G _ _ _ _ _ _ _ _ ?t1 ?a1) ?F ?N ?st ?d ?u ?h ?o ?_; (case F => k_asm); (case N => k_asm); (case o => walk_at "m_own"); (case st => assumption); (case d => walk_at "m_lvl"); (case u => walk_at "m_lvl"); (case h => assumption); (try (case G => assumption)); (all_goals (try (case t1 => first | omega | decide | assumption))); (all_goals (try (case t2 => first | omega | decide | assumption))); (all_goals (try (case t3 => first | omega | decide | assumption))); (all_goals (try (case t4 => first | omega | decide | assumption))); (all_goals (try (case t5 => first | omega | decide | assumption))); (all_goals (try (case a1 => assumption))); (all_goals (try (case a2 => assumption))); (all_goals (try (case a3 => assumption))); k_whole)); intro h' tk' F' N'; (try dsimp only); (try k_sweep))
  trivial
section
variable {prog : Program} {w : World} {mean : ExcName → Option Value} {mg mb : Str → Option Value} {B : Heap} (G : Gd w mean mg mb B)
include G
theorem takesT_con (x dx : Nat) (text word : Str) (pl : Nat) (tw k1 k2 t1 t2 : Tok) (hlen : text.length < 1000000) (hw : word.length < 1000000) (hne : dx < x) (hs : Txt.startswith3 text word pl = true) :
    Con prog w B 55 (.ref 155) [.ref x, .str word tw] [(x, instObj 221 dx), (dx, scD w text pl k1 k2 t1 t2)] [dx]
      (fun v new => ∃ t2', new = [(dx, scD w text ((pl + word.length : Nat) : Int) k1 k2 t1 t2')] ∧ v = .bool true) :=
  (takes_con G x dx text word pl tw k1 k2 t1 t2 hlen hw hne).mono fun v new ⟨t2', e, hv⟩ => ⟨t2', by rw [if_pos hs] at e; exact e, by rw [hs] at hv; exact hv⟩
end
theorem ln15 : True := by
  k_with "M call ref" => (k_here; (with_reducible show wpAny _ _ (call (Value.ref 155) _) _ _ _); (k_dflt (refine' use11 (takesT_con ?G _ _ _ _ _ _ _ _ _ _ ?t1 ?t2 ?t3 ?a1) ?F ?N ?st ?d ?u ?h ?o ?sp ?ne ?_; (case F => k_asm); (case N => k_asm); (case o => walk_at "m_own"); (case sp => walk_at "m_spl"); (case ne => walk_at "m_all"); (case st => assumption); (case d => walk_at "m_lvl"); (case u => walk_at "m_lvl"); (case h => assumption); (try (case G => assumption)); (all_goals (try (case t1 => first | omega | decide | assumption))); (all_goals (try (case t2 => first | omega | decide | assumption))); (all_goals (try (case t3 => first | omega | decide | assumption))); (all_goals (try (case t4 => first | omega | decide | assumption))); (all_goals (try (case t5 => first | omega | decide | assumption))); (all_goals (try (case a1 => assumption))); (all_goals (try (case a2 => assumption))); (all_goals (try (case a3 => assumption))); k_whole)); intro t2' h' tk' F' N'; (try dsimp only); (try k_sweep))
  trivial
section
variable {prog : Program} {w : World} {mean : ExcName → Option Value} {mg mb : Str → Option Value} {B : Heap} (G : Gd w mean mg mb B)
include G
theorem expect_con (x dx : Nat) (text word : Str) (pl : Nat) (tw k1 k2 t1 t2 : Tok) (hlen : text.length < 1000000) (hw : word.length < 1000000) (hne : dx < x) (hs : Txt.startswith3 text word pl = true) :
    Con prog w B 54 (.ref 162) [.ref x, .str word tw] [(x, instObj 221 dx), (dx, scD w text pl k1 k2 t1 t2)] [dx]
      (fun v new => ∃ t2', new = [(dx, scD w text ((pl + word.length : Nat) : Int) k1 k2 t1 t2')] ∧ v = .none) := by
  intro A s R hA hu hh hB hown k
  obtain ⟨ah, ad, af, ag, au⟩ := A
  obtain rfl : ah = none := hh
  have hh : (Around.mk none ad af ag au).handled = none := rfl
  replace hA : ad ≤ _ := hA
  replace hu : au ≤ _ := hu
  refine' enter G (binds := [("self", Value.ref x), ("word", Value.str word tw)]) (rb := [("word", Value.str word tw), ("self", Value.ref x)]) _ hB hown (Nat.le_trans hA (by decide)) ?ho ?hcd ?hb ?hl rfl ?k ?c1 ?c2 ?c3 ?c4
  case ho => k_is
  case hcd => k_is
  case hb => first | exact BindsTo.of_eq rfl | exact binds_K (G.X.keeps hB) rfl (by k_is) rfl rfl rfl
  case hl => exact locs rfl
  case c1 => rfl
  case c2 => rfl
  case c3 => rfl
  case c4 => decide
  case k =>
    intro g L' h₁ m Q tk hg hL hm hQ hQn F N X' T' st
    subst hm
    k_steps

    refine hQn _ ?_
    exact (con_end (s := s) [(dx, _)] k hg (fun q hq => (hown q hq).1) (by assumption) (by assumption) (by walk_at "m_same") (by walk_at "m_new") ⟨_, rfl, rfl⟩)
theorem name_con (x dx : Nat) (text : Str) (pl : Nat) (k1 k2 t1 t2 : Tok) (hlen : text.length < 1000000) (hne : dx < x) (hasc : ∀ c ∈ text.cps.toList, c < 128) (hs : ((text.cps.toList[pl]?).map nsB).getD false = true) (hpos : 0 < cntB ncB (text.cps.toList.drop pl)) :
    Con prog w B 53 (.ref 197) [.ref x] [(x, instObj 221 dx), (dx, scD w text pl k1 k2 t1 t2)] [dx]
      (fun v new => ∃ t2' tv, new = [(dx, scD w text ((pl + cntB ncB (text.cps.toList.drop pl) : Nat) : Int) k1 k2 t1 t2')] ∧ v = .str (sub text pl (pl + cntB ncB (text.cps.toList.drop pl))) tv) := by
  intro A s R hA hu hh hB hown k
  obtain ⟨ah, ad, af, ag, au⟩ := A
  obtain rfl : ah = none := hh
  have hh : (Around.mk none ad af ag au).handled = none := rfl
  replace hA : ad ≤ _ := hA
  replace hu : au ≤ _ := hu
  refine' enter G (binds := [("self", Value.ref x)]) (rb := [("self", Value.ref x)]) _ hB hown (Nat.le_trans hA (by decide)) ?ho ?hcd ?hb ?hl rfl ?k ?c1 ?c2 ?c3 ?c4
  case ho => k_is
  case hcd => k_is
  case hb => first | exact BindsTo.of_eq rfl | exact binds_K (G.X.keeps hB) rfl (by k_is) rfl rfl rfl
  case hl => exact locs rfl
  case c1 => rfl
  case c2 => rfl
  case c3 => rfl
  case c4 => decide
  case k =>
    intro g L' h₁ m Q tk hg hL hm hQ hQn F N X' T' st
    subst hm
    k_steps

    refine hQ _ _ ?_
    exact (con_end (s := s) [(dx, _)] k hg (fun q hq => (hown q hq).1) (by assumption) (by assumption) (by walk_at "m_same") (by walk_at "m_new") ⟨_, _, rfl, rfl⟩)
theorem quoted1_con (x dx : Nat) (text : Str) (pl e : Nat) (k1 k2 t1 t2 : Tok) (hlen : text.length < 1000000) (hne : dx < x) (hs : Txt.startswith3 text "\"" pl = true) (hf : Txt.find3 text "\"" ((pl + (Str.ofString "\"").length : Nat) : Int) = (e : Int)) (h1 : pl + 1 ≤ e) (h2 : e ≤ text.length) :
    Con prog w B 53 (.ref 211) [.ref x] [(x, instObj 221 dx), (dx, scD w text pl k1 k2 t1 t2)] [dx]
      (fun v new => ∃ t2' tv, new = [(dx, scD w text ((e + 1 : Nat) : Int) k1 k2 t1 t2')] ∧ v = .str (sub text (pl + 1) e) tv) := by
  have hl1 : (Str.ofString "\"").length = 1 := by decide
  intro A s R hA hu hh hB hown k
  obtain ⟨ah, ad, af, ag, au⟩ := A
  obtain rfl : ah = none := hh
  have hh : (Around.mk none ad af ag au).handled = none := rfl
  replace hA : ad ≤ _ := hA
  replace hu : au ≤ _ := hu
  refine' enter G (binds := [("self", Value.ref x)]) (rb := [("self", Value.ref x)]) _ hB hown (Nat.le_trans hA (by decide)) ?ho ?hcd ?hb ?hl rfl ?k ?c1 ?c2 ?c3 ?c4
  case ho => k_is
  case hcd => k_is
  case hb => first | exact BindsTo.of_eq rfl | exact binds_K (G.X.keeps hB) rfl (by k_is) rfl rfl rfl
  case hl => exact locs rfl
  case c1 => rfl
  case c2 => rfl
  case c3 => rfl
  case c4 => decide
  case k =>
    intro g L' h₁ m Q tk hg hL hm hQ hQn F N X' T' st
    subst hm
    k_steps

    refine hQ _ _ ?_
    exact (con_end (s := s) [(dx, _)] k hg (fun q hq => (hown q hq).1) (by assumption) (by assumption) (by walk_at "m_same") (by walk_at "m_new") ⟨_, _, rfl, rfl⟩)
theorem quoted2_con (x dx : Nat) (text : Str) (pl e : Nat) (k1 k2 t1 t2 : Tok) (hlen : text.length < 1000000) (hne : dx < x) (hs : Txt.startswith3 text "\"" pl = false) (hs' : Txt.startswith3 text "'" pl = true) (hf : Txt.find3 text "'" ((pl + (Str.ofString "'").length : Nat) : Int) = (e : Int)) (h1 : pl + 1 ≤ e) (h2 : e ≤ text.length) :
    Con prog w B 53 (.ref 211) [.ref x] [(x, instObj 221 dx), (dx, scD w text pl k1 k2 t1 t2)] [dx]
      (fun v new => ∃ t2' tv, new = [(dx, scD w text ((e + 1 : Nat) : Int) k1 k2 t1 t2')] ∧ v = .str (sub text (pl + 1) e) tv) := by
  have hl1 : (Str.ofString "'").length = 1 := by decide
  intro A s R hA hu hh hB hown k
  obtain ⟨ah, ad, af, ag, au⟩ := A
  obtain rfl : ah = none := hh
  have hh : (Around.mk none ad af ag au).handled = none := rfl
  replace hA : ad ≤ _ := hA
  replace hu : au ≤ _ := hu
  refine' enter G (binds := [("self", Value.ref x)]) (rb := [("self", Value.ref x)]) _ hB hown (Nat.le_trans hA (by decide)) ?ho ?hcd ?hb ?hl rfl ?k ?c1 ?c2 ?c3 ?c4
  case ho => k_is
  case hcd => k_is
  case hb => first | exact BindsTo.of_eq rfl | exact binds_K (G.X.keeps hB) rfl (by k_is) rfl rfl rfl
  case hl => exact locs rfl
  case c1 => rfl
  case c2 => rfl
  case c3 => rfl
  case c4 => decide
  case k =>
    intro g L' h₁ m Q tk hg hL hm hQ hQn F N X' T' st
    subst hm
    k_steps

    refine hQ _ _ ?_
    exact (con_end (s := s) [(dx, _)] k hg (fun q hq => (hown q hq).1) (by assumption) (by assumption) (by walk_at "m_same") (by walk_at "m_new") ⟨_, _, rfl, rfl⟩)
theorem end_con (x dx : Nat) (text : Str) (pl : Nat) (k1 k2 t1 t2 : Tok) (hlen : text.length < 1000000) (hne : dx < x) (hp : text.length = pl) :
    Con prog w B 53 (.ref 218) [.ref x] [(x, instObj 221 dx), (dx, scD w text pl k1 k2 t1 t2)] [] (fun v new => new = [] ∧ v = .none) := by
  have hs : ((text.cps.toList[pl]?).map spB).getD false = false := by
    rw [List.getElem?_eq_none (by simp [Str.length] at hp; simp; omega)]; rfl
  intro A s R hA hu hh hB hown k
  obtain ⟨ah, ad, af, ag, au⟩ := A
  obtain rfl : ah = none := hh
  have hh : (Around.mk none ad af ag au).handled = none := rfl
  replace hA : ad ≤ _ := hA
  replace hu : au ≤ _ := hu
  refine' enter G (binds := [("self", Value.ref x)]) (rb := [("self", Value.ref x)]) _ hB hown (Nat.le_trans hA (by decide)) ?ho ?hcd ?hb ?hl rfl ?k ?c1 ?c2 ?c3 ?c4
  case ho => k_is
  case hcd => k_is
  case hb => first | exact BindsTo.of_eq rfl | exact binds_K (G.X.keeps hB) rfl (by k_is) rfl rfl rfl
  case hl => exact locs rfl
  case c1 => rfl
  case c2 => rfl
  case c3 => rfl
  case c4 => decide
  case k =>
    intro g L' h₁ m Q tk hg hL hm hQ hQn F N X' T' st
    subst hm
    k_steps

    refine hQn _ ?_
    exact (con_end (s := s) [] k hg (fun q hq => (hown q hq).1) (by assumption) (by assumption) (by walk_at "m_same") (by walk_at "m_new") ⟨rfl, rfl⟩)
end
set_option maxRecDepth 100000
set_option maxHeartbeats 8000000
theorem ln16 : True := by
  k_with_none
  k_with "M subscriptTail Name Constant ref int" => (k_here; (with_reducible show wpAny _ _ (subscriptTail _ _ (Value.ref _) (Value.int _ _)) _ _ _); k_dflt (refine' Mine.item_N ?k0 ?k1 ?k2 ?k3 ?k4 ?_ ?k6; (case k0 => k_asm); (case k1 => k_mem); (case k2 => decide); (case k3 => decide); (case k4 => rfl); (case k6 => with_unfolding_all rfl); k_whole))
  k_with "M m_new" => first | exact List.forall_mem_nil _ | (refine' List.forall_mem_cons.mpr ⟨And.intro ?mzA ?mzB, ?mzC⟩; (case mzA => k_mem); (case mzB => (try dsimp only); first | exact Or.inl (by k_mem) | exact Or.inr (by walk_at "m_all")); (case mzC => walk_at "m_new"))
  k_with "M m_spl" => first | exact Mine.Spl.head | exact (Mine.Spl.tail Mine.Spl.head) | exact (Mine.Spl.tail (Mine.Spl.tail Mine.Spl.head)) | exact (Mine.Spl.tail (Mine.Spl.tail (Mine.Spl.tail Mine.Spl.head))) | exact (Mine.Spl.tail (Mine.Spl.tail (Mine.Spl.tail (Mine.Spl.tail Mine.Spl.head)))) | exact (Mine.Spl.tail (Mine.Spl.tail (Mine.Spl.tail (Mine.Spl.tail (Mine.Spl.tail Mine.Spl.head))))) | exact (Mine.Spl.tail (Mine.Spl.tail (Mine.Spl.tail (Mine.Spl.tail (Mine.Spl.tail (Mine.Spl.tail Mine.Spl.head)))))) | exact (Mine.Spl.tail (Mine.Spl.tail (Mine.Spl.tail (Mine.Spl.tail (Mine.Spl.tail (Mine.Spl.tail (Mine.Spl.tail Mine.Spl.head))))))) | exact (Mine.Spl.tail (Mine.Spl.tail (Mine.Spl.tail (Mine.Spl.tail (Mine.Spl.tail (Mine.Spl.tail (Mine.Spl.tail (Mine.Spl.tail Mine.Spl.head)))))))) | exact (Mine.Spl.tail (Mine.Spl.tail (Mine.Spl.tail (Mine.Spl.tail (Mine.Spl.tail (Mine.Spl.tail (Mine.Spl.tail (Mine.Spl.tail (Mine.Spl.tail Mine.Spl.head))))))))) | exact (Mine.Spl.tail (Mine.Spl.tail (Mine.Spl.tail (Mine.Spl.tail (Mine.Spl.tail (Mine.Spl.tail (Mine.Spl.tail (Mine.Spl.tail (Mine.Spl.tail (Mine.Spl.tail Mine.Spl.head)))))))))) | exact (Mine.Spl.tail (Mine.Spl.tail (Mine.Spl.tail (Mine.Spl.tail (Mine.Spl.tail (Mine.Spl.tail (Mine.Spl.tail (Mine.Spl.tail (Mine.Spl.tail (Mine.Spl.tail (Mine.Spl.tail Mine.Spl.head))))))))))) | exact (Mine.Spl.tail (Mine.Spl.tail (Mine.Spl.tail (Mine.Spl.tail (Mine.Spl.tail (Mine.Spl.tail (Mine.Spl.tail (Mine.Spl.tail (Mine.Spl.tail (Mine.Spl.tail (Mine.Spl.tail (Mine.Spl.tail Mine.Spl.head)))))))))))) | exact (Mine.Spl.tail (Mine.Spl.tail (Mine.Spl.tail (Mine.Spl.tail (Mine.Spl.tail (Mine.Spl.tail (Mine.Spl.tail (Mine.Spl.tail (Mine.Spl.tail (Mine.Spl.tail (Mine.Spl.tail (Mine.Spl.tail (Mine.Spl.tail Mine.Spl.head)))))))))))))
  k_with "M m_own" => first | exact List.forall_mem_nil _ | (refine' List.forall_mem_cons.mpr ⟨?mzA, ?mzB⟩; (case mzA => k_mem); (case mzB => walk_at "m_own"))
  k_with "M m_lvl" => first | exact lv_le 3 rfl (by assumption) rfl | exact lv_le 1 rfl (by assumption) rfl | exact lv_le 0 rfl (by assumption) rfl | exact lv_le 2 rfl (by assumption) rfl | ((try simp only [depth_under_make, depth_under_kw, depth_in1, depth_deeper, units_in1, units_deeper, units_under_make, Around.mark_units]); (try dsimp only); omega)
  k_with "M call builtin:len" => (k_here; (with_reducible show wpAny _ _ (call (Value.builtin "len") [Value.ref _]) _ _ _); k_dflt (refine' Mine.len_N ?k0 ?k1 ?k2 ?_; (case k0 => k_asm); (case k1 => k_mem); (case k2 => (try simp only [List.length_cons, List.length_nil]); omega); k_whole))
  k_with "M m_ne0" => (replace l1 := ne0_of l1; (try simp only [NewNe0, AllNe, and_true, and_assoc] at l1); (repeat (have := And.left l1; replace l1 := And.right l1)))
  k_with "M m_ne1" => (replace l1 := ne1_of l1; (try simp only [NewNe1, AllNe, and_true, true_or, true_and, and_assoc] at l1); (repeat (have := And.left l1; replace l1 := And.right l1)))
  k_with "M exec Raise some none" => (k_here; k_dflt (refine' Mine.raise_stmt ?hh ?_; (case hh => first | rfl | assumption)))
  k_with "M pyIter ref" => ((with_reducible show wpAny _ _ _ (fun it s₂ => UnrAt _ _ _ _ _ _ _ _ _ it s₂) _ _); (k_dflt (refine' Iter_tuple_unr ?hh ?ht ?F ?N ?htL ?_; (case F => k_asm); (case N => k_asm); (case hh => assumption); (case ht => exact News.isTup (by assumption) (by k_mem)); (case htL => exact News.ne_locals (by assumption) (by k_mem)))))
  k_with "M eval Name" => (k_here; (with_reducible show wpAny _ _ (eval (Expr.Name _ _) (envOfC _ _ _ _ _)) _ _ _); k_dflt (refine' nameX_L ?nxF ?nxV ?_; (case nxF => k_asm); (case nxV => rfl); k_whole))
  k_with "M m_sub" => first | exact List.forall_mem_nil _ | (refine' List.forall_mem_cons.mpr ⟨?mzA, ?mzB⟩; (case mzA => k_mem); (case mzB => walk_at "m_sub")) | (intro mzp mzh; k_mem)
  k_with "M m_off" => first | exact True.intro | assumption | (refine And.intro ⟨by k_ne, by k_ne, by k_ne⟩ ?_; walk_at "m_off")
  k_with "M m_same" => first | exact List.forall_mem_nil _ | (refine' List.forall_mem_cons.mpr ⟨?mzA, ?mzB⟩; (case mzA => (try dsimp only); first | exact Or.inl (by k_mem) | exact Or.inr (by k_mem)); (case mzB => walk_at "m_same")) | simp
  k_with "M m_all" => first | exact List.forall_mem_nil _ | (refine' List.forall_mem_cons.mpr ⟨?mzA, ?mzB⟩; (case mzA => k_ne); (case mzB => walk_at "m_all")) | assumption
  k_with "M om" => first | ((repeat (with_reducible rename (_ ≠ _) => hz9; clear hz9)); omega) | omega
  k_with "M m_ltp" => first | with_reducible assumption | (with_reducible rename (_ < _ ∧ _) => hq9; first | with_reducible exact hq9.1 | with_reducible exact hq9.2.1 | with_reducible exact hq9.2.2.1 | with_reducible exact hq9.2.2.2.1 | with_reducible exact hq9.2.2.2.2.1 | with_reducible exact hq9.2.2.2.2.2.1 | with_reducible exact hq9.2 | with_reducible exact hq9.2.2 | with_reducible exact hq9.2.2.2 | with_reducible exact hq9.2.2.2.2 | with_reducible exact hq9.2.2.2.2.2 | (clear hq9; walk_at "m_ltp"))
  k_with "M m_nel" => first | exact Nat.ne_of_lt (by walk_at "m_ltp") | exact Nat.ne_of_gt (by walk_at "m_ltp") | exact ne_lt_k 1 rfl (by walk_at "m_ltp") | exact ne_lt_k 2 rfl (by walk_at "m_ltp") | exact ne_lt_k 3 rfl (by walk_at "m_ltp") | exact ne_lt_k 4 rfl (by walk_at "m_ltp") | exact ne_gt_k 1 rfl (by walk_at "m_ltp") | exact ne_gt_k 2 rfl (by walk_at "m_ltp") | exact ne_gt_k 3 rfl (by walk_at "m_ltp") | exact ne_gt_k 4 rfl (by walk_at "m_ltp")
  k_with "M execs cons" => (k_here; (try k_gentoks); (with_reducible refine wpAny_execs_cons ?_); (try k_fold); (try dsimp only))
  k_with "M call ref" => (k_here; (with_reducible show wpAny _ _ (call (Value.ref 111) _) _ _ _); (k_dflt (refine' con_use0 (exc_con ?G _ _ _ _) ?F ?N ?st ?d ?u ?h ?o ?_; (case F => k_asm); (case N => k_asm); (case o => walk_at "m_own"); (case st => assumption); (case d => walk_at "m_lvl"); (case u => walk_at "m_lvl"); (case h => assumption); (try (case G => assumption)); (all_goals (try (case t1 => first | omega | decide | assumption))); (all_goals (try (case t2 => first | omega | decide | assumption))); (all_goals (try (case t3 => first | omega | decide | assumption))); (all_goals (try (case t4 => first | omega | decide | assumption))); (all_goals (try (case t5 => first | omega | decide | assumption))); (all_goals (try (case a1 => assumption))); (all_goals (try (case a2 => assumption))); (all_goals (try (case a3 => assumption))); k_whole)); intro v new h' tk' hV F' N' l1; obtain ⟨e1, d1, t1', k1', t2', k3', t3', e', hv', hne1⟩ := hV; subst e'; subst hv'; (try simp only [List.nil_append, List.cons_append] at N'); walk_at "m_ne0"; (try dsimp only); (try k_sweep))
  trivial
noncomputable def dEnd : List Nat → Nat → Option Nat → Option Nat
  | [], _, _ => none
  | c :: r, a, some q => dEnd r (a + 1) (if c = q then none else some q)
  | c :: r, a, none => if c = 34 ∨ c = 39 then dEnd r (a + 1) (some c) else if c = 62 then some (a + 1) else dEnd r (a + 1) none
noncomputable def qStr : Option Nat → Str
  | none => Str.ofString ""
  | some q => ⟨#[q]⟩
noncomputable abbrev dMap (text : Str) (b : Nat) (tt tb : Tok) (at_ : Nat) (ta : Tok) (qs : Str) (tq : Tok) (u : Option Value) : Str → Option Value := fun y =>
  if y = Str.ofString "at" then some (Value.int at_ ta) else if y = Str.ofString "quote" then some (Value.str qs tq) else if y = Str.ofString "sign" then u else List.lookup y [(Str.ofString "begin", Value.int b tb), (Str.ofString "text", Value.str text tt)]
theorem item_at {text : Str} {i c : Nat} (h : text.cps.toList[i]? = some c) : Txt.item text (i : Int) = ⟨#[c]⟩ := by
  unfold Txt.item Txt.charAt
  rw [StrLaws.at_nonneg (by walk_at "om") (by rw [← Array.getElem?_toList]; exact h)]
  rfl
theorem qStr_ne (q : Nat) : (qStr (some q) != Str.ofString "") = true := bne_iff_ne.mpr fun h => by
  have := congrArg (fun s : Str => s.cps.size) h
  exact absurd this (by show ¬ 1 = _; decide)
theorem dEnd_q1 {c a : Nat} {r : List Nat} (h : c = 34 ∨ c = 39) : dEnd (c :: r) a none = dEnd r (a + 1) (some c) := by rw [dEnd, if_pos h]
theorem dEnd_end {c a : Nat} {r : List Nat} (h : c = 62) : dEnd (c :: r) a none = some (a + 1) := by rw [dEnd, if_neg (by walk_at "om"), if_pos h]
theorem dEnd_o {c a : Nat} {r : List Nat} (h1 : c ≠ 34) (h2 : c ≠ 39) (h : c ≠ 62) : dEnd (c :: r) a none = dEnd r (a + 1) none := by rw [dEnd, if_neg (by walk_at "om"), if_neg h]
theorem dEnd_c {c a : Nat} {r : List Nat} : dEnd (c :: r) a (some c) = dEnd r (a + 1) none := by rw [dEnd, if_pos rfl]
theorem dEnd_k {c q a : Nat} {r : List Nat} (h : c ≠ q) : dEnd (c :: r) a (some q) = dEnd r (a + 1) (some q) := by rw [dEnd, if_neg h]
theorem dsc : Str.ofString "\"" = ⟨#[34]⟩ ∧ Str.ofString "'" = ⟨#[39]⟩ ∧ Str.ofString ">" = ⟨#[62]⟩ := by decide
set_option autoImplicit false in
inductive DeJ (text : Str) (b : Nat) (tt tb : Tok) (res : Option Nat) (j : Nat) (m₁ : Str → Option Value) (news₁ : List (Addr × Obj)) : Prop
  | mk (at_ : _) (q : _) (ta : _) (tq : _) (u : _) (z0 : j = text.length - at_) (z1 : dEnd (text.cps.toList.drop at_) at_ q = res) (z2 : news₁ = []) (z3 : m₁ = dMap text b tt tb at_ ta (qStr q) tq u) : DeJ text b tt tb res j m₁ news₁
section
variable {prog : Program} {w : World} {mean : ExcName → Option Value} {mg mb : Str → Option Value} {B : Heap} (G : Gd w mean mg mb B)
include G
theorem dend_con (text : Str) (b e : Nat) (tt tb : Tok) (hlen : text.length < 1000000) (he : dEnd (text.cps.toList.drop b) b none = some e) :
    Con prog w B 54 (.ref 232) [.str text tt, .int b tb] [] [] (fun v new => new = [] ∧ ∃ tv, v = .int e tv) := by
  intro A s R hA hu hh hB hown k
  obtain ⟨ah, ad, af, ag, au⟩ := A
  obtain rfl : ah = none := hh
  have hh : (Around.mk none ad af ag au).handled = none := rfl
  replace hA : ad ≤ _ := hA
  replace hu : au ≤ _ := hu
  refine' enter G (binds := [("text", Value.str text tt), ("begin", Value.int b tb)]) (rb := [("begin", Value.int b tb), ("text", Value.str text tt)]) _ hB hown (Nat.le_trans hA (by decide)) ?ho ?hcd ?hb ?hl rfl ?k ?c1 ?c2 ?c3 ?c4
  case ho => k_is
  case hcd => k_is
  case hb => first | exact BindsTo.of_eq rfl | exact binds_K (G.X.keeps hB) rfl (by k_is) rfl rfl rfl
  case hl => exact locs rfl
  case c1 => rfl
  case c2 => rfl
  case c3 => rfl
  case c4 => decide
  case k =>
    intro g L' h₁ m Q tk hg hL hm hQ hQn F N X' T' st
    subst hm
    repeat ((fail_if_success (with_reducible show wpAny _ _ (exec (Stmt.While _ _ _ _) _) _ _ _)); walk1)
    refine While_inv2 (fun j m₁ news₁ => DeJ text b tt tb (some e) j m₁ news₁) (n₀ := text.length - b) (by assumption) News.nil ?start ?_ PassesOwn.never
    case start =>
      refine' ⟨b, none, _, _, none, rfl, he, rfl, ?mp⟩
      case mp =>
        funext y
        by_cases h0 : y = Str.ofString "at"
        · subst h0; rfl
        by_cases h1 : y = Str.ofString "quote"
        · subst h1; rfl
        by_cases h2 : y = Str.ofString "sign"
        · subst h2; rfl
        simp only [if_neg h0, if_neg h1, if_neg h2]
    rintro j m₁ news₁ h₂ tk₂ F₂ N₂ ⟨at_, q, ta, tq, u, hj, hd, rfl, rfl⟩
    (try dsimp only)
    by_cases hp : at_ < text.length
    · have hp' : at_ < text.cps.toList.length := by simpa [Str.length] using hp
      have hc := List.getElem?_eq_getElem hp'
      rw [List.drop_eq_getElem_cons hp'] at hd
      generalize text.cps.toList[at_] = c at hc hd
      have hit := item_at hc
      cases q with
      | none =>
        k_steps
        all_goals (simp only [hit, dsc, eq1, beq_iff_eq, beq_eq_false_iff_ne] at *)
        · rename_i hq _ _ _ _
          refine' ws_next (by assumption) (by assumption) (show text.length - (at_ + 1) < j by walk_at "om") ⟨at_ + 1, some c, _, _, _, rfl, (dEnd_q1 (.inl (by assumption))).symm.trans hd, rfl, ?mp⟩
          case mp =>
            funext y
            by_cases h0 : y = Str.ofString "at"
            · subst h0; rfl
            by_cases h1 : y = Str.ofString "quote"
            · subst h1; rfl
            by_cases h2 : y = Str.ofString "sign"
            · subst h2; rfl
            simp only [if_neg h0, if_neg h1, if_neg h2]
        · refine' ws_next (by assumption) (by assumption) (show text.length - (at_ + 1) < j by walk_at "om") ⟨at_ + 1, some c, _, _, _, rfl, (dEnd_q1 (.inr (by assumption))).symm.trans hd, rfl, ?mp⟩
          case mp =>
            funext y
            by_cases h0 : y = Str.ofString "at"
            · subst h0; rfl
            by_cases h1 : y = Str.ofString "quote"
            · subst h1; rfl
            by_cases h2 : y = Str.ofString "sign"
            · subst h2; rfl
            simp only [if_neg h0, if_neg h1, if_neg h2]
        · have he := (dEnd_end (by assumption)).symm.trans hd
          cases he
          refine hQ _ _ ?_
          exact (con_end (s := s) [] k hg (fun q hq => (hown q hq).1) (by assumption) (by assumption) (by walk_at "m_same") (by walk_at "m_new") ⟨rfl, _, rfl⟩)
        · refine' ws_next (by assumption) (by assumption) (show text.length - (at_ + 1) < j by walk_at "om") ⟨at_ + 1, none, _, _, _, rfl, (dEnd_o (by assumption) (by assumption) (by assumption)).symm.trans hd, rfl, ?mp⟩
          case mp =>
            funext y
            by_cases h0 : y = Str.ofString "at"
            · subst h0; rfl
            by_cases h1 : y = Str.ofString "quote"
            · subst h1; rfl
            by_cases h2 : y = Str.ofString "sign"
            · subst h2; rfl
            simp only [if_neg h0, if_neg h1, if_neg h2]
      | some q =>
        have hqn := qStr_ne q
        k_steps
        all_goals (simp only [hit, qStr, eq1, beq_iff_eq, beq_eq_false_iff_ne] at *)
        · obtain rfl : c = q := by assumption
          refine' ws_next (by assumption) (by assumption) (show text.length - (at_ + 1) < j by walk_at "om") ⟨at_ + 1, none, _, _, _, rfl, dEnd_c.symm.trans hd, rfl, ?mp⟩
          case mp =>
            funext y
            by_cases h0 : y = Str.ofString "at"
            · subst h0; rfl
            by_cases h1 : y = Str.ofString "quote"
            · subst h1; rfl
            by_cases h2 : y = Str.ofString "sign"
            · subst h2; rfl
            simp only [if_neg h0, if_neg h1, if_neg h2]
        · refine' ws_next (by assumption) (by assumption) (show text.length - (at_ + 1) < j by walk_at "om") ⟨at_ + 1, some q, _, _, _, rfl, (dEnd_k (by assumption)).symm.trans hd, rfl, ?mp⟩
          case mp =>
            funext y
            by_cases h0 : y = Str.ofString "at"
            · subst h0; rfl
            by_cases h1 : y = Str.ofString "quote"
            · subst h1; rfl
            by_cases h2 : y = Str.ofString "sign"
            · subst h2; rfl
            simp only [if_neg h0, if_neg h1, if_neg h2]
    · rw [List.drop_eq_nil_of_le (by simp [Str.length] at hp; simp; walk_at "om")] at hd
      cases hd
theorem dendR_con (text : Str) (b : Nat) (tt tb : Tok) (hlen : text.length < 1000000) (he : dEnd (text.cps.toList.drop b) b none = none) :
    ConR prog w B 54 (.ref 232) [.str text tt, .int b tb] [] [] b := by
  intro A s R outer C k
  obtain ⟨ah, ad, af, ag, au⟩ := A
  obtain rfl : ah = none := C.ha
  refine' enterF G C (by decide) (binds := [("text", Value.str text tt), ("begin", Value.int b tb)]) (rb := [("begin", Value.int b tb), ("text", Value.str text tt)]) ?ho ?hcd ?hb ?hl rfl ?k ?c1 ?c2 ?c3 ?c4
  case ho => k_is
  case hcd => k_is
  case hb => first | exact BindsTo.of_eq rfl | exact binds_K (G.X.keeps C.st) rfl (by k_is) rfl rfl rfl
  case hl => exact locs rfl
  case c1 => rfl
  case c2 => rfl
  case c3 => rfl
  case c4 => decide
  case k =>
    intro g L' h₁ m Q E tk gr hm hQ hQn hE hP F N X' T' st ff
    subst hm
    have hA : ad ≤ _ := C.lv
    have hu : au ≤ _ := C.un
    have hh := C.ha
    have hfr : af = some outer := C.fr
    repeat ((fail_if_success (with_reducible show wpAny _ _ (exec (Stmt.While _ _ _ _) _) _ _ _)); walk1)
    refine While_inv2 (fun j m₁ news₁ => DeJ text b tt tb none j m₁ news₁) (n₀ := text.length - b) (by assumption) News.nil ?start ?_ hP
    case start =>
      refine' ⟨b, none, _, _, none, rfl, he, rfl, ?mp⟩
      case mp =>
        funext y
        by_cases h0 : y = Str.ofString "at"
        · subst h0; rfl
        by_cases h1 : y = Str.ofString "quote"
        · subst h1; rfl
        by_cases h2 : y = Str.ofString "sign"
        · subst h2; rfl
        simp only [if_neg h0, if_neg h1, if_neg h2]
    rintro j m₁ news₁ h₂ tk₂ F₂ N₂ ⟨at_, q, ta, tq, u, hj, hd, rfl, rfl⟩
    (try dsimp only)
    by_cases hp : at_ < text.length
    · have hp' : at_ < text.cps.toList.length := by simpa [Str.length] using hp
      have hc := List.getElem?_eq_getElem hp'
      rw [List.drop_eq_getElem_cons hp'] at hd
      generalize text.cps.toList[at_] = c at hc hd
      have hit := item_at hc
      cases q with
      | none =>
        k_steps
        all_goals (simp only [hit, dsc, eq1, beq_iff_eq, beq_eq_false_iff_ne] at *)
        · rename_i hq _ _ _ _
          refine' ws_next (by assumption) (by assumption) (show text.length - (at_ + 1) < j by walk_at "om") ⟨at_ + 1, some c, _, _, _, rfl, (dEnd_q1 (.inl (by assumption))).symm.trans hd, rfl, ?mp⟩
          case mp =>
            funext y
            by_cases h0 : y = Str.ofString "at"
            · subst h0; rfl
            by_cases h1 : y = Str.ofString "quote"
            · subst h1; rfl
            by_cases h2 : y = Str.ofString "sign"
            · subst h2; rfl
            simp only [if_neg h0, if_neg h1, if_neg h2]
        · refine' ws_next (by assumption) (by assumption) (show text.length - (at_ + 1) < j by walk_at "om") ⟨at_ + 1, some c, _, _, _, rfl, (dEnd_q1 (.inr (by assumption))).symm.trans hd, rfl, ?mp⟩
          case mp =>
            funext y
            by_cases h0 : y = Str.ofString "at"
            · subst h0; rfl
            by_cases h1 : y = Str.ofString "quote"
            · subst h1; rfl
            by_cases h2 : y = Str.ofString "sign"
            · subst h2; rfl
            simp only [if_neg h0, if_neg h1, if_neg h2]
        · have he := (dEnd_end (by assumption)).symm.trans hd
          cases he
        · refine' ws_next (by assumption) (by assumption) (show text.length - (at_ + 1) < j by walk_at "om") ⟨at_ + 1, none, _, _, _, rfl, (dEnd_o (by assumption) (by assumption) (by assumption)).symm.trans hd, rfl, ?mp⟩
          case mp =>
            funext y
            by_cases h0 : y = Str.ofString "at"
            · subst h0; rfl
            by_cases h1 : y = Str.ofString "quote"
            · subst h1; rfl
            by_cases h2 : y = Str.ofString "sign"
            · subst h2; rfl
            simp only [if_neg h0, if_neg h1, if_neg h2]
      | some q =>
        have hqn := qStr_ne q
        k_steps
        all_goals (simp only [hit, qStr, eq1, beq_iff_eq, beq_eq_false_iff_ne] at *)
        · obtain rfl : c = q := by assumption
          refine' ws_next (by assumption) (by assumption) (show text.length - (at_ + 1) < j by walk_at "om") ⟨at_ + 1, none, _, _, _, rfl, dEnd_c.symm.trans hd, rfl, ?mp⟩
          case mp =>
            funext y
            by_cases h0 : y = Str.ofString "at"
            · subst h0; rfl
            by_cases h1 : y = Str.ofString "quote"
            · subst h1; rfl
            by_cases h2 : y = Str.ofString "sign"
            · subst h2; rfl
            simp only [if_neg h0, if_neg h1, if_neg h2]
        · refine' ws_next (by assumption) (by assumption) (show text.length - (at_ + 1) < j by walk_at "om") ⟨at_ + 1, some q, _, _, _, rfl, (dEnd_k (by assumption)).symm.trans hd, rfl, ?mp⟩
          case mp =>
            funext y
            by_cases h0 : y = Str.ofString "at"
            · subst h0; rfl
            by_cases h1 : y = Str.ofString "quote"
            · subst h1; rfl
            by_cases h2 : y = Str.ofString "sign"
            · subst h2; rfl
            simp only [if_neg h0, if_neg h1, if_neg h2]
    · k_steps
      refine thrown X' (by assumption) (by assumption) (by k_mem) (by rfl) ?_
      refine hE _ _ ?_
      exact (raise_end k C gr (by assumption) (by assumption) st ff rfl (fun z => nomatch z) (by k_mem) (by k_mem) hne1 (by walk_at "m_same") (.inl rfl) (by walk_at "m_all") (by walk_at "m_all") (by walk_at "m_same"))
end
set_option maxRecDepth 100000
set_option maxHeartbeats 8000000
noncomputable def strsOf : List Value → Option (List Str)
  | [] => some []
  | .str s _ :: r => (strsOf r).map (s :: ·)
  | _ :: _ => none
theorem strsOf_mem {vs : List Value} : ∀ {ss : List Str} {v : Value}, strsOf vs = some ss → v ∈ vs → ∃ s t, v = .str s t ∧ s ∈ ss := by
  induction vs with
  | nil => intro _ _ _ hv; cases hv
  | cons x r ih =>
    intro ss v h hv
    cases x with
    | str s t =>
      unfold strsOf at h
      cases e : strsOf r with
      | none => rw [e] at h; cases h
      | some l =>
        rw [e] at h; cases h
        rcases List.mem_cons.mp hv with rfl | hv
        · exact ⟨s, t, rfl, .head _⟩
        · obtain ⟨s', t', h1, h2⟩ := ih e hv
          exact ⟨s', t', h1, .tail _ h2⟩
    | _ => exact nomatch (h : none = some ss)
theorem small20 {d : Int} (h0 : 0 ≤ d) (h1 : d < 20) : Builtin.Range.small 0 d 1 = true := by
  have : ∀ n : Fin 20, Builtin.Range.small 0 (n.val : Int) 1 = true := by decide
  have := this ⟨d.toNat, by omega⟩
  rwa [show (((⟨d.toNat, by omega⟩ : Fin 20).val : Nat) : Int) = d from by show ((d.toNat : Nat) : Int) = d; omega] at this
theorem size20 {d : Int} (h0 : 0 ≤ d) : Builtin.Range.rangeSize 0 d 1 = ((d.toNat : Nat) : Int) := by
  rw [rangeSize_nat]; congr 2; omega
section
variable {prog : Program} {w : World} {A : Around} {E : Value → Shared → Prop} {s : Shared} {env : Env} {h₀ : Heap} {x : Str} {body : List Stmt} {Q : Flow → Shared → Prop}
theorem UnrPost.mono {L : Addr} {s₁ : Shared} {I : Addr} {it : Obj} {r r' : (Str → Option Value) → List (Addr × Obj) → Prop} (h : ∀ m news, r m news → r' m news) {f : Flow} {s₂ : Shared} (x : UnrPost h₀ L s₁ I it r Q f s₂) : UnrPost h₀ L s₁ I it r' Q f s₂ := by
  cases f with
  | ret v => exact x
  | brk => exact x
  | next => obtain ⟨a, b, c, d, e, f, g, i, j⟩ := x; exact ⟨a, b, c, d, e, f, g, i, h _ _ j⟩
  | cont => obtain ⟨a, b, c, d, e, f, g, i, j⟩ := x; exact ⟨a, b, c, d, e, f, g, i, h _ _ j⟩
theorem range_inv {I : Addr} {a : Int} {n : Nat} (J : Nat → (Str → Option Value) → List (Addr × Obj) → Prop)
    (step : ∀ i m news t h tk it, i < n → J i m news → Fr h₀ env.locals h (fun y => if y = x then some (.int (a + (i : Int)) t) else m y) → News h₀ env.locals h ((I, it) :: news) → it = itR (a + ((i + 1 : Nat) : Int)) ((n : Int) - ((i + 1 : Nat) : Int)) →
      wpAny (model prog w) A (execs body env) (UnrPost h₀ env.locals { s with heap := h, toks := tk } I it (J (i + 1)) Q) E { s with heap := h, toks := tk })
    (fin : ∀ m news h tk, J n m news → Fr h₀ env.locals h m → News h₀ env.locals h news → Q .next { s with heap := h, toks := tk }) :
    ∀ k i m news, i + k = n → J i m news → RangeRest prog w A E h₀ env x body Q s I a n k i m news
  | 0, i, m, news, hi, hJ => by
    obtain rfl : i = n := by omega
    exact RangeRest.zero fun h tk F N => fin m news h tk hJ F N
  | k + 1, i, m, news, hi, hJ => RangeRest.succ fun t h tk F N =>
    wpAny_mono (step i m news t h tk _ (by omega) hJ F N rfl) (fun f s₂ y => UnrPost.mono (f := f) (s₂ := s₂) (h := fun m' news' z => range_inv J step fin k (i + 1) m' news' (by omega) z) y) fun _ _ y => y
end
theorem cl_append (a b : Str) : (a ++ b).cps.toList = a.cps.toList ++ b.cps.toList := Array.toList_append
theorem len_append (a b : Str) : (a ++ b).length = a.length + b.length := Array.size_append
noncomputable def bal (t : List Nat) : Prop := ∀ r a, dEnd (t ++ r) a none = dEnd r (a + t.length) none
theorem bal.nil : bal [] := fun _ _ => rfl
theorem bal.append {t u : List Nat} (x : bal t) (y : bal u) : bal (t ++ u) := fun r a => by
  rw [List.append_assoc, x, y, List.length_append, Nat.add_assoc]
noncomputable def EndT (text : Str) : Prop := ∃ U, text.cps.toList = 60 :: 33 :: 88 :: U ∧ bal U
theorem EndT.start : EndT (Str.ofString "<!X") := ⟨[], by decide, .nil⟩
noncomputable abbrev endS : List Str := [Str.ofString " a", Str.ofString " \">\"", Str.ofString " '>\">'", Str.ofString " '\"'", Str.ofString " \"\""]
theorem bal_endS : ∀ s ∈ endS, bal s.cps.toList := by
  intro s hs
  simp only [endS, List.mem_cons, List.not_mem_nil, or_false] at hs
  rcases hs with rfl | rfl | rfl | rfl | rfl <;> exact fun r a => rfl
theorem EndT.step {text s : Str} (h : EndT text) (hs : s ∈ endS) : EndT (text ++ s) := by
  obtain ⟨U, e, b⟩ := h
  exact ⟨U ++ s.cps.toList, by rw [cl_append, e]; rfl, b.append (bal_endS s hs)⟩
theorem EndT.no {text : Str} (h : EndT text) {b : Nat} (hb : b < 3) : dEnd (text.cps.toList.drop b) b none = none := by
  obtain ⟨U, e, bU⟩ := h
  have := bU [] 3
  rw [List.append_nil] at this
  rw [e]
  have e3 : dEnd U 3 none = none := this
  rcases (by omega : b = 0 ∨ b = 1 ∨ b = 2) with rfl | rfl | rfl <;> exact e3
theorem EndT.yes {text s : Str} (h : EndT text) {b : Nat} (hb : b < 3) : dEnd ((text ++ Str.ofString ">" ++ s).cps.toList.drop b) b none = some (text.length + 1) := by
  obtain ⟨U, e, bU⟩ := h
  have := bU (62 :: s.cps.toList) 3
  have e2 : (text ++ Str.ofString ">" ++ s).cps.toList = 60 :: 33 :: 88 :: (U ++ 62 :: s.cps.toList) := by
    rw [cl_append, cl_append, e]
    show (60 :: 33 :: 88 :: U) ++ [62] ++ s.cps.toList = _
    simp
  have e3 : text.length = 3 + U.length := by
    show text.cps.toList.length = _
    rw [e]; simp; omega
  rw [e2, e3]
  have e4 : dEnd (U ++ 62 :: s.cps.toList) 3 none = some (3 + U.length + 1) := this.trans rfl
  rcases (by omega : b = 0 ∨ b = 1 ∨ b = 2) with rfl | rfl | rfl <;> exact e4
section
variable {prog : Program} {w : World} {mean : ExcName → Option Value} {mg mb : Str → Option Value} {B : Heap} (G : Gd w mean mg mb B)
include G
theorem oneS_con (src th : Nat) (a b : Int) (ta tb : Tok) (n nt : Nat) (vs : List Value) (ss : List Str) (hss : strsOf vs = some ss) (hsl : ∀ s ∈ ss, s.length ≤ 20) (ht : 0 < vs.length) (ht2 : vs.length ≤ 20) (ha : 0 ≤ a) (hb0 : 0 ≤ b) (hb1 : b < 2147483647) (hne : th ≠ src) :
    Con prog w B 55 (.ref 253) [.ref src, .ref th] [(src, srcO a b ta tb n), (th, listOf vs.toArray nt)] [src]
      (fun v new => ∃ s t a' b' ta' tb' n', new = [(src, srcO a' b' ta' tb' n')] ∧ v = .str s t ∧ s ∈ ss ∧ s.length ≤ 20 ∧ 0 ≤ a' ∧ 0 ≤ b' ∧ b' < 2147483647) :=
  (one_con G src th a b ta tb n nt vs ht ht2 ha hb0 hb1 hne).mono fun v new ⟨a', b', ta', tb', n', e, hv, h1, h2, h3⟩ => by
    obtain ⟨s, t, rfl, hs⟩ := strsOf_mem hss hv
    exact ⟨s, t, a', b', ta', tb', n', e, rfl, hs, hsl s hs, h1, h2, h3⟩
theorem oneS_use {A : Around} {s : Shared} {g : Heap} {L : Addr} {m : Str → Option Value} {news rest : List (Addr × Obj)} {Q E : Value → Shared → Prop} {src : Nat} {a b : Int} {ta tb : Tok} {n : Nat} {th nt : Nat} {vs : List Value} {ss : List Str}
    (F : Fr g L s.heap m) (N : News g L s.heap news) (st : B.StaysIn g) (hA : A.depth ≤ 300 + 55) (hu : A.units ≤ 8 * 55) (hh : A.handled = none) (sp : Spl src (srcO a b ta tb n) news rest) (hth : (th, listOf vs.toArray nt) ∈ news) (hne : ∀ q ∈ rest, q.1 ≠ src)
    (hss : strsOf vs = some ss) (hsl : ∀ s ∈ ss, s.length ≤ 20) (ht : 0 < vs.length) (ht2 : vs.length ≤ 20) (ha : 0 ≤ a) (hb0 : 0 ≤ b) (hb1 : b < 2147483647) (hn : th ≠ src)
    (k : ∀ x t a' b' ta' tb' n' h' tk', x ∈ ss → x.length ≤ 20 → 0 ≤ a' → 0 ≤ b' → b' < 2147483647 → Fr g L h' m → News g L h' ((src, srcO a' b' ta' tb' n') :: rest) → Q (.str x t) { s with heap := h', toks := tk' }) :
    wpAny (model prog w) A (call (.ref 253) [.ref src, .ref th]) Q E s :=
  con_use1 (oneS_con G src th a b ta tb n nt vs ss hss hsl ht ht2 ha hb0 hb1 hn) F N st hA hu hh (fun q hq => (List.mem_cons.mp hq).elim (fun e => e ▸ sp.mem) fun hq => (List.mem_singleton.mp hq) ▸ hth) sp hne fun v new h' tk' hV F' N' _ => by
    obtain ⟨x, t, a', b', ta', tb', n', rfl, rfl, h0, h1, h2, h3, h4⟩ := hV
    exact k x t a' b' ta' tb' n' h' tk' h0 h1 h2 h3 h4 F' N'
end
set_option maxRecDepth 100000
set_option maxHeartbeats 8000000
end Own
theorem ln17 : True := by
  k_with_none
  k_with "M subscriptTail Name Constant ref int" => (k_here; (with_reducible show wpAny _ _ (subscriptTail _ _ (Value.ref _) (Value.int _ _)) _ _ _); k_dflt (refine' Mine.item_N ?k0 ?k1 ?k2 ?k3 ?k4 ?_ ?k6; (case k0 => k_asm); (case k1 => k_mem); (case k2 => decide); (case k3 => decide); (case k4 => rfl); (case k6 => with_unfolding_all rfl); k_whole))
  k_with "M m_new" => first | exact List.forall_mem_nil _ | (refine' List.forall_mem_cons.mpr ⟨And.intro ?mzA ?mzB, ?mzC⟩; (case mzA => k_mem); (case mzB => (try dsimp only); first | exact Or.inl (by k_mem) | exact Or.inr (by walk_at "m_all")); (case mzC => walk_at "m_new"))
  k_with "M m_spl" => first | exact Mine.Spl.head | exact (Mine.Spl.tail Mine.Spl.head) | exact (Mine.Spl.tail (Mine.Spl.tail Mine.Spl.head)) | exact (Mine.Spl.tail (Mine.Spl.tail (Mine.Spl.tail Mine.Spl.head))) | exact (Mine.Spl.tail (Mine.Spl.tail (Mine.Spl.tail (Mine.Spl.tail Mine.Spl.head)))) | exact (Mine.Spl.tail (Mine.Spl.tail (Mine.Spl.tail (Mine.Spl.tail (Mine.Spl.tail Mine.Spl.head))))) | exact (Mine.Spl.tail (Mine.Spl.tail (Mine.Spl.tail (Mine.Spl.tail (Mine.Spl.tail (Mine.Spl.tail Mine.Spl.head)))))) | exact (Mine.Spl.tail (Mine.Spl.tail (Mine.Spl.tail (Mine.Spl.tail (Mine.Spl.tail (Mine.Spl.tail (Mine.Spl.tail Mine.Spl.head))))))) | exact (Mine.Spl.tail (Mine.Spl.tail (Mine.Spl.tail (Mine.Spl.tail (Mine.Spl.tail (Mine.Spl.tail (Mine.Spl.tail (Mine.Spl.tail Mine.Spl.head)))))))) | exact (Mine.Spl.tail (Mine.Spl.tail (Mine.Spl.tail (Mine.Spl.tail (Mine.Spl.tail (Mine.Spl.tail (Mine.Spl.tail (Mine.Spl.tail (Mine.Spl.tail Mine.Spl.head))))))))) | exact (Mine.Spl.tail (Mine.Spl.tail (Mine.Spl.tail (Mine.Spl.tail (Mine.Spl.tail (Mine.Spl.tail (Mine.Spl.tail (Mine.Spl.tail (Mine.Spl.tail (Mine.Spl.tail Mine.Spl.head)))))))))) | exact (Mine.Spl.tail (Mine.Spl.tail (Mine.Spl.tail (Mine.Spl.tail (Mine.Spl.tail (Mine.Spl.tail (Mine.Spl.tail (Mine.Spl.tail (Mine.Spl.tail (Mine.Spl.tail (Mine.Spl.tail Mine.Spl.head))))))))))) | exact (Mine.Spl.tail (Mine.Spl.tail (Mine.Spl.tail (Mine.Spl.tail (Mine.Spl.tail (Mine.Spl.tail (Mine.Spl.tail (Mine.Spl.tail (Mine.Spl.tail (Mine.Spl.tail (Mine.Spl.tail (Mine.Spl.tail Mine.Spl.head)))))))))))) | exact (Mine.Spl.tail (Mine.Spl.tail (Mine.Spl.tail (Mine.Spl.tail (Mine.Spl.tail (Mine.Spl.tail (Mine.Spl.tail (Mine.Spl.tail (Mine.Spl.tail (Mine.Spl.tail (Mine.Spl.tail (Mine.Spl.tail (Mine.Spl.tail Mine.Spl.head)))))))))))))
  k_with "M m_own" => first | exact List.forall_mem_nil _ | (refine' List.forall_mem_cons.mpr ⟨?mzA, ?mzB⟩; (case mzA => k_mem); (case mzB => walk_at "m_own"))
  k_with "M m_lvl" => first | exact lv_le 3 rfl (by assumption) rfl | exact lv_le 1 rfl (by assumption) rfl | exact lv_le 0 rfl (by assumption) rfl | exact lv_le 2 rfl (by assumption) rfl | ((try simp only [depth_under_make, depth_under_kw, depth_in1, depth_deeper, units_in1, units_deeper, units_under_make, Around.mark_units]); (try dsimp only); omega)
  k_with "M call builtin:len" => (k_here; (with_reducible show wpAny _ _ (call (Value.builtin "len") [Value.ref _]) _ _ _); k_dflt (refine' Mine.len_N ?k0 ?k1 ?k2 ?_; (case k0 => k_asm); (case k1 => k_mem); (case k2 => (try simp only [List.length_cons, List.length_nil]); omega); k_whole))
  k_with "M m_ne0" => (replace l1 := ne0_of l1; (try simp only [NewNe0, AllNe, and_true, and_assoc] at l1); (repeat (have := And.left l1; replace l1 := And.right l1)))
  k_with "M m_ne1" => (replace l1 := ne1_of l1; (try simp only [NewNe1, AllNe, and_true, true_or, true_and, and_assoc] at l1); (repeat (have := And.left l1; replace l1 := And.right l1)))
  k_with "M exec Raise some none" => (k_here; k_dflt (refine' Mine.raise_stmt ?hh ?_; (case hh => first | rfl | assumption)))
  k_with "M pyIter ref" => ((with_reducible show wpAny _ _ _ (fun it s₂ => UnrAt _ _ _ _ _ _ _ _ _ it s₂) _ _); (k_dflt (refine' Iter_tuple_unr ?hh ?ht ?F ?N ?htL ?_; (case F => k_asm); (case N => k_asm); (case hh => assumption); (case ht => exact News.isTup (by assumption) (by k_mem)); (case htL => exact News.ne_locals (by assumption) (by k_mem)))))
  k_with "M eval Name" => (k_here; (with_reducible show wpAny _ _ (eval (Expr.Name _ _) (envOfC _ _ _ _ _)) _ _ _); k_dflt (refine' nameX_L ?nxF ?nxV ?_; (case nxF => k_asm); (case nxV => rfl); k_whole))
  k_with "M m_same" => first | exact List.forall_mem_nil _ | (refine' List.forall_mem_cons.mpr ⟨?mzA, ?mzB⟩; (case mzA => (try dsimp only); first | exact Or.inl (by k_mem) | exact Or.inr (by k_mem)); (case mzB => walk_at "m_same")) | simp
  k_with "M m_all" => first | exact List.forall_mem_nil _ | (refine' List.forall_mem_cons.mpr ⟨?mzA, ?mzB⟩; (case mzA => k_ne); (case mzB => walk_at "m_all")) | assumption
  k_with "M om" => first | ((repeat (with_reducible rename (_ ≠ _) => hz9; clear hz9)); omega) | omega
  k_with "M m_ltp" => first | with_reducible assumption | (with_reducible rename (_ < _ ∧ _) => hq9; first | with_reducible exact hq9.1 | with_reducible exact hq9.2.1 | with_reducible exact hq9.2.2.1 | with_reducible exact hq9.2.2.2.1 | with_reducible exact hq9.2.2.2.2.1 | with_reducible exact hq9.2.2.2.2.2.1 | with_reducible exact hq9.2 | with_reducible exact hq9.2.2 | with_reducible exact hq9.2.2.2 | with_reducible exact hq9.2.2.2.2 | with_reducible exact hq9.2.2.2.2.2 | (clear hq9; walk_at "m_ltp"))
  k_with "M m_nel" => first | exact Nat.ne_of_lt (by walk_at "m_ltp") | exact Nat.ne_of_gt (by walk_at "m_ltp") | exact ne_lt_k 1 rfl (by walk_at "m_ltp") | exact ne_lt_k 2 rfl (by walk_at "m_ltp") | exact ne_lt_k 3 rfl (by walk_at "m_ltp") | exact ne_lt_k 4 rfl (by walk_at "m_ltp") | exact ne_gt_k 1 rfl (by walk_at "m_ltp") | exact ne_gt_k 2 rfl (by walk_at "m_ltp") | exact ne_gt_k 3 rfl (by walk_at "m_ltp") | exact ne_gt_k 4 rfl (by walk_at "m_ltp")
  k_with "M execs cons" => (k_here; (try k_gentoks); (with_reducible refine wpAny_execs_cons ?_); (try k_fold); (try dsimp only))
  k_with "M call ref" => (k_here; (with_reducible show wpAny _ _ (call (Value.ref 246) _) _ _ _); (k_dflt (refine' take_use ?G ?F ?N ?st ?d ?u ?h ?sp ?ne ?t1 ?t2 ?t3 ?t4 ?t5 ?_; (case F => k_asm); (case N => k_asm); (case sp => walk_at "m_spl"); (case ne => walk_at "m_all"); (case st => assumption); (case d => walk_at "m_lvl"); (case u => walk_at "m_lvl"); (case h => assumption); (try (case G => assumption)); (all_goals (try (case t1 => first | omega | decide | assumption))); (all_goals (try (case t2 => first | omega | decide | assumption))); (all_goals (try (case t3 => first | omega | decide | assumption))); (all_goals (try (case t4 => first | omega | decide | assumption))); (all_goals (try (case t5 => first | omega | decide | assumption))); (all_goals (try (case a1 => assumption))); (all_goals (try (case a2 => assumption))); (all_goals (try (case a3 => assumption))); k_whole)); intro d' td' a' b' ta' tb' n' h' tk' hd0' hd1' ha' hb0' hb1' F' N'; (try dsimp only); (try k_sweep))
  k_with "M call ref" => (k_here; (with_reducible show wpAny _ _ (call (Value.ref 253) _) _ _ _); (k_dflt (refine' oneS_use ?G ?F ?N ?st ?d ?u ?h ?sp ?b4 ?ne ?b1 ?b2 ?p1 ?p2 ?t3 ?t4 ?t5 ?b3 ?_; (case F => k_asm); (case N => k_asm); (case sp => walk_at "m_spl"); (case b4 => k_mem); (case ne => walk_at "m_all"); (case st => assumption); (case d => walk_at "m_lvl"); (case u => walk_at "m_lvl"); (case h => assumption); (try (case G => assumption)); (case b1 => first | rfl | assumption); (case b2 => first | assumption | decide); (case b3 => k_ne); (case p1 => first | exact Nat.le_of_ble_eq_true rfl | omega); (case p2 => first | exact Nat.le_of_ble_eq_true rfl | omega); (all_goals (try (case t1 => first | omega | decide | assumption))); (all_goals (try (case t2 => first | omega | decide | assumption))); (all_goals (try (case t3 => first | omega | decide | assumption))); (all_goals (try (case t4 => first | omega | decide | assumption))); (all_goals (try (case t5 => first | omega | decide | assumption))); (all_goals (try (case a1 => assumption))); (all_goals (try (case a2 => assumption))); (all_goals (try (case a3 => assumption))); k_whole)); intro s' ts' a' b' ta' tb' n' h' tk' hs' hsl' ha' hb0' hb1' F' N'; (try dsimp only); (try k_sweep))
  k_with "M call ref" => (k_here; (with_reducible show wpAny _ _ (call (Value.ref 232) _) _ _ _); (k_dflt (refine' use0e (dend_con ?G _ _ _ _ _ ?t1 ?a1) ?F ?N ?st ?d ?u ?h ?o ?_; (case F => k_asm); (case N => k_asm); (case o => walk_at "m_own"); (case st => assumption); (case d => walk_at "m_lvl"); (case u => walk_at "m_lvl"); (case h => assumption); (try (case G => assumption)); (all_goals (try (case t1 => first | omega | decide | assumption))); (all_goals (try (case t2 => first | omega | decide | assumption))); (all_goals (try (case t3 => first | omega | decide | assumption))); (all_goals (try (case t4 => first | omega | decide | assumption))); (all_goals (try (case t5 => first | omega | decide | assumption))); (all_goals (try (case a1 => assumption))); (all_goals (try (case a2 => assumption))); (all_goals (try (case a3 => assumption))); k_whole)); intro tv' h' tk' F' N'; (try dsimp only); (try k_sweep))
  trivial
noncomputable abbrev eMap (src : Nat) (text : Str) (tt tp : Tok) (u : Option Value) : Str → Option Value := fun y =>
  if y = Str.ofString "turn" then u else if y = Str.ofString "place" then some (Value.int (-1) tp) else if y = Str.ofString "text" then some (Value.str text tt) else List.lookup y [(Str.ofString "source", Value.ref src)]
set_option autoImplicit false in
inductive EnJ (src nn i : Nat) (m : Str → Option Value) (news : List (Addr × Obj)) : Prop
  | mk (u : _) (text : _) (tt : _) (tp : _) (a : _) (b : _) (ta : _) (tb : _) (n : _) (z0 : i ≤ nn) (z1 : m = eMap src text tt tp u) (z2 : news = [(src, srcO a b ta tb n)]) (z3 : EndT text) (z4 : text.length ≤ 3 + 20 * i) (z5 : 0 ≤ a) (z6 : 0 ≤ b) (z7 : b < 2147483647) : EnJ src nn i m news
section
variable {prog : Program} {w : World} {mean : ExcName → Option Value} {mg mb : Str → Option Value} {B : Heap} (G : Gd w mean mg mb B)
include G
theorem end_right_con (src : Nat) (a b : Int) (ta tb : Tok) (n : Nat) (ha : 0 ≤ a) (hb0 : 0 ≤ b) (hb1 : b < 2147483647) :
    ConF prog w B 50 (.ref 302) [.ref src] [(src, srcO a b ta tb n)] [src]
      (fun v new => ∃ a' b' ta' tb' n', new = [(src, srcO a' b' ta' tb' n')] ∧ v = .bool true ∧ 0 ≤ a' ∧ 0 ≤ b' ∧ b' < 2147483647) := by
  intro A s R outer C k
  obtain ⟨ah, ad, af, ag, au⟩ := A
  obtain rfl : ah = none := C.ha
  refine' enterF G C (by decide) (binds := [("source", Value.ref src)]) (rb := [("source", Value.ref src)]) ?ho ?hcd ?hb ?hl rfl ?k ?c1 ?c2 ?c3 ?c4
  case ho => k_is
  case hcd => k_is
  case hb => first | exact BindsTo.of_eq rfl | exact binds_K (G.X.keeps C.st) rfl (by k_is) rfl rfl rfl
  case hl => exact locs rfl
  case c1 => rfl
  case c2 => rfl
  case c3 => rfl
  case c4 => decide
  case k =>
    intro g L' h₁ m Q E tk gr hm hQ hQn hE hP F N X' T' st ff
    subst hm
    have hA : ad ≤ _ := C.lv
    have hu : au ≤ _ := C.un
    have hh := C.ha
    have hfr : af = some outer := C.fr
    repeat ((fail_if_success (with_reducible show wpAny _ _ (pyIter _) _ _ _)); walk1)
    refine' iter_rangeUnr (n := d'.toNat) (news := [(src, srcO a' b' ta' tb' n')]) ?hh (by assumption) (small20 hd0' (by walk_at "om")) (size20 hd0') (by assumption) (fun p hp => by rw [List.mem_singleton.mp hp]; exact ‹News g L' _ _› _ (.head _)) (fun I hI => range_inv (fun i m news => EnJ src d'.toNat i m news) ?step ?fin _ _ _ _ (Nat.zero_add _) ?start)
    case start =>
      refine' ⟨none, Str.ofString "<!X", _, _, _, _, _, _, _, Nat.zero_le _, ?mp, rfl, EndT.start, by decide, ha', hb0', hb1'⟩
      case mp =>
        funext y
        by_cases h0 : y = Str.ofString "turn"
        · subst h0; rfl
        by_cases h1 : y = Str.ofString "place"
        · subst h1; rfl
        by_cases h2 : y = Str.ofString "text"
        · subst h2; rfl
        simp only [if_neg h0, if_neg h1, if_neg h2]
    case step =>
      rintro i m news t h₂ tk₂ it hi ⟨u, text, tt, tp, a, b, ta, tb, n, hi', rfl, rfl, hT, hl, ha, hb0, hb1⟩ F N hit
      replace F : Fr g L' _ _ := F
      replace N : News g L' _ _ := N
      have hI' : @LT.lt Nat _ src I := hI _ (.head _)
      (try dsimp only)
      k_steps
      refine' UnrEnd.intro3 (by assumption) (by assumption) [(src, srcO a' b' ta' tb' n')] (by k_mem) (by k_subL) (by k_offL) ⟨_, text ++ s', _, _, _, _, _, _, _, hi, ?mp, rfl, hT.step hs', by rw [len_append]; walk_at "om", ha', hb0', hb1'⟩
      case mp =>
        funext y
        by_cases h0 : y = Str.ofString "text"
        · subst h0; rfl
        by_cases h1 : y = Str.ofString "turn"
        · subst h1; rfl
        by_cases h2 : y = Str.ofString "place"
        · subst h2; rfl
        simp only [if_neg h0, if_neg h1, if_neg h2]
    case fin =>
      rintro m news h₂ tk₂ ⟨u, text, tt, tp, a, b, ta, tb, n, hi', rfl, rfl, hT, hl, ha, hb0, hb1⟩ F N
      replace F : Fr g L' _ _ := F
      replace N : News g L' _ _ := N
      k_steps
      · obtain ⟨b, rfl⟩ : ∃ b : Nat, d' = b := ⟨d'.toNat, by walk_at "om"⟩
        have hdl : (text ++ Str.ofString ">" ++ s').length < 1000000 := by
          have : (Str.ofString ">").length = 1 := by decide
          rw [len_append, len_append]; walk_at "om"
        have hde := hT.yes (s := s') (b := b) (by walk_at "om")
        k_steps
        refine hQ _ _ ?_
        exact (con_endF (s := s) [(src, srcO a' b' ta' tb' n')] k C gr (by assumption) (by assumption) (by walk_at "m_same") (by walk_at "m_new") ⟨_, _, _, _, _, rfl, congrArg Value.bool (by simp), ha', hb0', hb1'⟩)
      · obtain ⟨b, rfl⟩ : ∃ b : Nat, d' = b := ⟨d'.toNat, by walk_at "om"⟩
        refine' con_useR (dendR_con G text b _ _ (by walk_at "om") (hT.no (by walk_at "om"))) (by assumption) (by assumption) gr st ff (Around.frames_deeper hfr) rfl (fun z => nomatch z) (by walk_at "m_lvl") (by walk_at "m_lvl") (by rfl) (fun q hq => nomatch hq) (fun q hq => nomatch hq) (rest := [(src, srcO a' b' ta' tb' n')]) (fun q hq => ⟨hq, fun z => nomatch z⟩) ?_
        intro g' e dx vs msg k0 t0 k1 t1 h' tk' F' N' gr' st' ff' hT' hsz hn1 hn2 hne'
        refine caught G F' N' gr' st' ff' hfr hT' hsz (fun p hp => hn1 p hp) hne' rfl rfl ?_
        clear F' N' gr st ff
        intro g2 vs2 h2 F2 N2 gr st ff
        dsimp only [SuiteK]
        k_steps
        (try dsimp only)
        refine hQ _ _ ?_
        exact (con_endF (s := s) [(src, srcO a' b' ta' tb' n')] k C gr (by assumption) (by assumption) (by walk_at "m_same") (by walk_at "m_new") ⟨_, _, _, _, _, rfl, congrArg Value.bool (by simp; walk_at "om"), ha', hb0', hb1'⟩)
    case hh => assumption
end
set_option maxRecDepth 100000
set_option maxHeartbeats 8000000
noncomputable def fnd (w : List Nat) : List Nat → Option Nat
  | [] => if w = [] then some 0 else none
  | c :: r => if w.isPrefixOf (c :: r) then some 0 else (fnd w r).map (· + 1)
theorem from_nat (n p : Nat) : fromIndex n (p : Int) = p := by
  unfold fromIndex
  have h : ¬ ((p : Int) < 0) := by omega
  rw [if_neg h]
  omega
theorem pre_take (w l : List Nat) : w.isPrefixOf l = (decide (w.length ≤ l.length) && (l.take w.length == w)) := by
  induction w generalizing l with
  | nil => simp
  | cons a w ih =>
    cases l with
    | nil => simp
    | cons b l =>
      simp only [List.isPrefixOf, ih, List.length_cons, List.take_succ_cons, List.cons_beq_cons, Nat.add_le_add_iff_right]
      by_cases h : a = b
      · subst h; simp
      · have h2 : ¬ b = a := fun e => h e.symm
        have h3 : (a == b) = false := beq_eq_false_iff_ne.mpr h
        have h4 : (b == a) = false := beq_eq_false_iff_ne.mpr h2
        rw [h3, h4]; simp
theorem at_iff (x y : Str) (i : Nat) (hi : i ≤ x.length) : StrLaws.At x y x.length i ↔ y.cps.toList.isPrefixOf (x.cps.toList.drop i) = true := by
  unfold StrLaws.At
  rw [StrLaws.subAt_eq, pre_take]
  simp [Str.length] at *
  intro _
  omega
theorem sw_eq (x y : Str) (p : Nat) (hp : p ≤ x.length) : Txt.startswith3 x y (p : Int) = y.cps.toList.isPrefixOf (x.cps.toList.drop p) := by
  unfold Txt.startswith3
  rw [from_nat, Bool.eq_iff_iff, ← at_iff x y p hp]
  simp [StrLaws.At]
theorem fnd_some {w : List Nat} : ∀ {l : List Nat} {k : Nat}, w.isPrefixOf (l.drop k) = true → (∀ j, j < k → w.isPrefixOf (l.drop j) = false) → k ≤ l.length → fnd w l = some k
  | [], k, h, _, hk => by
    obtain rfl : k = 0 := by simpa using hk
    cases w with
    | nil => rfl
    | cons a r => cases h
  | c :: r, 0, h, _, _ => by
    unfold fnd; exact if_pos h
  | c :: r, k + 1, h, hn, hk => by
    unfold fnd
    rw [if_neg (by have := hn 0 (by omega); simp at this; simp [this])]
    rw [fnd_some (l := r) (k := k) (by simpa using h) (fun j hj => by simpa using hn (j + 1) (by omega)) (by simpa using hk)]
    rfl
theorem fnd_none {w : List Nat} : ∀ {l : List Nat}, (∀ j, j ≤ l.length → w.isPrefixOf (l.drop j) = false) → fnd w l = none
  | [], h => by
    have := h 0 (by simp)
    unfold fnd
    cases w with
    | nil => cases this
    | cons a r => simp
  | c :: r, h => by
    unfold fnd
    rw [if_neg (by have := h 0 (by omega); simp at this; simp [this])]
    rw [fnd_none (l := r) fun j hj => by simpa using h (j + 1) (by simpa using hj)]
    rfl
theorem find_eq (x y : Str) (p : Nat) (hp : p ≤ x.length) : Txt.find3 x y (p : Int) = match fnd y.cps.toList (x.cps.toList.drop p) with | some k => ((p + k : Nat) : Int) | none => -1 := by
  have hl : x.cps.toList.length = x.length := rfl
  unfold Txt.find3
  rw [from_nat]
  rcases StrLaws.occ_head_from x y p 1 (Nat.le_refl 1) with ⟨h0, hn⟩ | ⟨i, r, h0, hlo, hi, hn⟩
  · rw [h0, fnd_none]
    intro j hj
    rw [List.length_drop, hl] at hj
    rw [List.drop_drop]
    have := hn (p + j) (by omega)
    rw [at_iff x y _ (by omega)] at this
    exact Bool.eq_false_iff.mpr this
  · have hix : i ≤ x.length := by have := hi.1; omega
    rw [h0, fnd_some (k := i - p)]
    · show ((i : Nat) : Int) = ((p + (i - p) : Nat) : Int)
      rw [show p + (i - p) = i by omega]
    · rw [List.drop_drop, show p + (i - p) = i by omega]
      exact (at_iff x y i hix).mp hi
    · intro j hj
      rw [List.drop_drop]
      have := hn (p + j) (by omega) (by omega)
      rw [at_iff x y _ (by omega)] at this
      exact Bool.eq_false_iff.mpr this
    · rw [List.length_drop, hl]; omega

theorem sw_one (x : Str) (c p : Nat) (hp : p ≤ x.length) : Txt.startswith3 x ⟨#[c]⟩ (p : Int) = decide (x.cps.toList[p]? = some c) := by
  rw [sw_eq x _ p hp, ← List.head?_drop]
  cases x.cps.toList.drop p with
  | nil => rfl
  | cons a r =>
    show (([c] : List Nat).isPrefixOf (a :: r)) = _
    simp only [List.isPrefixOf, Bool.and_true, List.head?_cons, Option.some.injEq]
    rw [Bool.eq_iff_iff, beq_iff_eq, decide_eq_true_eq]
    exact eq_comm
theorem cnt_take (f : Nat → Bool) (text : Str) (p : Nat) (hp : p ≤ text.length) : p + cntB f (text.cps.toList.drop p) ≤ text.length := by
  have := cnt_le f (text.cps.toList.drop p)
  rw [List.length_drop] at this
  have e : text.cps.toList.length = text.length := rfl
  omega
set_option maxRecDepth 100000
set_option maxHeartbeats 8000000
/-- a contract: it comes back, or it raises a fault -/
noncomputable def ConX (prog : Program) (w : World) (B : Heap) (lvl : Nat) (f : Value) (args : List Value) (own : List (Addr × Obj)) (mu : List Addr) (V : Value → List (Addr × Obj) → Prop) (Z : Prop) : Prop :=
  ∀ (A : Around) (s : Shared) (R : Result → Shared → Prop) (outer : List Env), Cal B lvl own A s outer →
    (∀ v new h' tk', V v new → ChgF (frs outer) mu s.heap h' → (∀ q ∈ new, h'.get? q.1 = some q.2 ∧ (q.1 ∈ mu ∨ s.heap.get? q.1 = none)) → R (.ok (.ret v)) { s with heap := h', toks := tk' }) →
    (∀ pl e h' tk', Z → Raised w s.heap (frs outer) mu pl e h' → R (.error (.ref e)) { s with heap := h', toks := tk' }) →
    codeAny (model prog w) A (.call f ⟨args, []⟩) R s
/-- a contract: it raises a fault -/
noncomputable def ConRE (prog : Program) (w : World) (B : Heap) (lvl : Nat) (f : Value) (args : List Value) (own : List (Addr × Obj)) (mu : List Addr) : Prop :=
  ∀ (A : Around) (s : Shared) (R : Result → Shared → Prop) (outer : List Env), Cal B lvl own A s outer →
    (∀ pl e h' tk', Raised w s.heap (frs outer) mu pl e h' → R (.error (.ref e)) { s with heap := h', toks := tk' }) →
    codeAny (model prog w) A (.call f ⟨args, []⟩) R s
section
variable {prog : Program} {w : World} {B : Heap} {lvl lvl' : Nat} {f : Value} {args : List Value} {own : List (Addr × Obj)} {mu : List Addr} {V V' : Value → List (Addr × Obj) → Prop} {Z : Prop}
theorem Cal.up {A : Around} {s : Shared} {outer : List Env} (C : Cal B lvl own A s outer) (h : lvl ≤ lvl') : Cal B lvl' own A s outer :=
  ⟨Nat.le_trans C.lv (Nat.add_le_add_left h 300), Nat.le_trans C.un (Nat.mul_le_mul_left 8 h), C.ha, C.fr, C.ff, C.st, C.ow⟩
theorem ConX.toF (C : ConX prog w B lvl f args own mu V Z) (hZ : ¬ Z) : ConF prog w B lvl f args own mu V :=
  fun A s R outer c k => C A s R outer c k fun _ _ _ _ z => absurd z hZ
theorem ConX.toR (C : ConX prog w B lvl f args own mu V Z) (hV : ∀ v new, ¬ V v new) : ConRE prog w B lvl f args own mu :=
  fun A s R outer c k => C A s R outer c (fun v new _ _ z => absurd z (hV v new)) fun pl e h' tk' _ => k pl e h' tk'
theorem ConF.mono (C : ConF prog w B lvl f args own mu V) (h : ∀ v new, V v new → V' v new) (hl : lvl' ≤ lvl := by omega) : ConF prog w B lvl' f args own mu V' :=
  fun A s R outer c k => C A s R outer (c.up hl) fun v new h' tk' z => k v new h' tk' (h v new z)
end
section
variable {prog : Program} {w : World} {B g h : Heap} {A : Around} {s : Shared} {outer : List Env} {env : Env} {L : Addr} {m : Str → Option Value} {news rest : List (Addr × Obj)} {mu : List Addr} {E : Value → Shared → Prop}
theorem con_useRE {lvl' : Nat} {f : Value} {args : List Value} {own' : List (Addr × Obj)} {h₀ : Heap} {o₀ : List Addr} {Q : Value → Shared → Prop}
    (C : ConRE prog w B lvl' f args own' mu) (F : Fr g L s.heap m) (N : News g L s.heap news) (gr : GR h₀ o₀ (frs outer) g) (st : B.StaysIn g) (ff : g.FunFrames B outer) (hfr : A.frames = some (env :: outer)) (hf : env.frame = some L) (hk : env.scope.kind ≠ .module)
    (h1 : A.depth ≤ 300 + lvl') (h2 : A.units ≤ 8 * lvl') (h3 : A.handled = none) (ho : ∀ q ∈ own', q ∈ news) (hmu : ∀ a ∈ mu, ∃ o, (a, o) ∈ news) (hr : ∀ q ∈ rest, q ∈ news ∧ q.1 ∉ mu)
    (k : ∀ pl g' e dx vs msg k0 t0 k1 t1 h' tk', Fr g' L h' m → News g' L h' ((e, excO (some dx) vs) :: (dx, excD w msg pl k0 t0 k1 t1) :: rest) → GR h₀ o₀ (frs outer) g' → B.StaysIn g' → g'.FunFrames B outer →
      Trc g' ((e, excO (some dx) vs) :: (dx, excD w msg pl k0 t0 k1 t1) :: rest) h' vs .none → 1 < vs.size → (∀ p ∈ news, p.1 ≠ e) → (∀ p ∈ news, p.1 ≠ dx) → dx ≠ e → E (.ref e) { s with heap := h', toks := tk' }) :
    wpAny (model prog w) A (call f args) Q E s := by
  refine wpAny_call (C A s _ _ (cal_in F N st ff hfr hf hk h1 h2 h3 ho) fun pl e h' tk' hR => ?_)
  obtain ⟨c, dx, vs, msg, k0, t0, k1, t1, he, hsz, hdx, fe, fd, T, oT, ts, y1, y2, y3, y4, y5, y6, y7⟩ := hR
  rw [frs_cons hf] at c
  have hmu' : ∀ a ∈ mu, g.get? a = none ∧ a ≠ L := fun a ha => by
    obtain ⟨o, hm⟩ := hmu a ha
    exact ⟨(N _ hm).2.2, (N _ hm).2.1⟩
  obtain ⟨F', N', gr', st', ff'⟩ := shadow_step (new := [(e, excO (some dx) vs), (dx, excD w msg pl k0 t0 k1 t1)]) F N gr st ff hmu' c hr (fun q hq => by
    rcases List.mem_cons.mp hq with rfl | hq
    · exact ⟨he, .inr fe⟩
    · rw [List.mem_singleton.mp hq]; exact ⟨hdx, .inr fd⟩)
  have hne : ∀ a, s.heap.get? a = none → ∀ p ∈ news, p.1 ≠ a := fun a ha p hp z => by have := (N p hp).1; rw [z, ha] at this; cases this
  refine k pl _ e dx vs msg k0 t0 k1 t1 h' tk' F' N' gr' st' ff' ⟨T, oT, ts, y1, ?_, fun q hq => ?_, y5, y6, y7⟩ hsz (hne e fe) (hne dx fd) fun z => by rw [z, he] at hdx; cases hdx
  · cases z : (shadow g h').get? T with
    | none => rfl
    | some o =>
      obtain ⟨⟨o', z'⟩, _⟩ := of_shadow z
      exact absurd rfl (y2 T o' (F.keep _ _ z') fun w => by rw [(hmu' T w).1] at z'; cases z')
  · rcases List.mem_cons.mp hq with rfl | hq
    · exact Ne.symm y3
    · rcases List.mem_cons.mp hq with rfl | hq
      · exact Ne.symm y4
      · exact y2 _ _ (N _ (hr q hq).1).1 (hr q hq).2
end
set_option maxRecDepth 100000
set_option maxHeartbeats 8000000
theorem ln18 : True := by
  k_with_none
  k_with "M subscriptTail Name Constant ref int" => (k_here; (with_reducible show wpAny _ _ (subscriptTail _ _ (Value.ref _) (Value.int _ _)) _ _ _); k_dflt (refine' Mine.item_N ?k0 ?k1 ?k2 ?k3 ?k4 ?_ ?k6; (case k0 => k_asm); (case k1 => k_mem); (case k2 => decide); (case k3 => decide); (case k4 => rfl); (case k6 => with_unfolding_all rfl); k_whole))
  k_with "M m_new" => first | exact List.forall_mem_nil _ | (refine' List.forall_mem_cons.mpr ⟨And.intro ?mzA ?mzB, ?mzC⟩; (case mzA => k_mem); (case mzB => (try dsimp only); first | exact Or.inl (by k_mem) | exact Or.inr (by walk_at "m_all")); (case mzC => walk_at "m_new"))
  k_with "M m_spl" => first | exact Mine.Spl.head | exact (Mine.Spl.tail Mine.Spl.head) | exact (Mine.Spl.tail (Mine.Spl.tail Mine.Spl.head)) | exact (Mine.Spl.tail (Mine.Spl.tail (Mine.Spl.tail Mine.Spl.head))) | exact (Mine.Spl.tail (Mine.Spl.tail (Mine.Spl.tail (Mine.Spl.tail Mine.Spl.head)))) | exact (Mine.Spl.tail (Mine.Spl.tail (Mine.Spl.tail (Mine.Spl.tail (Mine.Spl.tail Mine.Spl.head))))) | exact (Mine.Spl.tail (Mine.Spl.tail (Mine.Spl.tail (Mine.Spl.tail (Mine.Spl.tail (Mine.Spl.tail Mine.Spl.head)))))) | exact (Mine.Spl.tail (Mine.Spl.tail (Mine.Spl.tail (Mine.Spl.tail (Mine.Spl.tail (Mine.Spl.tail (Mine.Spl.tail Mine.Spl.head))))))) | exact (Mine.Spl.tail (Mine.Spl.tail (Mine.Spl.tail (Mine.Spl.tail (Mine.Spl.tail (Mine.Spl.tail (Mine.Spl.tail (Mine.Spl.tail Mine.Spl.head)))))))) | exact (Mine.Spl.tail (Mine.Spl.tail (Mine.Spl.tail (Mine.Spl.tail (Mine.Spl.tail (Mine.Spl.tail (Mine.Spl.tail (Mine.Spl.tail (Mine.Spl.tail Mine.Spl.head))))))))) | exact (Mine.Spl.tail (Mine.Spl.tail (Mine.Spl.tail (Mine.Spl.tail (Mine.Spl.tail (Mine.Spl.tail (Mine.Spl.tail (Mine.Spl.tail (Mine.Spl.tail (Mine.Spl.tail Mine.Spl.head)))))))))) | exact (Mine.Spl.tail (Mine.Spl.tail (Mine.Spl.tail (Mine.Spl.tail (Mine.Spl.tail (Mine.Spl.tail (Mine.Spl.tail (Mine.Spl.tail (Mine.Spl.tail (Mine.Spl.tail (Mine.Spl.tail Mine.Spl.head))))))))))) | exact (Mine.Spl.tail (Mine.Spl.tail (Mine.Spl.tail (Mine.Spl.tail (Mine.Spl.tail (Mine.Spl.tail (Mine.Spl.tail (Mine.Spl.tail (Mine.Spl.tail (Mine.Spl.tail (Mine.Spl.tail (Mine.Spl.tail Mine.Spl.head)))))))))))) | exact (Mine.Spl.tail (Mine.Spl.tail (Mine.Spl.tail (Mine.Spl.tail (Mine.Spl.tail (Mine.Spl.tail (Mine.Spl.tail (Mine.Spl.tail (Mine.Spl.tail (Mine.Spl.tail (Mine.Spl.tail (Mine.Spl.tail (Mine.Spl.tail Mine.Spl.head)))))))))))))
  k_with "M m_own" => first | exact List.forall_mem_nil _ | (refine' List.forall_mem_cons.mpr ⟨?mzA, ?mzB⟩; (case mzA => k_mem); (case mzB => walk_at "m_own"))
  k_with "M m_lvl" => first | exact lv_le 3 rfl (by assumption) rfl | exact lv_le 1 rfl (by assumption) rfl | exact lv_le 0 rfl (by assumption) rfl | exact lv_le 2 rfl (by assumption) rfl | ((try simp only [depth_under_make, depth_under_kw, depth_in1, depth_deeper, units_in1, units_deeper, units_under_make, Around.mark_units]); (try dsimp only); omega)
  k_with "M call builtin:len" => (k_here; (with_reducible show wpAny _ _ (call (Value.builtin "len") [Value.ref _]) _ _ _); k_dflt (refine' Mine.len_N ?k0 ?k1 ?k2 ?_; (case k0 => k_asm); (case k1 => k_mem); (case k2 => (try simp only [List.length_cons, List.length_nil]); omega); k_whole))
  k_with "M m_ne0" => (replace l1 := ne0_of l1; (try simp only [NewNe0, AllNe, and_true, and_assoc] at l1); (repeat (have := And.left l1; replace l1 := And.right l1)))
  k_with "M m_ne1" => (replace l1 := ne1_of l1; (try simp only [NewNe1, AllNe, and_true, true_or, true_and, and_assoc] at l1); (repeat (have := And.left l1; replace l1 := And.right l1)))
  k_with "M exec Raise some none" => (k_here; k_dflt (refine' Mine.raise_stmt ?hh ?_; (case hh => first | rfl | assumption)))
  k_with "M pyIter ref" => ((with_reducible show wpAny _ _ _ (fun it s₂ => UnrAt _ _ _ _ _ _ _ _ _ it s₂) _ _); (k_dflt (refine' Iter_tuple_unr ?hh ?ht ?F ?N ?htL ?_; (case F => k_asm); (case N => k_asm); (case hh => assumption); (case ht => exact News.isTup (by assumption) (by k_mem)); (case htL => exact News.ne_locals (by assumption) (by k_mem)))))
  k_with "M eval Name" => (k_here; (with_reducible show wpAny _ _ (eval (Expr.Name _ _) (envOfC _ _ _ _ _)) _ _ _); k_dflt (refine' nameX_L ?nxF ?nxV ?_; (case nxF => k_asm); (case nxV => rfl); k_whole))
  k_with "M m_same" => first | exact List.forall_mem_nil _ | (refine' List.forall_mem_cons.mpr ⟨?mzA, ?mzB⟩; (case mzA => (try dsimp only); first | exact Or.inl (by k_mem) | exact Or.inr (by k_mem)); (case mzB => walk_at "m_same")) | simp
  k_with "M m_all" => first | exact List.forall_mem_nil _ | (refine' List.forall_mem_cons.mpr ⟨?mzA, ?mzB⟩; (case mzA => k_ne); (case mzB => walk_at "m_all")) | assumption
  k_with "M om" => first | ((repeat (with_reducible rename (_ ≠ _) => hz9; clear hz9)); omega) | omega
  k_with "M m_ltp" => first | with_reducible assumption | (with_reducible rename (_ < _ ∧ _) => hq9; first | with_reducible exact hq9.1 | with_reducible exact hq9.2.1 | with_reducible exact hq9.2.2.1 | with_reducible exact hq9.2.2.2.1 | with_reducible exact hq9.2.2.2.2.1 | with_reducible exact hq9.2.2.2.2.2.1 | with_reducible exact hq9.2 | with_reducible exact hq9.2.2 | with_reducible exact hq9.2.2.2 | with_reducible exact hq9.2.2.2.2 | with_reducible exact hq9.2.2.2.2.2 | (clear hq9; walk_at "m_ltp"))
  k_with "M m_nel" => first | exact Nat.ne_of_lt (by walk_at "m_ltp") | exact Nat.ne_of_gt (by walk_at "m_ltp") | exact ne_lt_k 1 rfl (by walk_at "m_ltp") | exact ne_lt_k 2 rfl (by walk_at "m_ltp") | exact ne_lt_k 3 rfl (by walk_at "m_ltp") | exact ne_lt_k 4 rfl (by walk_at "m_ltp") | exact ne_gt_k 1 rfl (by walk_at "m_ltp") | exact ne_gt_k 2 rfl (by walk_at "m_ltp") | exact ne_gt_k 3 rfl (by walk_at "m_ltp") | exact ne_gt_k 4 rfl (by walk_at "m_ltp")
  k_with "M execs cons" => (k_here; (try k_gentoks); (with_reducible refine wpAny_execs_cons ?_); (try k_fold); (try dsimp only))
  k_with "M call ref" => (k_here; (with_reducible show wpAny _ _ (call (Value.ref 134) _) _ _ _); (k_dflt (refine' con_use0 (fault_con ?G _ _ _ _ _ _ _ _ _ _) ?F ?N ?st ?d ?u ?h ?o ?_; (case F => k_asm); (case N => k_asm); (case o => walk_at "m_own"); (case st => assumption); (case d => walk_at "m_lvl"); (case u => walk_at "m_lvl"); (case h => assumption); (try (case G => assumption)); (all_goals (try (case t1 => first | omega | decide | assumption))); (all_goals (try (case t2 => first | omega | decide | assumption))); (all_goals (try (case t3 => first | omega | decide | assumption))); (all_goals (try (case t4 => first | omega | decide | assumption))); (all_goals (try (case t5 => first | omega | decide | assumption))); (all_goals (try (case a1 => assumption))); (all_goals (try (case a2 => assumption))); (all_goals (try (case a3 => assumption))); k_whole)); intro v new h' tk' hV F' N' l1; obtain ⟨e1, d1, t1', k1', t2', k3', t3', e', hv', hne1⟩ := hV; subst e'; subst hv'; (try simp only [List.nil_append, List.cons_append] at N'); walk_at "m_ne0"; (try dsimp only); (try k_sweep))
  k_with "M call ref" => (k_here; (with_reducible show wpAny _ _ (call (Value.ref 155) _) _ _ _); (k_dflt (refine' use00 (takesF_con ?G _ _ _ _ _ _ _ _ _ _ ?t1 ?t2 ?t3 ?a1) ?F ?N ?st ?d ?u ?h ?o ?_; (case F => k_asm); (case N => k_asm); (case o => walk_at "m_own"); (case st => assumption); (case d => walk_at "m_lvl"); (case u => walk_at "m_lvl"); (case h => assumption); (try (case G => assumption)); (all_goals (try (case t1 => first | omega | decide | assumption))); (all_goals (try (case t2 => first | omega | decide | assumption))); (all_goals (try (case t3 => first | omega | decide | assumption))); (all_goals (try (case t4 => first | omega | decide | assumption))); (all_goals (try (case t5 => first | omega | decide | assumption))); (all_goals (try (case a1 => assumption))); (all_goals (try (case a2 => assumption))); (all_goals (try (case a3 => assumption))); k_whole)); intro h' tk' F' N'; (try dsimp only); (try k_sweep))
  k_with "M call ref" => (k_here; (with_reducible show wpAny _ _ (call (Value.ref 155) _) _ _ _); (k_dflt (refine' use11 (takesT_con ?G _ _ _ _ _ _ _ _ _ _ ?t1 ?t2 ?t3 ?a1) ?F ?N ?st ?d ?u ?h ?o ?sp ?ne ?_; (case F => k_asm); (case N => k_asm); (case o => walk_at "m_own"); (case sp => walk_at "m_spl"); (case ne => walk_at "m_all"); (case st => assumption); (case d => walk_at "m_lvl"); (case u => walk_at "m_lvl"); (case h => assumption); (try (case G => assumption)); (all_goals (try (case t1 => first | omega | decide | assumption))); (all_goals (try (case t2 => first | omega | decide | assumption))); (all_goals (try (case t3 => first | omega | decide | assumption))); (all_goals (try (case t4 => first | omega | decide | assumption))); (all_goals (try (case t5 => first | omega | decide | assumption))); (all_goals (try (case a1 => assumption))); (all_goals (try (case a2 => assumption))); (all_goals (try (case a3 => assumption))); k_whole)); intro t2' h' tk' F' N'; (try dsimp only); (try k_sweep))
  k_with "M call ref" => (k_here; (with_reducible show wpAny _ _ (call (Value.ref 169) _) _ _ _); (k_dflt (refine' use12 (spaces_con ?G _ _ _ _ _ _ _ _ ?t1 ?t2) ?F ?N ?st ?d ?u ?h ?o ?sp ?ne ?_; (case F => k_asm); (case N => k_asm); (case o => walk_at "m_own"); (case sp => walk_at "m_spl"); (case ne => walk_at "m_all"); (case st => assumption); (case d => walk_at "m_lvl"); (case u => walk_at "m_lvl"); (case h => assumption); (try (case G => assumption)); (all_goals (try (case t1 => first | omega | decide | assumption))); (all_goals (try (case t2 => first | omega | decide | assumption))); (all_goals (try (case t3 => first | omega | decide | assumption))); (all_goals (try (case t4 => first | omega | decide | assumption))); (all_goals (try (case t5 => first | omega | decide | assumption))); (all_goals (try (case a1 => assumption))); (all_goals (try (case a2 => assumption))); (all_goals (try (case a3 => assumption))); k_whole)); intro t2' tv' h' tk' F' N'; (try dsimp only); (try k_sweep))
  k_with "M call ref" => (k_here; (with_reducible show wpAny _ _ (call (Value.ref 162) _) _ _ _); (k_dflt (refine' use11 (expect_con ?G _ _ _ _ _ _ _ _ _ _ ?t1 ?t2 ?t3 ?a1) ?F ?N ?st ?d ?u ?h ?o ?sp ?ne ?_; (case F => k_asm); (case N => k_asm); (case o => walk_at "m_own"); (case sp => walk_at "m_spl"); (case ne => walk_at "m_all"); (case st => assumption); (case d => walk_at "m_lvl"); (case u => walk_at "m_lvl"); (case h => assumption); (try (case G => assumption)); (all_goals (try (case t1 => first | omega | decide | assumption))); (all_goals (try (case t2 => first | omega | decide | assumption))); (all_goals (try (case t3 => first | omega | decide | assumption))); (all_goals (try (case t4 => first | omega | decide | assumption))); (all_goals (try (case t5 => first | omega | decide | assumption))); (all_goals (try (case a1 => assumption))); (all_goals (try (case a2 => assumption))); (all_goals (try (case a3 => assumption))); k_whole)); intro t2' h' tk' F' N'; (try dsimp only); (try k_sweep))
  k_with "M call ref" => (k_here; (with_reducible show wpAny _ _ (call (Value.ref 197) _) _ _ _); (k_dflt (refine' use12 (name_con ?G _ _ _ _ _ _ _ _ ?t1 ?t2 ?a1 ?a2 ?a3) ?F ?N ?st ?d ?u ?h ?o ?sp ?ne ?_; (case F => k_asm); (case N => k_asm); (case o => walk_at "m_own"); (case sp => walk_at "m_spl"); (case ne => walk_at "m_all"); (case st => assumption); (case d => walk_at "m_lvl"); (case u => walk_at "m_lvl"); (case h => assumption); (try (case G => assumption)); (all_goals (try (case t1 => first | omega | decide | assumption))); (all_goals (try (case t2 => first | omega | decide | assumption))); (all_goals (try (case t3 => first | omega | decide | assumption))); (all_goals (try (case t4 => first | omega | decide | assumption))); (all_goals (try (case t5 => first | omega | decide | assumption))); (all_goals (try (case a1 => assumption))); (all_goals (try (case a2 => assumption))); (all_goals (try (case a3 => assumption))); k_whole)); intro t2' tv' h' tk' F' N'; (try dsimp only); (try k_sweep))
  k_with "M call ref" => (k_here; (with_reducible show wpAny _ _ (call (Value.ref 190) _) _ _ _); (k_dflt (refine' use12 (token_con ?G _ _ _ _ _ _ _ _ ?t1 ?t2 ?a1 ?t3) ?F ?N ?st ?d ?u ?h ?o ?sp ?ne ?_; (case F => k_asm); (case N => k_asm); (case o => walk_at "m_own"); (case sp => walk_at "m_spl"); (case ne => walk_at "m_all"); (case st => assumption); (case d => walk_at "m_lvl"); (case u => walk_at "m_lvl"); (case h => assumption); (try (case G => assumption)); (all_goals (try (case t1 => first | omega | decide | assumption))); (all_goals (try (case t2 => first | omega | decide | assumption))); (all_goals (try (case t3 => first | omega | decide | assumption))); (all_goals (try (case t4 => first | omega | decide | assumption))); (all_goals (try (case t5 => first | omega | decide | assumption))); (all_goals (try (case a1 => assumption))); (all_goals (try (case a2 => assumption))); (all_goals (try (case a3 => assumption))); k_whole)); intro t2' tv' h' tk' F' N'; (try dsimp only); (try k_sweep))
  trivial
noncomputable def rcOk (nt : Bool) (l : List Nat) (p : Nat) : Bool := if nt then ((l[p]?).map nsB).getD false else ((l[p]?).map ncB).getD false
noncomputable def rc (nt : Bool) (text : Str) : Nat → Nat → List Str → Option (List Str × Nat)
  | 0, _, _ => none
  | k + 1, p, found =>
    if rcOk nt text.cps.toList (p + cntB spB (text.cps.toList.drop p)) = true then
      if (found.any (· == sub text (p + cntB spB (text.cps.toList.drop p)) (p + cntB spB (text.cps.toList.drop p) + cntB ncB (text.cps.toList.drop (p + cntB spB (text.cps.toList.drop p)))))) = true then none
      else
        rc2 k found (p + cntB spB (text.cps.toList.drop p)) (p + cntB spB (text.cps.toList.drop p) + cntB ncB (text.cps.toList.drop (p + cntB spB (text.cps.toList.drop p))))
    else none
where rc2 (k : Nat) (found : List Str) (a b : Nat) : Option (List Str × Nat) :=
  if text.cps.toList[b + cntB spB (text.cps.toList.drop b)]? = some 124 then rc nt text k (b + cntB spB (text.cps.toList.drop b) + 1) (found ++ [sub text a b])
  else if text.cps.toList[b + cntB spB (text.cps.toList.drop b)]? = some 41 then some (found ++ [sub text a b], b + cntB spB (text.cps.toList.drop b) + 1)
  else none
noncomputable def rcTop (nt : Bool) (text : Str) : Option (List Str × Nat) := if text.cps.toList[0]? = some 40 then rc nt text text.length 1 [] else none
theorem rc_scs : Str.ofString "(" = ⟨#[40]⟩ ∧ Str.ofString ")" = ⟨#[41]⟩ ∧ Str.ofString "|" = ⟨#[124]⟩ := by decide
theorem nc_of_ns {c : Nat} (h : nsB c = true) : ncB c = true := by simp [ncB, h]
theorem rc_pos2 {l : List Nat} {p : Nat} (h : ((l[p]?).map ncB).getD false = true) : 0 < cntB ncB (l.drop p) := by
  cases e : l[p]? with
  | none => rw [e] at h; cases h
  | some c =>
    rw [e] at h
    have hc : ncB c = true := h
    have hl := (List.getElem?_eq_some_iff.mp e).1
    rw [List.drop_eq_getElem_cons hl, (List.getElem?_eq_some_iff.mp e).2]
    unfold cntB
    rw [List.takeWhile_cons, hc]; simp
theorem rc_pos1 {l : List Nat} {p : Nat} (h : ((l[p]?).map nsB).getD false = true) : 0 < cntB ncB (l.drop p) := by
  apply rc_pos2
  cases e : l[p]? with
  | none => rw [e] at h; cases h
  | some c => rw [e] at h; exact nc_of_ns h
theorem tuple_N {prog : Program} {w : World} {A : Around} {E : Value → Shared → Prop} {s : Shared} {g : Heap} {L : Addr} {m : Str → Option Value} {news : List (Addr × Obj)} {l : Addr} {its : Array Value} {n : Nat} {Q : Value → Shared → Prop}
    (F : Fr g L s.heap m) (N : News g L s.heap news) (hm : (l, listOf its n) ∈ news) (hsz : its.size ≤ 2000000)
    (k : ∀ T h', (∀ p ∈ news, p.1 ≠ T) → Fr g L h' m → News g L h' ((T, { cls := .type "tuple", data := .seq its }) :: news) → Q (.ref T) { s with heap := h' }) :
    wpAny (model prog w) A (call (.type "tuple") [.ref l]) Q E s := by
  refine call_tuple_list (items := its) ⟨_, (N _ hm).1, rfl, n, rfl⟩ (fun h' hk => ?_) (by rw [sizeLine_eq]; walk_at "om")
  have up : ∀ b o, s.heap.get? b = some o → (h'.push { cls := .type "tuple", data := .seq its }).get? b = some o := fun b o e => Heap.get?_push_of_some _ (hk b o e)
  have lt : ∀ b o, s.heap.get? b = some o → b ≠ h'.objs.size := fun b o e => Nat.ne_of_lt (Heap.lt_size (hk b o e))
  obtain ⟨oL, es, ep, hL, r⟩ := F.ns
  refine k h'.objs.size _ (fun p hp => lt _ _ (N p hp).1) (F.keeps up) fun q hq => ?_
  rcases List.mem_cons.mp hq with rfl | hq
  · refine ⟨Heap.get?_push_size _ rfl, fun z => lt _ _ hL z.symm, ?_⟩
    cases z : g.get? h'.objs.size with
    | none => rfl
    | some o => exact absurd rfl (lt _ _ (F.keep _ _ z))
  · exact ⟨up _ _ (N q hq).1, (N q hq).2⟩
structure Gate (P : Prop) : Prop where
  it : P
theorem News.swap12 {g h : Heap} {L : Addr} {a b : Addr × Obj} {r : List (Addr × Obj)} (N : News g L h (a :: b :: r)) : News g L h (b :: a :: r) := fun q hq => N q (by
  rcases List.mem_cons.mp hq with rfl | hq
  · exact .tail _ (.head _)
  · rcases List.mem_cons.mp hq with rfl | hq
    · exact .head _
    · exact .tail _ (.tail _ hq))
noncomputable abbrev rMap (x fl : Nat) (nt : Bool) (u : Option Value) : Str → Option Value := fun y =>
  if y = Str.ofString "name" then u else if y = Str.ofString "found" then some (Value.ref fl) else List.lookup y [(Str.ofString "is_notation", Value.bool nt), (Str.ofString "inner", Value.ref x)]
set_option autoImplicit false in
inductive RdJ (w : World) (x dx : Nat) (text : Str) (nt : Bool) (k1 k2 t1 : Tok) (j : Nat) (m₁ : Str → Option Value) (news₁ : List (Addr × Obj)) : Prop
  | mk (fl : _) (p : _) (found : _) (vs : _) (n : _) (t : _) (u : _) (z0 : rc nt text j p found = rcTop nt text) (z1 : p ≤ text.length) (z2 : text.length < p + j) (z3 : StrsAre vs found) (z4 : vs.length ≤ p) (z5 : dx < fl) (z6 : x < fl) (z7 : m₁ = rMap x fl nt u) (z8 : news₁ = [(dx, scD w text (p : Nat) k1 k2 t1 t), (fl, listOf vs.toArray n), (x, instObj 221 dx)]) : RdJ w x dx text nt k1 k2 t1 j m₁ news₁
section
variable {prog : Program} {w : World} {mean : ExcName → Option Value} {mg mb : Str → Option Value} {B : Heap} (G : Gd w mean mg mb B)
include G
theorem read_con (x dx : Nat) (text : Str) (nt : Bool) (k1 k2 t1 t2 : Tok) (hlen : text.length < 1000000) (hne : dx < x) (hasc : ∀ c ∈ text.cps.toList, c < 128) :
    ConX prog w B 50 (.ref 21) [.ref x, .bool nt] [(x, instObj 221 dx), (dx, scD w text (0 : Nat) k1 k2 t1 t2)] [dx]
      (fun v new => ∃ ss vs q T t2', rcTop nt text = some (ss, q) ∧ StrsAre vs ss ∧ v = .ref T ∧ new = [(T, tupO vs), (dx, scD w text (q : Nat) k1 k2 t1 t2')])
      (rcTop nt text = none) := by
  intro A s R outer C k kx
  obtain ⟨ah, ad, af, ag, au⟩ := A
  obtain rfl : ah = none := C.ha
  refine' enterF G C (by decide) (binds := [("inner", Value.ref x), ("is_notation", Value.bool nt)]) (rb := [("is_notation", Value.bool nt), ("inner", Value.ref x)]) ?ho ?hcd ?hb ?hl rfl ?k ?c1 ?c2 ?c3 ?c4
  case ho => k_is
  case hcd => k_is
  case hb => first | exact BindsTo.of_eq rfl | exact binds_K (G.X.keeps C.st) rfl (by k_is) rfl rfl rfl
  case hl => exact locs rfl
  case c1 => rfl
  case c2 => rfl
  case c3 => rfl
  case c4 => decide
  case k =>
    intro g L' h₁ m Q E tk gr hm hQ hQn hE hP F N X' T' st ff
    subst hm
    have hA : ad ≤ _ := C.lv
    have hu : au ≤ _ := C.un
    have hh := C.ha
    have hfr : af = some outer := C.fr
    by_cases h0 : text.cps.toList[0]? = some 40
    · have hs : Txt.startswith3 text (Str.ofString "(") ((0 : Nat) : Int) = true := by
        rw [rc_scs.1, sw_one _ _ _ (Nat.zero_le _), h0]; rfl
      have hpos0 : 0 < text.length := (List.getElem?_eq_some_iff.mp h0).1
      repeat ((fail_if_success (with_reducible show wpAny _ _ (exec (Stmt.While _ _ _ _) _) _ _ _)); walk1)
      refine While_inv2 (fun j m₁ news₁ => RdJ w x dx text nt k1 k2 t1 j m₁ news₁) (n₀ := text.length) (by assumption) (News.swap12 (by assumption)) ?start ?_ hP
      case start =>
        refine' ⟨_, _, [], [], 0, _, none, ?e1, ?e2, ?e3, ?e6, ?e7, ?e4, ?e5, ?mp, rfl⟩
        case mp =>
          funext y
          by_cases h0 : y = Str.ofString "name"
          · subst h0; rfl
          by_cases h1 : y = Str.ofString "found"
          · subst h1; rfl
          simp only [if_neg h0, if_neg h1]
        case e1 => unfold rcTop; rw [if_pos h0]; rfl
        case e2 => exact hpos0
        case e3 => show text.length < 1 + text.length; walk_at "om"
        case e7 => exact Nat.zero_le _
        case e6 => exact .nil
        case e4 => walk_at "om"
        case e5 => walk_at "om"
      rintro j m₁ news₁ h₂ tk₂ F₂ N₂ ⟨fl, p, found, vs, n, t, u, hrc, hp, hj, hvs, hvl, hf1, hf2, rfl, rfl⟩
      (try dsimp only)
      obtain ⟨j, rfl⟩ : ∃ i, j = i + 1 := ⟨j - 1, by walk_at "om"⟩
      have hp1 := cnt_take spB text p hp
      unfold rc at hrc
      repeat ((fail_if_success (with_reducible show wpAny _ _ (call _ _) _ _ _)); walk1)
      walk1
      generalize hP1 : p + cntB spB (List.drop p text.cps.toList) = p1 at hrc hp1 N'
      have hp2 := cnt_take ncB text p1 hp1
      repeat ((fail_if_success (with_reducible show wpAny _ _ (eval (Expr.IfExp _ _ _ _) _) _ _ _)); walk1)
      have N9 := N'
      have F9 := ‹Fr g L' _ _›
      by_cases hok : rcOk nt text.cps.toList p1 = true
      rotate_left 1
      · rw [if_neg hok] at hrc
        cases nt with
        | true =>
          have hok1 : ((text.cps.toList[p1]?).map nsB).getD false = false := Bool.eq_false_iff.mpr hok
          k_steps
          refine' con_useR (nameR_con G _ _ _ _ _ _ _ _ hlen hne hasc hok1) (by assumption) (by assumption) gr st ff (Around.frames_deeper hfr) rfl (fun z => nomatch z) (by walk_at "m_lvl") (by walk_at "m_lvl") (by rfl) (by walk_at "m_own") (fun q hq => nomatch hq) (rest := _) (fun q hq => ⟨hq, fun z => nomatch z⟩) ?_
          intro g' e1 d1 vs1 msg1 k0 t0 k1 t1 h' tk' F' N' gr st ff hT1 hsz1 hn1 hn2 hne1
          replace hn1 := allNe_of hn1
          replace hn2 := allNe_of hn2
          simp only [AllNe, and_true] at hn1 hn2
          repeat (have := And.left hn1; replace hn1 := And.right hn1)
          repeat (have := And.left hn2; replace hn2 := And.right hn2)
          refine hE _ _ ?_
          refine' raise_end (s := s) (e := e1) (dx := d1) (vs := vs1) (msg := msg1) (k0 := k0) (t0 := t0) (k1 := k1) (t1 := t1) ?zk C gr F' N' st ff ?z1 ?z2 ?z3 ?z4 hne1 hsz1 (.inr hT1) ?z5 ?z6 ?z7
          case z3 => k_mem
          case z4 => k_mem
          case zk => exact (fun e h' tk' => kx ((p1 : Nat) : Int) e h' tk' hrc.symm)
          case z1 => rfl
          case z2 => exact fun z => nomatch z
          case z5 => walk_at "m_all"
          case z6 => walk_at "m_all"
          case z7 => walk_at "m_same"
        | false =>
          have hok1 : ((text.cps.toList[p1]?).map ncB).getD false = false := Bool.eq_false_iff.mpr hok
          k_steps
          refine' con_useR (tokenR_con G _ _ _ _ _ _ _ _ hlen hne hasc hok1) (by assumption) (by assumption) gr st ff (Around.frames_deeper hfr) rfl (fun z => nomatch z) (by walk_at "m_lvl") (by walk_at "m_lvl") (by rfl) (by walk_at "m_own") (fun q hq => nomatch hq) (rest := _) (fun q hq => ⟨hq, fun z => nomatch z⟩) ?_
          intro g' e1 d1 vs1 msg1 k0 t0 k1 t1 h' tk' F' N' gr st ff hT1 hsz1 hn1 hn2 hne1
          replace hn1 := allNe_of hn1
          replace hn2 := allNe_of hn2
          simp only [AllNe, and_true] at hn1 hn2
          repeat (have := And.left hn1; replace hn1 := And.right hn1)
          repeat (have := And.left hn2; replace hn2 := And.right hn2)
          refine hE _ _ ?_
          refine' raise_end (s := s) (e := e1) (dx := d1) (vs := vs1) (msg := msg1) (k0 := k0) (t0 := t0) (k1 := k1) (t1 := t1) ?zk C gr F' N' st ff ?z1 ?z2 ?z3 ?z4 hne1 hsz1 (.inr hT1) ?z5 ?z6 ?z7
          case z3 => k_mem
          case z4 => k_mem
          case zk => exact (fun e h' tk' => kx ((p1 : Nat) : Int) e h' tk' hrc.symm)
          case z1 => rfl
          case z2 => exact fun z => nomatch z
          case z5 => walk_at "m_all"
          case z6 => walk_at "m_all"
          case z7 => walk_at "m_same"
      rw [if_pos hok] at hrc
      refine wpAny_mono (Q := fun v s' => Gate (∃ tv h' tk' t2', v = Value.str (sub text p1 (p1 + cntB ncB (List.drop p1 text.cps.toList))) tv ∧ s' = { s with heap := h', toks := tk' } ∧ Fr g L' h' (rMap x fl nt u) ∧
        News g L' h' [(dx, scD w text ((p1 + cntB ncB (List.drop p1 text.cps.toList) : Nat) : Int) k1 k2 t1 t2'), (fl, listOf vs.toArray n), (x, instObj 221 dx)])) ?_ ?_ (fun _ _ z => z)
      · cases nt with
        | true =>
          have hok1 : ((text.cps.toList[p1]?).map nsB).getD false = true := hok
          have hok2 : 0 < cntB ncB (List.drop p1 text.cps.toList) := rc_pos1 hok1
          k_steps
          exact Gate.mk ⟨_, _, _, _, rfl, rfl, by assumption, by assumption⟩
        | false =>
          have hok2 : 0 < cntB ncB (List.drop p1 text.cps.toList) := rc_pos2 hok
          k_steps
          exact Gate.mk ⟨_, _, _, _, rfl, rfl, by assumption, by assumption⟩
      clear N9 F9 N'
      rintro v s' ⟨⟨tv', h', tk', t2', rfl, rfl, F', N'⟩⟩
      generalize hP2 : p1 + cntB ncB (List.drop p1 text.cps.toList) = p2 at hrc N' hp2 ⊢
      k_steps
      · refine thrown X' (by assumption) (by assumption) (by k_mem) (by rfl) ?_
        refine hE _ _ ?_
        exact (raise_end (s := s) (pl := ((p2 : Nat) : Int)) (fun e h' tk' => kx ((p2 : Nat) : Int) e h' tk' (by rw [← hrc]; exact if_pos (by assumption))) C gr (by assumption) (by assumption) st ff rfl (fun z => nomatch z) (by k_mem) (by k_mem) hne1 (by walk_at "m_same") (.inl rfl) (by walk_at "m_all") (by walk_at "m_all") (by walk_at "m_same"))
      · have hrc2 := (if_neg (Bool.eq_false_iff.mp (by assumption))).symm.trans hrc
        unfold rc.rc2 at hrc2
        have hp3 := cnt_take spB text p2 hp2
        generalize hP3 : p2 + cntB spB (List.drop p2 text.cps.toList) = p3 at hrc2 N' hp3
        clear hrc
        by_cases hb : text.cps.toList[p3]? = some 124
        · have hsw : Txt.startswith3 text (Str.ofString "|") ((p3 : Nat) : Int) = true := by rw [rc_scs.2.2, sw_one _ _ _ hp3, hb]; rfl
          have hp4 : p3 + 1 ≤ text.length := (List.getElem?_eq_some_iff.mp hb).1
          rw [if_pos hb] at hrc2
          k_steps
          refine' ws_next (by assumption) (by assumption) (Nat.lt_succ_self j) ⟨fl, p3 + 1, found ++ [sub text p1 p2], vs ++ [Value.str (sub text p1 p2) _], _, _, _, hrc2, hp4, by walk_at "om", hvs.append' (.cons _ _ .nil), by rw [List.length_append, List.length_singleton]; walk_at "om", hf1, hf2, ?mp, ?nw⟩
          case nw => rw [← List.push_toArray]; rfl
          case mp =>
            funext y
            by_cases h0 : y = Str.ofString "name"
            · subst h0; rfl
            by_cases h1 : y = Str.ofString "found"
            · subst h1; rfl
            simp only [if_neg h0, if_neg h1]
        · have hsw : Txt.startswith3 text (Str.ofString "|") ((p3 : Nat) : Int) = false := by rw [rc_scs.2.2, sw_one _ _ _ hp3]; simpa using hb
          rw [if_neg hb] at hrc2
          by_cases hc : text.cps.toList[p3]? = some 41
          · have hsw2 : Txt.startswith3 text (Str.ofString ")") ((p3 : Nat) : Int) = true := by rw [rc_scs.2.1, sw_one _ _ _ hp3, hc]; rfl
            rw [if_pos hc] at hrc2
            k_steps
            refine tuple_N (by assumption) (by assumption) (by k_mem) (by rw [Array.size_push, List.size_toArray]; walk_at "om") ?_
            intro T h' hT F' N'
            replace hT := allNe_of hT
            simp only [AllNe, and_true] at hT
            k_steps
            refine hQ _ _ ?_
            exact (con_endF (s := s) [(T, _), (dx, _)] k C gr (by assumption) (by assumption) (by walk_at "m_same") (by walk_at "m_new") ⟨_, _, _, _, _, hrc2.symm, hvs.append' (.cons _ _ .nil), rfl, by rw [List.push_toArray]; rfl⟩)
          · have hsw2 : Txt.startswith3 text (Str.ofString ")") ((p3 : Nat) : Int) = false := by rw [rc_scs.2.1, sw_one _ _ _ hp3]; simpa using hc
            rw [if_neg hc] at hrc2
            k_steps
            refine' con_useR (expectR_con G _ _ _ _ _ _ _ _ _ _ hlen (by decide) hne hsw2) (by assumption) (by assumption) gr st ff (Around.frames_deeper hfr) rfl (fun z => nomatch z) (by walk_at "m_lvl") (by walk_at "m_lvl") (by rfl) (by walk_at "m_own") (fun q hq => nomatch hq) (rest := _) (fun q hq => ⟨hq, fun z => nomatch z⟩) ?_
            intro g' e1 d1 vs1 msg1 k0 t0 k1 t1 h' tk' F' N' gr st ff hT1 hsz1 hn1 hn2 hne1
            replace hn1 := allNe_of hn1
            replace hn2 := allNe_of hn2
            simp only [AllNe, and_true] at hn1 hn2
            repeat (have := And.left hn1; replace hn1 := And.right hn1)
            repeat (have := And.left hn2; replace hn2 := And.right hn2)
            refine hE _ _ ?_
            refine' raise_end (s := s) (e := e1) (dx := d1) (vs := vs1) (msg := msg1) (k0 := k0) (t0 := t0) (k1 := k1) (t1 := t1) ?zk C gr F' N' st ff ?z1 ?z2 ?z3 ?z4 hne1 hsz1 (.inr hT1) ?z5 ?z6 ?z7
            case z3 => k_mem
            case z4 => k_mem
            case zk => exact (fun e h' tk' => kx ((p3 : Nat) : Int) e h' tk' hrc2.symm)
            case z1 => rfl
            case z2 => exact fun z => nomatch z
            case z5 => walk_at "m_all"
            case z6 => walk_at "m_all"
            case z7 => walk_at "m_same"
    · have hs : Txt.startswith3 text (Str.ofString "(") ((0 : Nat) : Int) = false := by
        rw [rc_scs.1, sw_one _ _ _ (Nat.zero_le _)]; simpa using h0
      repeat ((fail_if_success (with_reducible show wpAny _ _ (call _ _) _ _ _)); walk1)
      refine' con_useR (expectR_con G _ _ _ _ _ _ _ _ _ _ hlen (by decide) hne hs) (by assumption) (by assumption) gr st ff (Around.frames_deeper hfr) rfl (fun z => nomatch z) (by walk_at "m_lvl") (by walk_at "m_lvl") (by rfl) (by walk_at "m_own") (fun q hq => nomatch hq) (rest := _) (fun q hq => ⟨hq, fun z => nomatch z⟩) ?_
      intro g' e1 d1 vs1 msg1 k0 t0 k1 t1 h' tk' F' N' gr st ff hT1 hsz1 hn1 hn2 hne1
      replace hn1 := allNe_of hn1
      replace hn2 := allNe_of hn2
      simp only [AllNe, and_true] at hn1 hn2
      repeat (have := And.left hn1; replace hn1 := And.right hn1)
      repeat (have := And.left hn2; replace hn2 := And.right hn2)
      refine hE _ _ ?_
      refine' raise_end (s := s) (e := e1) (dx := d1) (vs := vs1) (msg := msg1) (k0 := k0) (t0 := t0) (k1 := k1) (t1 := t1) ?zk C gr F' N' st ff ?z1 ?z2 ?z3 ?z4 hne1 hsz1 (.inr hT1) ?z5 ?z6 ?z7
      case z3 => k_mem
      case z4 => k_mem
      case zk => exact (fun e h' tk' => kx ((0 : Nat) : Int) e h' tk' (by unfold rcTop; rw [if_neg h0]))
      case z1 => rfl
      case z2 => exact fun z => nomatch z
      case z5 => walk_at "m_all"
      case z6 => walk_at "m_all"
      case z7 => walk_at "m_same"
end
set_option maxRecDepth 100000
set_option maxHeartbeats 8000000
theorem ln19 : True := by
  k_with_none
  k_with "M subscriptTail Name Constant ref int" => (k_here; (with_reducible show wpAny _ _ (subscriptTail _ _ (Value.ref _) (Value.int _ _)) _ _ _); k_dflt (refine' Mine.item_N ?k0 ?k1 ?k2 ?k3 ?k4 ?_ ?k6; (case k0 => k_asm); (case k1 => k_mem); (case k2 => decide); (case k3 => decide); (case k4 => rfl); (case k6 => with_unfolding_all rfl); k_whole))
  k_with "M m_new" => first | exact List.forall_mem_nil _ | (refine' List.forall_mem_cons.mpr ⟨And.intro ?mzA ?mzB, ?mzC⟩; (case mzA => k_mem); (case mzB => (try dsimp only); first | exact Or.inl (by k_mem) | exact Or.inr (by walk_at "m_all")); (case mzC => walk_at "m_new"))
  k_with "M m_spl" => first | exact Mine.Spl.head | exact (Mine.Spl.tail Mine.Spl.head) | exact (Mine.Spl.tail (Mine.Spl.tail Mine.Spl.head)) | exact (Mine.Spl.tail (Mine.Spl.tail (Mine.Spl.tail Mine.Spl.head))) | exact (Mine.Spl.tail (Mine.Spl.tail (Mine.Spl.tail (Mine.Spl.tail Mine.Spl.head)))) | exact (Mine.Spl.tail (Mine.Spl.tail (Mine.Spl.tail (Mine.Spl.tail (Mine.Spl.tail Mine.Spl.head))))) | exact (Mine.Spl.tail (Mine.Spl.tail (Mine.Spl.tail (Mine.Spl.tail (Mine.Spl.tail (Mine.Spl.tail Mine.Spl.head)))))) | exact (Mine.Spl.tail (Mine.Spl.tail (Mine.Spl.tail (Mine.Spl.tail (Mine.Spl.tail (Mine.Spl.tail (Mine.Spl.tail Mine.Spl.head))))))) | exact (Mine.Spl.tail (Mine.Spl.tail (Mine.Spl.tail (Mine.Spl.tail (Mine.Spl.tail (Mine.Spl.tail (Mine.Spl.tail (Mine.Spl.tail Mine.Spl.head)))))))) | exact (Mine.Spl.tail (Mine.Spl.tail (Mine.Spl.tail (Mine.Spl.tail (Mine.Spl.tail (Mine.Spl.tail (Mine.Spl.tail (Mine.Spl.tail (Mine.Spl.tail Mine.Spl.head))))))))) | exact (Mine.Spl.tail (Mine.Spl.tail (Mine.Spl.tail (Mine.Spl.tail (Mine.Spl.tail (Mine.Spl.tail (Mine.Spl.tail (Mine.Spl.tail (Mine.Spl.tail (Mine.Spl.tail Mine.Spl.head)))))))))) | exact (Mine.Spl.tail (Mine.Spl.tail (Mine.Spl.tail (Mine.Spl.tail (Mine.Spl.tail (Mine.Spl.tail (Mine.Spl.tail (Mine.Spl.tail (Mine.Spl.tail (Mine.Spl.tail (Mine.Spl.tail Mine.Spl.head))))))))))) | exact (Mine.Spl.tail (Mine.Spl.tail (Mine.Spl.tail (Mine.Spl.tail (Mine.Spl.tail (Mine.Spl.tail (Mine.Spl.tail (Mine.Spl.tail (Mine.Spl.tail (Mine.Spl.tail (Mine.Spl.tail (Mine.Spl.tail Mine.Spl.head)))))))))))) | exact (Mine.Spl.tail (Mine.Spl.tail (Mine.Spl.tail (Mine.Spl.tail (Mine.Spl.tail (Mine.Spl.tail (Mine.Spl.tail (Mine.Spl.tail (Mine.Spl.tail (Mine.Spl.tail (Mine.Spl.tail (Mine.Spl.tail (Mine.Spl.tail Mine.Spl.head)))))))))))))
  k_with "M m_own" => first | exact List.forall_mem_nil _ | (refine' List.forall_mem_cons.mpr ⟨?mzA, ?mzB⟩; (case mzA => k_mem); (case mzB => walk_at "m_own"))
  k_with "M m_lvl" => first | exact lv_le 3 rfl (by assumption) rfl | exact lv_le 1 rfl (by assumption) rfl | exact lv_le 0 rfl (by assumption) rfl | exact lv_le 2 rfl (by assumption) rfl | ((try simp only [depth_under_make, depth_under_kw, depth_in1, depth_deeper, units_in1, units_deeper, units_under_make, Around.mark_units]); (try dsimp only); omega)
  k_with "M call builtin:len" => (k_here; (with_reducible show wpAny _ _ (call (Value.builtin "len") [Value.ref _]) _ _ _); k_dflt (refine' Mine.len_N ?k0 ?k1 ?k2 ?_; (case k0 => k_asm); (case k1 => k_mem); (case k2 => (try simp only [List.length_cons, List.length_nil]); omega); k_whole))
  k_with "M m_ne0" => (replace l1 := ne0_of l1; (try simp only [NewNe0, AllNe, and_true, and_assoc] at l1); (repeat (have := And.left l1; replace l1 := And.right l1)))
  k_with "M m_ne1" => (replace l1 := ne1_of l1; (try simp only [NewNe1, AllNe, and_true, true_or, true_and, and_assoc] at l1); (repeat (have := And.left l1; replace l1 := And.right l1)))
  k_with "M exec Raise some none" => (k_here; k_dflt (refine' Mine.raise_stmt ?hh ?_; (case hh => first | rfl | assumption)))
  k_with "M pyIter ref" => ((with_reducible show wpAny _ _ _ (fun it s₂ => UnrAt _ _ _ _ _ _ _ _ _ it s₂) _ _); (k_dflt (refine' Iter_tuple_unr ?hh ?ht ?F ?N ?htL ?_; (case F => k_asm); (case N => k_asm); (case hh => assumption); (case ht => exact News.isTup (by assumption) (by k_mem)); (case htL => exact News.ne_locals (by assumption) (by k_mem)))))
  k_with "M eval Name" => (k_here; (with_reducible show wpAny _ _ (eval (Expr.Name _ _) (envOfC _ _ _ _ _)) _ _ _); k_dflt (refine' nameX_L ?nxF ?nxV ?_; (case nxF => k_asm); (case nxV => rfl); k_whole))
  k_with "M m_same" => first | exact List.forall_mem_nil _ | (refine' List.forall_mem_cons.mpr ⟨?mzA, ?mzB⟩; (case mzA => (try dsimp only); first | exact Or.inl (by k_mem) | exact Or.inr (by k_mem)); (case mzB => walk_at "m_same")) | simp
  k_with "M m_all" => first | exact List.forall_mem_nil _ | (refine' List.forall_mem_cons.mpr ⟨?mzA, ?mzB⟩; (case mzA => k_ne); (case mzB => walk_at "m_all")) | assumption
  k_with "M om" => first | ((repeat (with_reducible rename (_ ≠ _) => hz9; clear hz9)); omega) | omega
  k_with "M m_ltp" => first | with_reducible assumption | (with_reducible rename (_ < _ ∧ _) => hq9; first | with_reducible exact hq9.1 | with_reducible exact hq9.2.1 | with_reducible exact hq9.2.2.1 | with_reducible exact hq9.2.2.2.1 | with_reducible exact hq9.2.2.2.2.1 | with_reducible exact hq9.2.2.2.2.2.1 | with_reducible exact hq9.2 | with_reducible exact hq9.2.2 | with_reducible exact hq9.2.2.2 | with_reducible exact hq9.2.2.2.2 | with_reducible exact hq9.2.2.2.2.2 | (clear hq9; walk_at "m_ltp"))
  k_with "M m_nel" => first | exact Nat.ne_of_lt (by walk_at "m_ltp") | exact Nat.ne_of_gt (by walk_at "m_ltp") | exact ne_lt_k 1 rfl (by walk_at "m_ltp") | exact ne_lt_k 2 rfl (by walk_at "m_ltp") | exact ne_lt_k 3 rfl (by walk_at "m_ltp") | exact ne_lt_k 4 rfl (by walk_at "m_ltp") | exact ne_gt_k 1 rfl (by walk_at "m_ltp") | exact ne_gt_k 2 rfl (by walk_at "m_ltp") | exact ne_gt_k 3 rfl (by walk_at "m_ltp") | exact ne_gt_k 4 rfl (by walk_at "m_ltp")
  k_with "M execs cons" => (k_here; (try k_gentoks); (with_reducible refine wpAny_execs_cons ?_); (try k_fold); (try dsimp only))
  trivial
section
variable {prog : Program} {w : World} {mean : ExcName → Option Value} {mg mb : Str → Option Value} {B : Heap} (G : Gd w mean mg mb B)
include G
theorem init_con (x dx : Nat) (text : Str) (tt : Tok) (hne : dx < x) :
    Con prog w B 640 (.ref 127) [.ref x, .str text tt] [(x, instObj 221 dx), (dx, emptyDict)] [dx]
      (fun v new => ∃ k1 k2 t2, new = [(dx, scD w text (0 : Nat) k1 k2 tt t2)] ∧ v = .none) := by
  intro A s R hA hu hh hB hown k
  obtain ⟨ah, ad, af, ag, au⟩ := A
  obtain rfl : ah = none := hh
  have hh : (Around.mk none ad af ag au).handled = none := rfl
  replace hA : ad ≤ _ := hA
  replace hu : au ≤ _ := hu
  refine' enter G (binds := [("self", Value.ref x), ("text", Value.str text tt)]) (rb := [("text", Value.str text tt), ("self", Value.ref x)]) _ hB hown (Nat.le_trans hA (by decide)) ?ho ?hcd ?hb ?hl rfl ?k ?c1 ?c2 ?c3 ?c4
  case ho => k_is
  case hcd => k_is
  case hb => first | exact BindsTo.of_eq rfl | exact binds_K (G.X.keeps hB) rfl (by k_is) rfl rfl rfl
  case hl => exact locs rfl
  case c1 => rfl
  case c2 => rfl
  case c3 => rfl
  case c4 => decide
  case k =>
    intro g L' h₁ m Q tk hg hL hm hQ hQn F N X' T' st
    subst hm
    k_steps
    refine hQn _ ?_
    exact (con_end (s := s) [(dx, _)] k hg (fun q hq => (hown q hq).1) (by assumption) (by assumption) (by walk_at "m_same") (by walk_at "m_new") ⟨_, _, _, rfl, rfl⟩)
theorem make_con (text : Str) (tt : Tok) :
    Con prog w B 600 (.ref 221) [.str text tt] [] []
      (fun v new => ∃ x dx k1 k2 t2, new = [(x, instObj 221 dx), (dx, scD w text (0 : Nat) k1 k2 tt t2)] ∧ v = .ref x ∧ @LT.lt Nat _ dx x) := by
  intro A s R hA hu hh hB hown k
  obtain ⟨h, g, d, t, os⟩ := s
  dsimp only at hB k
  have X := G.X.keeps hB
  refine make_core (init := .ref 127) (makes_of X (by k_is)) (looks_findIn X (by k_is)) (fun self => bind_fn X self (by k_is)) (.inl rfl) ?_
  have keep : ∀ b o, h.get? b = some o → ((h.push emptyDict).push (instObj 221 h.objs.size)).get? b = some o := fun b o e => Heap.get?_push_of_some _ (Heap.get?_push_of_some _ e)
  have hx : ((h.push emptyDict).push (instObj 221 h.objs.size)).get? (h.objs.size + 1) = some (instObj 221 h.objs.size) := by heap_get
  have hd : ((h.push emptyDict).push (instObj 221 h.objs.size)).get? h.objs.size = some emptyDict := by heap_get
  have fresh : ∀ a, h.objs.size ≤ a → h.get? a = none := fun a ha => Heap.get?_none_of_le ha
  have freshB : ∀ a, h.objs.size ≤ a → B.get? a = none := fun a ha => by
    cases z : B.get? a with
    | none => rfl
    | some o => have := hB _ _ z; rw [fresh a ha] at this; cases this
  refine init_con G (h.objs.size + 1) h.objs.size text tt (Nat.lt_succ_self _) _ _ _ ?_ ?_ ?_ (fun b o e => keep b o (hB b o e)) (fun q hq => ?_) fun v new h' tk' hV hc hn => ?_
  · walk_at "m_lvl"
  · walk_at "m_lvl"
  · exact hh
  · rcases List.mem_cons.mp hq with rfl | hq
    · exact ⟨hx, freshB _ (Nat.le_succ _)⟩
    · rw [List.mem_singleton.mp hq]; exact ⟨hd, freshB _ (Nat.le_refl _)⟩
  · obtain ⟨k1, k2, t2, rfl, rfl⟩ := hV
    have e1 : h'.get? (h.objs.size + 1) = some (instObj 221 h.objs.size) := hc _ _ hx fun z => by
      have := List.mem_singleton.mp z; exact absurd this (Nat.succ_ne_self _)
    refine ⟨rfl, k (.ref (h.objs.size + 1)) [(h.objs.size + 1, instObj 221 h.objs.size), (h.objs.size, scD w text (0 : Nat) k1 k2 tt t2)] h' tk' ⟨_, _, _, _, _, rfl, rfl, Nat.lt_succ_self _⟩ (fun b o e _ => hc b o (keep b o e) fun z => ?_) fun q hq => ?_⟩
    · rw [List.mem_singleton.mp z, fresh _ (Nat.le_refl _)] at e; cases e
    · rcases List.mem_cons.mp hq with rfl | hq
      · exact ⟨e1, .inr (fresh _ (Nat.le_succ _))⟩
      · rw [List.mem_singleton.mp hq]
        exact ⟨(hn _ (.head _)).1, .inr (fresh _ (Nat.le_refl _))⟩
end
section
variable {prog : Program} {w : World} {B g h : Heap} {A : Around} {s : Shared} {outer : List Env} {env : Env} {L : Addr} {m : Str → Option Value} {news rest : List (Addr × Obj)} {E : Value → Shared → Prop} {lvl' : Nat} {f : Value} {args : List Value} {own' : List (Addr × Obj)} {V : Value → List (Addr × Obj) → Prop} {h₀ : Heap} {o₀ : List Addr} {Q : Value → Shared → Prop} {a : Addr} {o : Obj}
theorem con_useF1 (C : ConF prog w B lvl' f args own' [a] V) (F : Fr g L s.heap m) (N : News g L s.heap news) (gr : GR h₀ o₀ (frs outer) g) (st : B.StaysIn g) (ff : g.FunFrames B outer) (hfr : A.frames = some (env :: outer)) (hf : env.frame = some L) (hk : env.scope.kind ≠ .module)
    (h1 : A.depth ≤ 300 + lvl') (h2 : A.units ≤ 8 * lvl') (h3 : A.handled = none) (ho : ∀ q ∈ own', q ∈ news) (sp : Spl a o news rest) (hne : ∀ q ∈ rest, q.1 ≠ a)
    (k : ∀ v new g' h' tk', V v new → Fr g' L h' m → News g' L h' (new ++ rest) → GR h₀ o₀ (frs outer) g' → B.StaysIn g' → g'.FunFrames B outer → (∀ q ∈ new, q.1 = a ∨ ∀ p ∈ news, p.1 ≠ q.1) → Q v { s with heap := h', toks := tk' }) :
    wpAny (model prog w) A (call f args) Q E s :=
  con_useF C F N gr st ff hfr hf hk h1 h2 h3 ho (fun b hb => ⟨o, by rw [List.mem_singleton.mp hb]; exact sp.mem⟩) (fun q hq => ⟨sp.sub q hq, fun z => hne q hq (List.mem_singleton.mp z)⟩)
    fun v new g' h' tk' a b c d e f i => k v new g' h' tk' a b c d e f fun q hq => (i q hq).imp List.mem_singleton.mp id
theorem con_useF0 (C : ConF prog w B lvl' f args own' [] V) (F : Fr g L s.heap m) (N : News g L s.heap news) (gr : GR h₀ o₀ (frs outer) g) (st : B.StaysIn g) (ff : g.FunFrames B outer) (hfr : A.frames = some (env :: outer)) (hf : env.frame = some L) (hk : env.scope.kind ≠ .module)
    (h1 : A.depth ≤ 300 + lvl') (h2 : A.units ≤ 8 * lvl') (h3 : A.handled = none) (ho : ∀ q ∈ own', q ∈ news)
    (k : ∀ v new g' h' tk', V v new → Fr g' L h' m → News g' L h' (new ++ news) → GR h₀ o₀ (frs outer) g' → B.StaysIn g' → g'.FunFrames B outer → (∀ q ∈ new, ∀ p ∈ news, p.1 ≠ q.1) → Q v { s with heap := h', toks := tk' }) :
    wpAny (model prog w) A (call f args) Q E s :=
  con_useF C F N gr st ff hfr hf hk h1 h2 h3 ho (fun _ hb => nomatch hb) (fun q hq => ⟨hq, fun z => nomatch z⟩)
    fun v new g' h' tk' a b c d e f i => k v new g' h' tk' a b c d e f fun q hq => (i q hq).resolve_left (fun z => nomatch z)
theorem con_useRE1 (C : ConRE prog w B lvl' f args own' [a]) (F : Fr g L s.heap m) (N : News g L s.heap news) (gr : GR h₀ o₀ (frs outer) g) (st : B.StaysIn g) (ff : g.FunFrames B outer) (hfr : A.frames = some (env :: outer)) (hf : env.frame = some L) (hk : env.scope.kind ≠ .module)
    (h1 : A.depth ≤ 300 + lvl') (h2 : A.units ≤ 8 * lvl') (h3 : A.handled = none) (ho : ∀ q ∈ own', q ∈ news) (sp : Spl a o news rest) (hne : ∀ q ∈ rest, q.1 ≠ a)
    (k : ∀ pl g' e dx vs msg k0 t0 k1 t1 h' tk', Fr g' L h' m → News g' L h' ((e, excO (some dx) vs) :: (dx, excD w msg pl k0 t0 k1 t1) :: rest) → GR h₀ o₀ (frs outer) g' → B.StaysIn g' → g'.FunFrames B outer →
      Trc g' ((e, excO (some dx) vs) :: (dx, excD w msg pl k0 t0 k1 t1) :: rest) h' vs .none → 1 < vs.size → (∀ p ∈ news, p.1 ≠ e) → (∀ p ∈ news, p.1 ≠ dx) → dx ≠ e → E (.ref e) { s with heap := h', toks := tk' }) :
    wpAny (model prog w) A (call f args) Q E s :=
  con_useRE C F N gr st ff hfr hf hk h1 h2 h3 ho (fun b hb => ⟨o, by rw [List.mem_singleton.mp hb]; exact sp.mem⟩) (fun q hq => ⟨sp.sub q hq, fun z => hne q hq (List.mem_singleton.mp z)⟩) k
end
set_option maxRecDepth 100000
set_option maxHeartbeats 8000000
theorem ln20 : True := by
  k_with_none
  k_with "M subscriptTail Name Constant ref int" => (k_here; (with_reducible show wpAny _ _ (subscriptTail _ _ (Value.ref _) (Value.int _ _)) _ _ _); k_dflt (refine' Mine.item_N ?k0 ?k1 ?k2 ?k3 ?k4 ?_ ?k6; (case k0 => k_asm); (case k1 => k_mem); (case k2 => decide); (case k3 => decide); (case k4 => rfl); (case k6 => with_unfolding_all rfl); k_whole))
  k_with "M m_new" => first | exact List.forall_mem_nil _ | (refine' List.forall_mem_cons.mpr ⟨And.intro ?mzA ?mzB, ?mzC⟩; (case mzA => k_mem); (case mzB => (try dsimp only); first | exact Or.inl (by k_mem) | exact Or.inr (by walk_at "m_all")); (case mzC => walk_at "m_new"))
  k_with "M m_spl" => first | exact Mine.Spl.head | exact (Mine.Spl.tail Mine.Spl.head) | exact (Mine.Spl.tail (Mine.Spl.tail Mine.Spl.head)) | exact (Mine.Spl.tail (Mine.Spl.tail (Mine.Spl.tail Mine.Spl.head))) | exact (Mine.Spl.tail (Mine.Spl.tail (Mine.Spl.tail (Mine.Spl.tail Mine.Spl.head)))) | exact (Mine.Spl.tail (Mine.Spl.tail (Mine.Spl.tail (Mine.Spl.tail (Mine.Spl.tail Mine.Spl.head))))) | exact (Mine.Spl.tail (Mine.Spl.tail (Mine.Spl.tail (Mine.Spl.tail (Mine.Spl.tail (Mine.Spl.tail Mine.Spl.head)))))) | exact (Mine.Spl.tail (Mine.Spl.tail (Mine.Spl.tail (Mine.Spl.tail (Mine.Spl.tail (Mine.Spl.tail (Mine.Spl.tail Mine.Spl.head))))))) | exact (Mine.Spl.tail (Mine.Spl.tail (Mine.Spl.tail (Mine.Spl.tail (Mine.Spl.tail (Mine.Spl.tail (Mine.Spl.tail (Mine.Spl.tail Mine.Spl.head)))))))) | exact (Mine.Spl.tail (Mine.Spl.tail (Mine.Spl.tail (Mine.Spl.tail (Mine.Spl.tail (Mine.Spl.tail (Mine.Spl.tail (Mine.Spl.tail (Mine.Spl.tail Mine.Spl.head))))))))) | exact (Mine.Spl.tail (Mine.Spl.tail (Mine.Spl.tail (Mine.Spl.tail (Mine.Spl.tail (Mine.Spl.tail (Mine.Spl.tail (Mine.Spl.tail (Mine.Spl.tail (Mine.Spl.tail Mine.Spl.head)))))))))) | exact (Mine.Spl.tail (Mine.Spl.tail (Mine.Spl.tail (Mine.Spl.tail (Mine.Spl.tail (Mine.Spl.tail (Mine.Spl.tail (Mine.Spl.tail (Mine.Spl.tail (Mine.Spl.tail (Mine.Spl.tail Mine.Spl.head))))))))))) | exact (Mine.Spl.tail (Mine.Spl.tail (Mine.Spl.tail (Mine.Spl.tail (Mine.Spl.tail (Mine.Spl.tail (Mine.Spl.tail (Mine.Spl.tail (Mine.Spl.tail (Mine.Spl.tail (Mine.Spl.tail (Mine.Spl.tail Mine.Spl.head)))))))))))) | exact (Mine.Spl.tail (Mine.Spl.tail (Mine.Spl.tail (Mine.Spl.tail (Mine.Spl.tail (Mine.Spl.tail (Mine.Spl.tail (Mine.Spl.tail (Mine.Spl.tail (Mine.Spl.tail (Mine.Spl.tail (Mine.Spl.tail (Mine.Spl.tail Mine.Spl.head)))))))))))))
  k_with "M m_own" => first | exact List.forall_mem_nil _ | (refine' List.forall_mem_cons.mpr ⟨?mzA, ?mzB⟩; (case mzA => k_mem); (case mzB => walk_at "m_own"))
  k_with "M m_lvl" => first | exact lv_le 3 rfl (by assumption) rfl | exact lv_le 1 rfl (by assumption) rfl | exact lv_le 0 rfl (by assumption) rfl | exact lv_le 2 rfl (by assumption) rfl | ((try simp only [depth_under_make, depth_under_kw, depth_in1, depth_deeper, units_in1, units_deeper, units_under_make, Around.mark_units]); (try dsimp only); omega)
  k_with "M call builtin:len" => (k_here; (with_reducible show wpAny _ _ (call (Value.builtin "len") [Value.ref _]) _ _ _); k_dflt (refine' Mine.len_N ?k0 ?k1 ?k2 ?_; (case k0 => k_asm); (case k1 => k_mem); (case k2 => (try simp only [List.length_cons, List.length_nil]); omega); k_whole))
  k_with "M m_ne0" => (replace l1 := ne0_of l1; (try simp only [NewNe0, AllNe, and_true, and_assoc] at l1); (repeat (have := And.left l1; replace l1 := And.right l1)))
  k_with "M m_ne1" => (replace l1 := ne1_of l1; (try simp only [NewNe1, AllNe, and_true, true_or, true_and, and_assoc] at l1); (repeat (have := And.left l1; replace l1 := And.right l1)))
  k_with "M exec Raise some none" => (k_here; k_dflt (refine' Mine.raise_stmt ?hh ?_; (case hh => first | rfl | assumption)))
  k_with "M pyIter ref" => ((with_reducible show wpAny _ _ _ (fun it s₂ => UnrAt _ _ _ _ _ _ _ _ _ it s₂) _ _); (k_dflt (refine' Iter_tuple_unr ?hh ?ht ?F ?N ?htL ?_; (case F => k_asm); (case N => k_asm); (case hh => assumption); (case ht => exact News.isTup (by assumption) (by k_mem)); (case htL => exact News.ne_locals (by assumption) (by k_mem)))))
  k_with "M eval Name" => (k_here; (with_reducible show wpAny _ _ (eval (Expr.Name _ _) (envOfC _ _ _ _ _)) _ _ _); k_dflt (refine' nameX_L ?nxF ?nxV ?_; (case nxF => k_asm); (case nxV => rfl); k_whole))
  k_with "M m_same" => first | exact List.forall_mem_nil _ | (refine' List.forall_mem_cons.mpr ⟨?mzA, ?mzB⟩; (case mzA => (try dsimp only); first | exact Or.inl (by k_mem) | exact Or.inr (by k_mem)); (case mzB => walk_at "m_same")) | simp
  k_with "M m_all" => first | exact List.forall_mem_nil _ | (refine' List.forall_mem_cons.mpr ⟨?mzA, ?mzB⟩; (case mzA => k_ne); (case mzB => walk_at "m_all")) | assumption
  k_with "M om" => first | ((repeat (with_reducible rename (_ ≠ _) => hz9; clear hz9)); omega) | omega
  k_with "M m_ltp" => first | with_reducible assumption | (with_reducible rename (_ < _ ∧ _) => hq9; first | with_reducible exact hq9.1 | with_reducible exact hq9.2.1 | with_reducible exact hq9.2.2.1 | with_reducible exact hq9.2.2.2.1 | with_reducible exact hq9.2.2.2.2.1 | with_reducible exact hq9.2.2.2.2.2.1 | with_reducible exact hq9.2 | with_reducible exact hq9.2.2 | with_reducible exact hq9.2.2.2 | with_reducible exact hq9.2.2.2.2 | with_reducible exact hq9.2.2.2.2.2 | (clear hq9; walk_at "m_ltp"))
  k_with "M m_nel" => first | exact Nat.ne_of_lt (by walk_at "m_ltp") | exact Nat.ne_of_gt (by walk_at "m_ltp") | exact ne_lt_k 1 rfl (by walk_at "m_ltp") | exact ne_lt_k 2 rfl (by walk_at "m_ltp") | exact ne_lt_k 3 rfl (by walk_at "m_ltp") | exact ne_lt_k 4 rfl (by walk_at "m_ltp") | exact ne_gt_k 1 rfl (by walk_at "m_ltp") | exact ne_gt_k 2 rfl (by walk_at "m_ltp") | exact ne_gt_k 3 rfl (by walk_at "m_ltp") | exact ne_gt_k 4 rfl (by walk_at "m_ltp")
  k_with "M execs cons" => (k_here; (try k_gentoks); (with_reducible refine wpAny_execs_cons ?_); (try k_fold); (try dsimp only))
  k_with "M call ref" => (k_here; (with_reducible show wpAny _ _ (call (Value.ref 221) _) _ _ _); (k_dflt (refine' con_use0 (make_con ?G _ _) ?F ?N ?st ?d ?u ?h ?o ?_; (case F => k_asm); (case N => k_asm); (case o => walk_at "m_own"); (case st => assumption); (case d => walk_at "m_lvl"); (case u => walk_at "m_lvl"); (case h => assumption); (try (case G => assumption)); (all_goals (try (case t1 => first | omega | decide | assumption))); (all_goals (try (case t2 => first | omega | decide | assumption))); (all_goals (try (case t3 => first | omega | decide | assumption))); (all_goals (try (case t4 => first | omega | decide | assumption))); (all_goals (try (case t5 => first | omega | decide | assumption))); (all_goals (try (case a1 => assumption))); (all_goals (try (case a2 => assumption))); (all_goals (try (case a3 => assumption))); k_whole)); intro v new h' tk' hV F' N' l1; obtain ⟨x', dx', k1', k2', t2', e', hv', hne'⟩ := hV; subst e'; subst hv'; (try simp only [List.nil_append, List.cons_append] at N'); walk_at "m_ne0"; (try dsimp only); (try k_sweep))
  trivial
section
variable {prog : Program} {w : World} {mean : ExcName → Option Value} {mg mb : Str → Option Value} {B : Heap} (G : Gd w mean mg mb B)
include G
theorem choices3_con (text e : Str) (nt : Bool) (t te : Tok) (ss : List Str) (q : Nat) (hlen : (text ++ e).length < 1000000) (hasc : ∀ c ∈ (text ++ e).cps.toList, c < 128) (hr : rcTop nt (text ++ e) = some (ss, q)) :
    ConF prog w B 45 (.ref 290) [.str text t, .bool nt, .str e te] [] []
      (fun v new => ∃ l T vs tq, StrsAre vs ss ∧ v = .ref l ∧ new = [(l, listOf #[.ref T, .int q tq] 0), (T, tupO vs)] ∧ @Ne Nat T l) := by
  intro A s R outer C k
  obtain ⟨ah, ad, af, ag, au⟩ := A
  obtain rfl : ah = none := C.ha
  refine' enterF G C (by decide) (binds := [("text", Value.str text t), ("is_notation", Value.bool nt), ("end", Value.str e te)]) (rb := [("end", Value.str e te), ("is_notation", Value.bool nt), ("text", Value.str text t)]) ?ho ?hcd ?hb ?hl rfl ?k ?c1 ?c2 ?c3 ?c4
  case ho => k_is
  case hcd => k_is
  case hb => first | exact BindsTo.of_eq rfl | exact binds_K (G.X.keeps C.st) rfl (by k_is) rfl rfl rfl
  case hl => exact locs rfl
  case c1 => rfl
  case c2 => rfl
  case c3 => rfl
  case c4 => decide
  case k =>
    intro g L' h₁ m Q E tk gr hm hQ hQn hE hP F N X' T' st ff
    subst hm
    have hA : ad ≤ _ := C.lv
    have hu : au ≤ _ := C.un
    have hh := C.ha
    have hfr : af = some outer := C.fr
    have hl2 : text.length + (e).length < 1000000 := by rw [len_append] at hlen; exact hlen
    have hl3 : text.length < 1000000 := by omega
    have hl4 : e.length < 1000000 := by omega
    repeat ((fail_if_success (with_reducible show wpAny _ _ (exec (Stmt.Try _ _ _ _ _) _) _ _ _)); walk1)
    k_steps
    refine' con_useF1 ((read_con G _ _ _ _ _ _ _ _ hlen hne' hasc).toF (by rw [hr]; exact fun z => nomatch z)) (by assumption) (by assumption) gr st ff (Around.frames_deeper hfr) rfl (fun z => nomatch z) (by walk_at "m_lvl") (by walk_at "m_lvl") (by first | rfl | assumption) (by walk_at "m_own") (by walk_at "m_spl") (by walk_at "m_all") ?_
    intro v1 new1 g' h' tk' hV F' N' gr st ff l1
    obtain ⟨ss', vs, q', T, t2', hr', hvs, hv', e'⟩ := hV
    subst e'
    subst hv'
    simp only [List.nil_append, List.cons_append] at N'
    walk_at "m_ne1"
    have X' := G.X.keeps st
    have T' := G.T.keeps st
    k_steps
    rw [hr] at hr'
    cases hr'
    refine hQ _ _ ?_
    exact (con_endF (s := s) [(_, _), (T, _)] k C gr (by assumption) (by assumption) (by walk_at "m_same") (by walk_at "m_new") ⟨_, _, _, _, hvs, rfl, rfl, by omega⟩)
theorem choicesR3_con (text e : Str) (nt : Bool) (t te : Tok) (hlen : (text ++ e).length < 1000000) (hasc : ∀ c ∈ (text ++ e).cps.toList, c < 128) (hr : rcTop nt (text ++ e) = none) :
    ConF prog w B 45 (.ref 290) [.str text t, .bool nt, .str e te] [] [] (fun v new => new = [] ∧ ∃ tv, v = .str (Str.ofString "refused") tv) := by
  intro A s R outer C k
  obtain ⟨ah, ad, af, ag, au⟩ := A
  obtain rfl : ah = none := C.ha
  refine' enterF G C (by decide) (binds := [("text", Value.str text t), ("is_notation", Value.bool nt), ("end", Value.str e te)]) (rb := [("end", Value.str e te), ("is_notation", Value.bool nt), ("text", Value.str text t)]) ?ho ?hcd ?hb ?hl rfl ?k ?c1 ?c2 ?c3 ?c4
  case ho => k_is
  case hcd => k_is
  case hb => first | exact BindsTo.of_eq rfl | exact binds_K (G.X.keeps C.st) rfl (by k_is) rfl rfl rfl
  case hl => exact locs rfl
  case c1 => rfl
  case c2 => rfl
  case c3 => rfl
  case c4 => decide
  case k =>
    intro g L' h₁ m Q E tk gr hm hQ hQn hE hP F N X' T' st ff
    subst hm
    have hA : ad ≤ _ := C.lv
    have hu : au ≤ _ := C.un
    have hh := C.ha
    have hfr : af = some outer := C.fr
    have hl2 : text.length + (e).length < 1000000 := by rw [len_append] at hlen; exact hlen
    have hl3 : text.length < 1000000 := by omega
    have hl4 : e.length < 1000000 := by omega
    repeat ((fail_if_success (with_reducible show wpAny _ _ (exec (Stmt.Try _ _ _ _ _) _) _ _ _)); walk1)
    k_steps
    refine' con_useRE1 ((read_con G _ _ _ _ _ _ _ _ hlen hne' hasc).toR (fun v new hV => by obtain ⟨_, _, _, _, _, z, _⟩ := hV; rw [hr] at z; cases z)) (by assumption) (by assumption) gr st ff (Around.frames_deeper hfr) rfl (fun z => nomatch z) (by walk_at "m_lvl") (by walk_at "m_lvl") (by first | rfl | assumption) (by walk_at "m_own") (by walk_at "m_spl") (by walk_at "m_all") ?_
    intro pl1 g' e1 d1 vs1 msg1 k0 t0 k1 t1 h' tk' F' N' gr st ff hT1 hsz1 hn1 hn2 hne1
    replace hn1 := allNe_of hn1
    replace hn2 := allNe_of hn2
    simp only [AllNe, and_true] at hn1 hn2
    repeat (have := And.left hn1; replace hn1 := And.right hn1)
    repeat (have := And.left hn2; replace hn2 := And.right hn2)
    refine caught G F' N' gr st ff hfr hT1 hsz1 (by walk_at "m_all") hne1 rfl rfl ?_
    clear F' N' gr st ff
    intro g2 vs2 h2 F2 N2 gr st ff
    dsimp only [SuiteK]
    k_steps
    (try dsimp only)
    refine hQ _ _ ?_
    exact (con_endF (s := s) [] k C gr (by assumption) (by assumption) (by walk_at "m_same") (by walk_at "m_new") ⟨rfl, _, rfl⟩)
theorem choices2_con (text : Str) (nt : Bool) (t : Tok) (ss : List Str) (q : Nat) (hlen : (text ++ Str.ofString ")").length < 1000000) (hasc : ∀ c ∈ (text ++ Str.ofString ")").cps.toList, c < 128) (hr : rcTop nt (text ++ Str.ofString ")") = some (ss, q)) :
    ConF prog w B 45 (.ref 290) [.str text t, .bool nt] [] []
      (fun v new => ∃ l T vs tq, StrsAre vs ss ∧ v = .ref l ∧ new = [(l, listOf #[.ref T, .int q tq] 0), (T, tupO vs)] ∧ @Ne Nat T l) := by
  intro A s R outer C k
  obtain ⟨ah, ad, af, ag, au⟩ := A
  obtain rfl : ah = none := C.ha
  refine' enterF G C (by decide) (binds := [("text", Value.str text t), ("is_notation", Value.bool nt), ("end", Value.str (Str.ofString ")") 543)]) (rb := [("end", Value.str (Str.ofString ")") 543), ("is_notation", Value.bool nt), ("text", Value.str text t)]) ?ho ?hcd ?hb ?hl rfl ?k ?c1 ?c2 ?c3 ?c4
  case ho => k_is
  case hcd => k_is
  case hb => first | exact BindsTo.of_eq rfl | exact binds_K (G.X.keeps C.st) rfl (by k_is) rfl rfl rfl
  case hl => exact locs rfl
  case c1 => rfl
  case c2 => rfl
  case c3 => rfl
  case c4 => decide
  case k =>
    intro g L' h₁ m Q E tk gr hm hQ hQn hE hP F N X' T' st ff
    subst hm
    have hA : ad ≤ _ := C.lv
    have hu : au ≤ _ := C.un
    have hh := C.ha
    have hfr : af = some outer := C.fr
    have hl2 : text.length + (Str.ofString ")").length < 1000000 := by rw [len_append] at hlen; exact hlen
    have hl3 : text.length < 1000000 := by omega
    have hl4 : (Str.ofString ")").length < 1000000 := by decide
    repeat ((fail_if_success (with_reducible show wpAny _ _ (exec (Stmt.Try _ _ _ _ _) _) _ _ _)); walk1)
    k_steps
    refine' con_useF1 ((read_con G _ _ _ _ _ _ _ _ hlen hne' hasc).toF (by rw [hr]; exact fun z => nomatch z)) (by assumption) (by assumption) gr st ff (Around.frames_deeper hfr) rfl (fun z => nomatch z) (by walk_at "m_lvl") (by walk_at "m_lvl") (by first | rfl | assumption) (by walk_at "m_own") (by walk_at "m_spl") (by walk_at "m_all") ?_
    intro v1 new1 g' h' tk' hV F' N' gr st ff l1
    obtain ⟨ss', vs, q', T, t2', hr', hvs, hv', e'⟩ := hV
    subst e'
    subst hv'
    simp only [List.nil_append, List.cons_append] at N'
    walk_at "m_ne1"
    have X' := G.X.keeps st
    have T' := G.T.keeps st
    k_steps
    rw [hr] at hr'
    cases hr'
    refine hQ _ _ ?_
    exact (con_endF (s := s) [(_, _), (T, _)] k C gr (by assumption) (by assumption) (by walk_at "m_same") (by walk_at "m_new") ⟨_, _, _, _, hvs, rfl, rfl, by omega⟩)
theorem choicesR2_con (text : Str) (nt : Bool) (t : Tok) (hlen : (text ++ Str.ofString ")").length < 1000000) (hasc : ∀ c ∈ (text ++ Str.ofString ")").cps.toList, c < 128) (hr : rcTop nt (text ++ Str.ofString ")") = none) :
    ConF prog w B 45 (.ref 290) [.str text t, .bool nt] [] [] (fun v new => new = [] ∧ ∃ tv, v = .str (Str.ofString "refused") tv) := by
  intro A s R outer C k
  obtain ⟨ah, ad, af, ag, au⟩ := A
  obtain rfl : ah = none := C.ha
  refine' enterF G C (by decide) (binds := [("text", Value.str text t), ("is_notation", Value.bool nt), ("end", Value.str (Str.ofString ")") 543)]) (rb := [("end", Value.str (Str.ofString ")") 543), ("is_notation", Value.bool nt), ("text", Value.str text t)]) ?ho ?hcd ?hb ?hl rfl ?k ?c1 ?c2 ?c3 ?c4
  case ho => k_is
  case hcd => k_is
  case hb => first | exact BindsTo.of_eq rfl | exact binds_K (G.X.keeps C.st) rfl (by k_is) rfl rfl rfl
  case hl => exact locs rfl
  case c1 => rfl
  case c2 => rfl
  case c3 => rfl
  case c4 => decide
  case k =>
    intro g L' h₁ m Q E tk gr hm hQ hQn hE hP F N X' T' st ff
    subst hm
    have hA : ad ≤ _ := C.lv
    have hu : au ≤ _ := C.un
    have hh := C.ha
    have hfr : af = some outer := C.fr
    have hl2 : text.length + (Str.ofString ")").length < 1000000 := by rw [len_append] at hlen; exact hlen
    have hl3 : text.length < 1000000 := by omega
    have hl4 : (Str.ofString ")").length < 1000000 := by decide
    repeat ((fail_if_success (with_reducible show wpAny _ _ (exec (Stmt.Try _ _ _ _ _) _) _ _ _)); walk1)
    k_steps
    refine' con_useRE1 ((read_con G _ _ _ _ _ _ _ _ hlen hne' hasc).toR (fun v new hV => by obtain ⟨_, _, _, _, _, z, _⟩ := hV; rw [hr] at z; cases z)) (by assumption) (by assumption) gr st ff (Around.frames_deeper hfr) rfl (fun z => nomatch z) (by walk_at "m_lvl") (by walk_at "m_lvl") (by first | rfl | assumption) (by walk_at "m_own") (by walk_at "m_spl") (by walk_at "m_all") ?_
    intro pl1 g' e1 d1 vs1 msg1 k0 t0 k1 t1 h' tk' F' N' gr st ff hT1 hsz1 hn1 hn2 hne1
    replace hn1 := allNe_of hn1
    replace hn2 := allNe_of hn2
    simp only [AllNe, and_true] at hn1 hn2
    repeat (have := And.left hn1; replace hn1 := And.right hn1)
    repeat (have := And.left hn2; replace hn2 := And.right hn2)
    refine caught G F' N' gr st ff hfr hT1 hsz1 (by walk_at "m_all") hne1 rfl rfl ?_
    clear F' N' gr st ff
    intro g2 vs2 h2 F2 N2 gr st ff
    dsimp only [SuiteK]
    k_steps
    (try dsimp only)
    refine hQ _ _ ?_
    exact (con_endF (s := s) [] k C gr (by assumption) (by assumption) (by walk_at "m_same") (by walk_at "m_new") ⟨rfl, _, rfl⟩)
end
set_option maxRecDepth 100000
set_option maxHeartbeats 8000000
section
variable {prog : Program} {w : World} {mean : ExcName → Option Value} {mg mb : Str → Option Value} {B g h : Heap} {A : Around} {s : Shared} {R : Result → Shared → Prop} {outer : List Env} {own : List (Addr × Obj)} {lvl : Nat}
theorem enterFC {name qual : Str} {params : Arguments} {body : List Stmt} {scope : Scope} {dV kV doc pm cdv ct oc : Value} {an od : Option Addr} {osl : Array (Option Value)} {f : Addr} {args : Args} {binds : List (Str × Value)}
    (G : Gd w mean mg mb B) (C : Cal B lvl own A s outer) (hl : lvl ≤ 690)
    (ho : (kfr w.params).lookup f = some ⟨oc, od, .func (fnOf name qual params body scope dV kV doc pm an cdv ct), osl⟩) (hcd : codeIn (kfr w.params) cdv qual = true)
    (hbind : BindsTo s (fnOf name qual params body scope dV kV doc pm an cdv ct) args binds) (hkind : (binds.all fun y => scope.names.lookup y.1 == some .local || scope.names.lookup y.1 == some .cell) = true)
    (hnd : ((cellsFrom 0 scope.names []).map (·.1)).Nodup)
    (h : ∀ g L' h₁ cells Q E tk, GR s.heap (own.map (·.1)) (frs outer) g →
      (∀ v s', R (.ok (.ret v)) s' → Q (Flow.ret v) s') → (∀ s', R (.ok (.ret .none)) s' → Q Flow.next s') →
      (∀ e s', wpAny (model prog w) (A.deeper (envOfC qual scope L' f cdv)) (leaving (envOfC qual scope L' f cdv) e) (fun _ s'' => R (.error e) s'') (fun e' s'' => R (.error e') s'') s' → E e s') → PassesOwn (model prog w) (A.deeper (envOfC qual scope L' f cdv)) (envOfC qual scope L' f cdv) E →
      Fr g L' h₁ (bindL (envOfC qual scope L' f cdv).kindOf binds fun _ => none) → News g L' h₁ (cells ++ own) → CellsAre (bindC (envOfC qual scope L' f cdv).kindOf binds fun _ => none) (cellsFrom (L' + 1) scope.names []) cells →
      (kfr w.params).In g → Top topProg LOO mean mg mb g → B.StaysIn g → g.FunFrames B outer → (∀ p ∈ own, p.1 < L') →
      wpAny (model prog w) (A.deeper (envOfC qual scope L' f cdv)) (execs body (envOfC qual scope L' f cdv)) Q E { s with heap := h₁, toks := tk })
    (hco : scope.isCoroutine = false := by rfl) (hgen : scope.isGenerator = false := by rfl) (hk : scope.kind = .function := by rfl) : codeAny (model prog w) A (.call (.ref f) args) R s := by
  have XS := G.X.keeps C.st
  have TS := G.T.keeps C.st
  have hroom : A.depth < recursionLimit := Nat.lt_of_le_of_lt (Nat.le_trans C.lv (Nat.add_le_add_left hl 300)) (by decide)
  obtain ⟨gr, st, ff⟩ := gr_hide (h₀ := s.heap) C
  refine codeAny_call_function hroom (XS _ _ ho) rfl hco hgen rfl (codeRec_of XS hcd) (hbind _ _ _ _ ?_)
  refine wpAny_newFunctionEnv_cells hk (kindsX hkind _) fun env' he s' x => ?_
  subst he
  refine ⟨TS.nolimit.keeps x.toInCall.keep, codeAny_func ?_⟩
  obtain ⟨h₁, tk, rfl, _⟩ := x.done
  have hk₁ := x.toInCall.keep
  obtain ⟨cells, NC, Y⟩ := Cl.news (h₀ := s.heap) (Nat.le_refl _) fun n c hm => ⟨x.cell n c (lookup_of_mem_nodup (cellsFrom_names scope.names 0 (s.heap.objs.size + 1) [] [] rfl ▸ hnd) hm), x.above n c hm⟩
  refine h _ s.heap.objs.size h₁ cells _ _ tk gr (fun v s' x => x) (fun s' x => x) (fun e s' x => x) PassesOwn.leaving ⟨x.toInCall.ns, fun b o e => hk₁ b o (of_hideAll _ e), Nat.le_of_eq (hideAll_size _ _)⟩ (fun p hp => ?_) Y (G.X.keeps st) (G.T.keeps st) st ff (fun p hp => Heap.lt_size (C.ow p hp).1)
  rcases List.mem_append.mp hp with hp | hp
  · refine ⟨(NC p hp).1, (NC p hp).2.1, ?_⟩
    cases q : (hideAll s.heap (own.map (·.1))).get? p.1 with
    | none => rfl
    | some o => have := of_hideAll _ q; rw [(NC p hp).2.2] at this; cases this
  · exact ⟨hk₁ _ _ (C.ow p hp).1, Nat.ne_of_lt (Heap.lt_size (C.ow p hp).1), hideAll_none _ (List.mem_map_of_mem hp)⟩
end
theorem led0 {g h : Heap} {L : Addr} {r : List (Addr × Obj)} (_ : News g L h r) : ∃ rest, rest = r := ⟨r, rfl⟩
theorem itemS_N {prog : Program} {w : World} {A : Around} {E : Value → Shared → Prop} {s : Shared} {g : Heap} {L : Addr} {news : List (Addr × Obj)} {value slice : PySem.Expr} {l : Addr} {its : List Value} {ss : List Str} {n : Nat} {k : Int} {u : Tok} {Q : Value → Shared → Prop} (j : Nat)
    (N : News g L s.heap news) (hm : (l, listOf its.toArray n) ∈ news) (hs : StrsAre its ss) (hk : k = (j : Int)) (hj : j < ss.length) (hhi : j < 2 ^ 62) (h : ∀ t, Q (.str (ss.getD j Str.empty) t) s)
    (hs' : subscripted slice false (.ref l) (.int k u) = operate [.ref l, .int k u] (getItem (.ref l) (.int k u)) := by with_unfolding_all rfl) :
    wpAny (model prog w) A (subscriptTail value slice (.ref l) (.int k u)) Q E s := by
  obtain ⟨t, ht⟩ := hs.at (j := j) (y := ss.getD j Str.empty) (by rw [List.getD_eq_getElem?_getD, List.getElem?_eq_getElem hj]; rfl)
  exact item_N N hm (by omega) (by omega) (by rw [show k.toNat = j by omega]; exact ht) (h t) hs'
section
variable {prog : Program} {w : World} {A : Around} {h₀ : Heap} {L : Addr} {m : Str → Option Value} {env : Env} {elt : Expr} {x : Str} {scope : Scope} {cl : List (Str × Addr)} {s : Shared} {S : List (Addr × Obj) → Prop} {P : Nat → Value → Prop} {Fin : List Value → List (Addr × Obj) → Prop} {n : Nat}
theorem led {g h : Heap} {L : Addr} {p : Addr × Obj} {r : List (Addr × Obj)} (_ : News g L h (p :: r)) : ∃ rest, rest = r := ⟨r, rfl⟩
theorem comp_inv (J : Nat → List Value → List (Addr × Obj) → Prop)
    (step : ∀ i ys news v I oI C oC D m₂ h tk (E' : Value → Shared → Prop), i < n → J i ys news → P i v → LCg.NsObj oC m₂ → m₂ x = some v → Fr h₀ L h m → News h₀ L h ((I, oI) :: (C, oC) :: (D, LCg.lst ys) :: news) → LCg.Off3 I C D news → ((@Ne Nat I C) ∧ (@Ne Nat I D) ∧ (@Ne Nat C D)) →
      wpAny (model prog w) A (eval elt (compEnvC scope cl C env)) (LCg.CompEnd h₀ L m { s with heap := h, toks := tk } I oI C oC D (LCg.lst ys) S (fun y news' => J (i + 1) (ys ++ [y]) news')) E' { s with heap := h, toks := tk })
    (fin : ∀ ys news, J n ys news → Fin ys news) :
    ∀ k i ys news, i + k = n → J i ys news → LCg.CompRest prog w A h₀ L m env elt x scope cl s S P Fin k i ys news
  | 0, i, ys, news, hi, hJ => by
    obtain rfl : i = n := by omega
    exact LCg.CompRest.zero (fin ys news hJ)
  | k + 1, i, ys, news, hi, hJ => LCg.CompRest.succ fun v I oI C oC D m₂ h tk E' hP hC hx F N off ne =>
    wpAny_mono (step i ys news v I oI C oC D m₂ h tk E' (by omega) hJ hP hC hx F N off ne)
      (fun y s₂ z => by obtain ⟨h', tk', news', e, F', N', off', hS, r⟩ := z; exact ⟨h', tk', news', e, F', N', off', hS, comp_inv J step fin k (i + 1) (ys ++ [y]) news' (by omega) r⟩) fun _ _ z => z
end
set_option maxRecDepth 100000
set_option maxHeartbeats 8000000
theorem ln21 : True := by
  k_with_none
  k_with "M subscriptTail Name Constant ref int" => (k_here; (with_reducible show wpAny _ _ (subscriptTail _ _ (Value.ref _) (Value.int _ _)) _ _ _); k_dflt (refine' Mine.item_N ?k0 ?k1 ?k2 ?k3 ?k4 ?_ ?k6; (case k0 => k_asm); (case k1 => k_mem); (case k2 => decide); (case k3 => decide); (case k4 => rfl); (case k6 => with_unfolding_all rfl); k_whole))
  k_with "M m_new" => first | exact List.forall_mem_nil _ | (refine' List.forall_mem_cons.mpr ⟨And.intro ?mzA ?mzB, ?mzC⟩; (case mzA => k_mem); (case mzB => (try dsimp only); first | exact Or.inl (by k_mem) | exact Or.inr (by walk_at "m_all")); (case mzC => walk_at "m_new"))
  k_with "M m_spl" => first | exact Mine.Spl.head | exact (Mine.Spl.tail Mine.Spl.head) | exact (Mine.Spl.tail (Mine.Spl.tail Mine.Spl.head)) | exact (Mine.Spl.tail (Mine.Spl.tail (Mine.Spl.tail Mine.Spl.head))) | exact (Mine.Spl.tail (Mine.Spl.tail (Mine.Spl.tail (Mine.Spl.tail Mine.Spl.head)))) | exact (Mine.Spl.tail (Mine.Spl.tail (Mine.Spl.tail (Mine.Spl.tail (Mine.Spl.tail Mine.Spl.head))))) | exact (Mine.Spl.tail (Mine.Spl.tail (Mine.Spl.tail (Mine.Spl.tail (Mine.Spl.tail (Mine.Spl.tail Mine.Spl.head)))))) | exact (Mine.Spl.tail (Mine.Spl.tail (Mine.Spl.tail (Mine.Spl.tail (Mine.Spl.tail (Mine.Spl.tail (Mine.Spl.tail Mine.Spl.head))))))) | exact (Mine.Spl.tail (Mine.Spl.tail (Mine.Spl.tail (Mine.Spl.tail (Mine.Spl.tail (Mine.Spl.tail (Mine.Spl.tail (Mine.Spl.tail Mine.Spl.head)))))))) | exact (Mine.Spl.tail (Mine.Spl.tail (Mine.Spl.tail (Mine.Spl.tail (Mine.Spl.tail (Mine.Spl.tail (Mine.Spl.tail (Mine.Spl.tail (Mine.Spl.tail Mine.Spl.head))))))))) | exact (Mine.Spl.tail (Mine.Spl.tail (Mine.Spl.tail (Mine.Spl.tail (Mine.Spl.tail (Mine.Spl.tail (Mine.Spl.tail (Mine.Spl.tail (Mine.Spl.tail (Mine.Spl.tail Mine.Spl.head)))))))))) | exact (Mine.Spl.tail (Mine.Spl.tail (Mine.Spl.tail (Mine.Spl.tail (Mine.Spl.tail (Mine.Spl.tail (Mine.Spl.tail (Mine.Spl.tail (Mine.Spl.tail (Mine.Spl.tail (Mine.Spl.tail Mine.Spl.head))))))))))) | exact (Mine.Spl.tail (Mine.Spl.tail (Mine.Spl.tail (Mine.Spl.tail (Mine.Spl.tail (Mine.Spl.tail (Mine.Spl.tail (Mine.Spl.tail (Mine.Spl.tail (Mine.Spl.tail (Mine.Spl.tail (Mine.Spl.tail Mine.Spl.head)))))))))))) | exact (Mine.Spl.tail (Mine.Spl.tail (Mine.Spl.tail (Mine.Spl.tail (Mine.Spl.tail (Mine.Spl.tail (Mine.Spl.tail (Mine.Spl.tail (Mine.Spl.tail (Mine.Spl.tail (Mine.Spl.tail (Mine.Spl.tail (Mine.Spl.tail Mine.Spl.head)))))))))))))
  k_with "M m_own" => first | exact List.forall_mem_nil _ | (refine' List.forall_mem_cons.mpr ⟨?mzA, ?mzB⟩; (case mzA => k_mem); (case mzB => walk_at "m_own"))
  k_with "M m_lvl" => first | exact lv_le 3 rfl (by assumption) rfl | exact lv_le 1 rfl (by assumption) rfl | exact lv_le 0 rfl (by assumption) rfl | exact lv_le 2 rfl (by assumption) rfl | ((try simp only [depth_under_make, depth_under_kw, depth_in1, depth_deeper, units_in1, units_deeper, units_under_make, Around.mark_units]); (try dsimp only); omega)
  k_with "M call builtin:len" => (k_here; (with_reducible show wpAny _ _ (call (Value.builtin "len") [Value.ref _]) _ _ _); k_dflt (refine' Mine.len_N ?k0 ?k1 ?k2 ?_; (case k0 => k_asm); (case k1 => k_mem); (case k2 => (try simp only [List.length_cons, List.length_nil]); omega); k_whole))
  k_with "M m_ne0" => (replace l1 := ne0_of l1; (try simp only [NewNe0, AllNe, and_true, and_assoc] at l1); (repeat (have := And.left l1; replace l1 := And.right l1)))
  k_with "M m_ne1" => (replace l1 := ne1_of l1; (try simp only [NewNe1, AllNe, and_true, true_or, true_and, and_assoc] at l1); (repeat (have := And.left l1; replace l1 := And.right l1)))
  k_with "M exec Raise some none" => (k_here; k_dflt (refine' Mine.raise_stmt ?hh ?_; (case hh => first | rfl | assumption)))
  k_with "M pyIter ref" => ((with_reducible show wpAny _ _ _ (fun it s₂ => UnrAt _ _ _ _ _ _ _ _ _ it s₂) _ _); (k_dflt (refine' Iter_tuple_unr ?hh ?ht ?F ?N ?htL ?_; (case F => k_asm); (case N => k_asm); (case hh => assumption); (case ht => exact News.isTup (by assumption) (by k_mem)); (case htL => exact News.ne_locals (by assumption) (by k_mem)))))
  k_with "M eval Name" => (k_here; (with_reducible show wpAny _ _ (eval (Expr.Name _ _) (envOfC _ _ _ _ _)) _ _ _); k_dflt (refine' nameX_L ?nxF ?nxV ?_; (case nxF => k_asm); (case nxV => rfl); k_whole))
  k_with "M m_same" => first | exact List.forall_mem_nil _ | (refine' List.forall_mem_cons.mpr ⟨?mzA, ?mzB⟩; (case mzA => (try dsimp only); first | exact Or.inl (by k_mem) | exact Or.inr (by k_mem)); (case mzB => walk_at "m_same")) | simp
  k_with "M m_all" => first | exact List.forall_mem_nil _ | (refine' List.forall_mem_cons.mpr ⟨?mzA, ?mzB⟩; (case mzA => k_ne); (case mzB => walk_at "m_all")) | assumption
  k_with "M om" => first | ((repeat (with_reducible rename (_ ≠ _) => hz9; clear hz9)); omega) | omega
  k_with "M m_ltp" => first | with_reducible assumption | (with_reducible rename (_ < _ ∧ _) => hq9; first | with_reducible exact hq9.1 | with_reducible exact hq9.2.1 | with_reducible exact hq9.2.2.1 | with_reducible exact hq9.2.2.2.1 | with_reducible exact hq9.2.2.2.2.1 | with_reducible exact hq9.2.2.2.2.2.1 | with_reducible exact hq9.2 | with_reducible exact hq9.2.2 | with_reducible exact hq9.2.2.2 | with_reducible exact hq9.2.2.2.2 | with_reducible exact hq9.2.2.2.2.2 | (clear hq9; walk_at "m_ltp"))
  k_with "M m_nel" => first | exact Nat.ne_of_lt (by walk_at "m_ltp") | exact Nat.ne_of_gt (by walk_at "m_ltp") | exact ne_lt_k 1 rfl (by walk_at "m_ltp") | exact ne_lt_k 2 rfl (by walk_at "m_ltp") | exact ne_lt_k 3 rfl (by walk_at "m_ltp") | exact ne_lt_k 4 rfl (by walk_at "m_ltp") | exact ne_gt_k 1 rfl (by walk_at "m_ltp") | exact ne_gt_k 2 rfl (by walk_at "m_ltp") | exact ne_gt_k 3 rfl (by walk_at "m_ltp") | exact ne_gt_k 4 rfl (by walk_at "m_ltp")
  k_with "M execs cons" => (k_here; (try k_gentoks); (with_reducible refine wpAny_execs_cons ?_); (try k_fold); (try dsimp only))
  trivial
/-- how many unlike ones stand among the first -/
noncomputable def nd (ss : List Str) : Nat → Nat
  | 0 => 0
  | i + 1 => if (ss.take i).any (· == ss.getD i Str.empty) = true then nd ss i else nd ss i + 1
noncomputable def dup (ss : List Str) : Nat → Bool
  | 0 => false
  | i + 1 => dup ss i || (ss.take i).any (· == ss.getD i Str.empty)
theorem nd_le (ss : List Str) : ∀ i, nd ss i ≤ i ∧ (nd ss i < i ↔ dup ss i = true)
  | 0 => ⟨Nat.le_refl _, by simp [nd, dup]⟩
  | i + 1 => by
    obtain ⟨h1, h2⟩ := nd_le ss i
    unfold nd dup
    by_cases q : (ss.take i).any (· == ss.getD i Str.empty) = true
    · rw [if_pos q, q, Bool.or_true]
      exact ⟨by omega, by simp; omega⟩
    · rw [if_neg q, Bool.eq_false_iff.mpr q, Bool.or_false, ← h2]
      exact ⟨by omega, by omega⟩
theorem nd_any (ss : List Str) {i : Nat} (hi : i < ss.length) (k : Str) : (ss.take (i + 1)).any (· == k) = ((ss.take i).any (· == k) || decide (k = ss.getD i Str.empty)) := by
  have e : ss.take (i + 1) = ss.take i ++ [ss.getD i Str.empty] := by
    rw [List.take_succ, List.getD_eq_getElem?_getD, List.getElem?_eq_getElem hi]; rfl
  rw [e, List.any_append]
  congr 1
  rw [List.any_cons, List.any_nil, Bool.or_false, Bool.eq_iff_iff, beq_iff_eq, decide_eq_true_eq]
  exact eq_comm
section
variable {prog : Program} {w : World} {A : Around} {E : Value → Shared → Prop} {s : Shared} {R : Result → Shared → Prop} {I : Addr} {fp wr : List Addr} {G : Array GenState → Array GenState → Prop} {n : Nat} {P : Nat → Value → Prop} {St : Nat → Shared → Prop}
theorem str_is (x : Str) (t : Tok) : (PySem.strKind prog w).is x (.str x t) = true := by
  exact strKind_is prog w x t
theorem set_turns (W : WalksS prog w A.in1 I fp wr G n P St) (D : Addr) (hD : D ∉ fp) (ss : List Str) (hn : n = ss.length) (hv : ∀ i v, P i v → ∃ t, v = .str (ss.getD i Str.empty) t) (hb : n + 1 < scanBound) :
    ∀ (k i : Nat) (s : Shared), i + k = n → St i s → s.heap.SetOf (PySem.strKind prog w) D (fun x => (ss.take i).any (· == x)) (nd ss i) →
      (∀ s', Moved (D :: wr) G s s' → s'.heap.SetOf (PySem.strKind prog w) D (fun x => (ss.take n).any (· == x)) (nd ss n) → R (.ok (.ret .none)) s') →
      codeAny (model prog w) A (.builtin "set.update.loop" ⟨[.ref D, .ref I], []⟩) R s := by
  have sub : ∀ b ∈ wr, b ∈ D :: wr := fun _ h => List.mem_cons_of_mem _ h
  have off : D ∉ wr := fun h => hD (W.sub _ h)
  have stay : ∀ {s s' : Shared} {S : Str → Bool} {m : Nat}, Moved wr G s s' → s.heap.SetOf (PySem.strKind prog w) D S m → s'.heap.SetOf (PySem.strKind prog w) D S m := by
    rintro s s' S m hm ⟨o, es, ep, t, ho, r⟩
    exact ⟨o, es, ep, t, hm.heap D _ off ho, r⟩
  intro k
  induction k with
  | zero =>
    intro i s hk st hS hR
    obtain rfl : i = n := by omega
    refine codeAny_builtin F.entry_set_update_loop ?_
    rw [Around.under_plainId F.plain_set_update_loop _]
    exact wpAny_bind (W.done s _ _ st fun s' hm => wpAny_pure (hR s' (hm.mono sub) (stay hm hS)))
  | succ k ih =>
    intro i s hk st hS hR
    have hi : i < n := by omega
    refine codeAny_builtin F.entry_set_update_loop ?_
    rw [Around.under_plainId F.plain_set_update_loop _]
    refine wpAny_bind (W.item i s _ _ hi st fun v s' hP st' hm => ?_)
    obtain ⟨t, rfl⟩ := hv i v hP
    refine wpAny_bind (m := holding [Value.str (ss.getD i Str.empty) t] (setAdd D (.str (ss.getD i Str.empty) t))) (wpAny_holding ?_)
    unfold setAdd
    refine wpAny_holding (wpAny_bind ((PySem.strKind prog w).pyHash (k := ss.getD i Str.empty) (str_is _ _) ?_))
    refine wpAny_setAddHashed_of (knd := strKind prog w) (s := { s' with toks := s'.toks + 1 }) (str_is _ _) rfl (show s'.heap.SetOf (PySem.strKind prog w) D _ _ from stay hm hS) (by have := (nd_le ss i).1; omega) fun h' hsb hS2 => ?_
    have hS3 : h'.SetOf (PySem.strKind prog w) D (fun x => (ss.take (i + 1)).any (· == x)) (nd ss (i + 1)) := by
      have e : (fun x => (ss.take (i + 1)).any (· == x)) = fun x => ((ss.take i).any (· == x) || decide (x = ss.getD i Str.empty)) := funext fun x => nd_any ss (by omega) x
      rw [e]
      exact hS2
    refine wpAny_pure ⟨plainId_quiet F.plain_set_update_loop _, ih (i + 1) _ (by omega) (W.frame _ s' _ _ st' (Nat.le_succ _) fun b hb o e => ?_) hS3 fun s'' hm'' => hR s'' (Moved.trans W.gtrans ((hm.mono sub).then_heap (Nat.le_succ _) fun b o hb e => ?_) hm'')⟩
    · rw [hsb.2 b (fun h : b = D => hD (h ▸ hb))]; exact e
    · rw [hsb.2 b (fun h : b = D => hb (h ▸ List.mem_cons_self))]; exact e
/-- the set of a list of texts -/
theorem set_strs {l : Addr} {items : Array Value} {ss : List Str} {Q : Value → Shared → Prop} (hh : A.handled = none) (hl : s.heap.IsList l items) (hi : StrsAre items.toList ss) (hb : ss.length + 1 < scanBound)
    (h : ∀ (h' : Heap) (tk : Nat), h'.SetOf (PySem.strKind prog w) s.heap.objs.size (fun x => (ss.take ss.length).any (· == x)) (nd ss ss.length) →
      (∀ b o, s.heap.get? b = some o → h'.get? b = some o) → Q (.ref s.heap.objs.size) { s with heap := h', toks := tk }) :
    wpAny (model prog w) A (call (.type "set") [.ref l]) Q E s := by
  obtain ⟨c, tl, hmro⟩ := F.called_set.mro
  have hmade := F.called_set.made
  have hsub := F.called_set.sub
  have hlen : items.size = ss.length := by have := StrsAre.len_eq hi; simpa using this
  refine wpAny_call (codeAny_of_tree ?_)
  refine wpAny_pure (a := Fin.again _) ⟨Code.quiet_builtin _ (by decide +kernel), codeAny_builtin F.entry_type_call ?_⟩
  rw [Around.under_plain (weight_type_call_type "set" [.ref l] []) rfl]
  have h1 := F.called_set.notType
  have h2 := F.called_set.canCreate
  have hct := F.typeCall_set_1 (.ref l)
  repeat (any_goals (first | assumption | wp_step))
  refine codeAny_mono (code_set_new_1 (.ref l) (E := E) (Q₁ := fun obj s₁ => ∃ led : Bool, obj = .ref s.heap.objs.size ∧ s₁ = { s with heap := s.heap.push { cls := .type "set", dict := none, data := .set #[] 0 (.fresh 0 0 led) } }) fun led => ⟨led, rfl, rfl⟩) fun r s₁ hr => ?_
  rcases r with e | (obj | _ | _ | _) <;> first | exact hr | exact hr.elim | skip
  obtain ⟨led, rfl, rfl⟩ := hr
  have hS : (s.heap.push { cls := .type "set", dict := none, data := .set #[] 0 (.fresh 0 0 led) }).get? s.heap.objs.size = some { cls := .type "set", dict := none, data := .set #[] 0 (.fresh 0 0 led) } := Heap.get?_push_size _ rfl
  have hT : Shared.TypeIs { s with heap := s.heap.push { cls := .type "set", dict := none, data := .set #[] 0 (.fresh 0 0 led) } } (.ref s.heap.objs.size) "set" := ⟨_, hS, rfl⟩
  have hli := F.called_set.init.lookup
  have hbi := F.called_set.init.bind (.ref s.heap.objs.size)
  repeat (any_goals (first | assumption | wp_step))
  refine codeAny_call_builtin F.called_set.init.plain F.entry_set_init (check_set_init_1 hT ?_)
  obtain ⟨⟨ocls, odict, odata, oslots⟩, hol, hcl, nl, hdl⟩ := hl
  dsimp only at hcl hdl
  subst hcl hdl
  have hol' := Heap.get?_push_of_some ({ cls := .type "set", dict := none, data := .set #[] 0 (.fresh 0 0 led) } : Obj) hol
  have hsls := F.sub_list_set
  have hslf := F.sub_list_frozenset
  have hne : (Value.type "list" == Value.type "dict") = false := by decide
  have hl1 : (s.heap.push { cls := .type "set", dict := none, data := .set #[] 0 (.fresh 0 0 led) }).IsList l items := ⟨_, hol', rfl, nl, rfl⟩
  unfold Builtin.«set.__init__» noKeywords Builtin.Frozenset.updateFrom
  generalize hPI : pyIter = PI
  wp_walk
  subst hPI
  refine wpAny_pyIter_list hl1 (wpAny_bind (wpAny_runValue ?_))
  have lt : l < s.heap.objs.size := Heap.lt_size hol
  have n1 : l ≠ (s.heap.push { cls := .type "set", dict := none, data := .set #[] 0 (.fresh 0 0 led) }).objs.size := by
    rw [Heap.size_push]; exact Nat.ne_of_lt (Nat.lt_succ_of_lt lt)
  have n2 : s.heap.objs.size ∉ [(s.heap.push { cls := .type "set", dict := none, data := .set #[] 0 (.fresh 0 0 led) }).objs.size, l] := by
    rw [Heap.size_push]
    intro m
    rcases List.mem_cons.mp m with m | m
    · exact absurd m (Nat.ne_of_lt (Nat.lt_succ_self _))
    · exact absurd (List.mem_singleton.mp m) (Nat.ne_of_gt lt)
  refine set_turns (Walks.list (by simp [hh]) _ l n1 items).toS s.heap.objs.size n2 ss hlen (fun i v hv => ?_) (by omega) items.size 0 _ (Nat.zero_add _) ⟨⟨_, Heap.get?_push_size _ rfl, rfl, rfl⟩, hl1.push _⟩
    ((setObjOf_fresh (knd := PySem.strKind prog w) led).setOf (Heap.get?_push_of_some _ hS) (by unfold scanBound; omega)) fun s' hm hS' => ?_
  · obtain ⟨y, t, rfl, hy⟩ := hi.item i v (by rw [Array.getElem?_toList]; exact hv)
    exact ⟨t, by rw [List.getD_eq_getElem?_getD, hy]; rfl⟩
  · obtain ⟨h', g', d', tk', os'⟩ := s'
    have eg : g' = s.gens := hm.gens
    have ed : d' = s.drawn := hm.drawn
    have eo : os' = s.os := hm.os
    subst eg ed eo
    rw [hlen] at hS'
    have keep : ∀ b o, s.heap.get? b = some o → h'.get? b = some o := fun b o e => hm.heap b o (by
      rw [Heap.size_push]
      intro m
      have := Heap.lt_size e
      rcases List.mem_cons.mp m with m | m
      · exact absurd m (Nat.ne_of_lt this)
      · exact absurd (List.mem_singleton.mp m) (Nat.ne_of_lt (Nat.lt_succ_of_lt this))) (Heap.get?_push_of_some _ (Heap.get?_push_of_some _ e))
    repeat (any_goals (first | assumption | wp_step))
    exact h h' tk' hS' keep
theorem set_N {g : Heap} {L : Addr} {m : Str → Option Value} {news : List (Addr × Obj)} {l : Addr} {vs : List Value} {ss : List Str} {k : Nat} {Q : Value → Shared → Prop} (F : Fr g L s.heap m) (N : News g L s.heap news) (hh : A.handled = none)
    (hm : (l, listOf vs.toArray k) ∈ news) (hi : StrsAre vs ss) (hb : ss.length ≤ 100)
    (h : ∀ D h' tk o, (∀ p ∈ news, p.1 ≠ D) → Fr g L h' m → News g L h' ((D, o) :: news) → o.SetObjOf (PySem.strKind prog w) (fun x => (ss.take ss.length).any (· == x)) (nd ss ss.length) → Q (.ref D) { s with heap := h', toks := tk }) :
    wpAny (model prog w) A (call (.type "set") [.ref l]) Q E s := by
  refine set_strs (items := vs.toArray) hh ⟨_, (N _ hm).1, rfl, k, rfl⟩ (by simpa using hi) (by unfold scanBound; omega) fun h' tk hS keep => ?_
  obtain ⟨o, ho, hso⟩ := hS.objOf
  obtain ⟨oL, es, ep, hL, r⟩ := F.ns
  have ne : ∀ b o', s.heap.get? b = some o' → b ≠ s.heap.objs.size := fun b o' e => Nat.ne_of_lt (Heap.lt_size e)
  refine h _ h' tk o (fun p hp => ne _ _ (N p hp).1) (F.keeps keep) (fun p hp => ?_) hso
  rcases List.mem_cons.mp hp with rfl | hp
  · refine ⟨ho, fun z => ne _ _ hL z.symm, ?_⟩
    cases q : g.get? s.heap.objs.size with
    | none => rfl
    | some o' => exact absurd rfl (ne _ _ (F.keep _ _ q))
  · exact ⟨keep _ _ (N p hp).1, (N p hp).2⟩
end
set_option maxRecDepth 100000
set_option maxHeartbeats 8000000
theorem ledm {g h : Heap} {L : Addr} {m : Str → Option Value} (_ : Fr g L h m) : ∃ M, M = m := ⟨m, rfl⟩
theorem News.of {g h : Heap} {L : Addr} {l all : List (Addr × Obj)} (N : News g L h all) (s : ∀ p ∈ l, p ∈ all) : News g L h l := fun p hp => N p (s p hp)
section
variable {prog : Program} {w : World} {A : Around} {h₀ : Heap} {L : Addr} {m : Str → Option Value} {env : Env} {ct elt : Expr} {x : Str} {scope : Scope} {cl : List (Str × Addr)} {s : Shared} {S : List (Addr × Obj) → Prop} {P : Nat → Value → Prop} {Fin : List Value → List (Addr × Obj) → Prop} {n : Nat}
theorem CompEnd.mono {s₁ : Shared} {I C D : Addr} {oI oC oD : Obj} {r r' : Value → List (Addr × Obj) → Prop} {y : Value} {s₂ : Shared} (h : ∀ y news, r y news → r' y news) (z : LCg.CompEnd h₀ L m s₁ I oI C oC D oD S r y s₂) : LCg.CompEnd h₀ L m s₁ I oI C oC D oD S r' y s₂ := by
  obtain ⟨h', tk', news', e, F', N', off', hS, q⟩ := z
  exact ⟨h', tk', news', e, F', N', off', hS, h _ _ q⟩
theorem comp_invT (J : Nat → List Value → List (Addr × Obj) → Prop)
    (step : ∀ i ys news v I oI C oC D m₂ h tk (E' : Value → Shared → Prop), i < n → J i ys news → P i v → LCg.NsObj oC m₂ → m₂ x = some v → Fr h₀ L h m → News h₀ L h ((I, oI) :: (C, oC) :: (D, LCg.lst ys) :: news) → LCg.Off3 I C D news → ((@Ne Nat I C) ∧ (@Ne Nat I D) ∧ (@Ne Nat C D)) →
      wpAny (model prog w) A (isTrue ct (compEnvC scope cl C env) (eval ct (compEnvC scope cl C env))) (fun ok s' => if ok = true then
        wpAny (model prog w) A (eval elt (compEnvC scope cl C env)) (LCg.CompEnd h₀ L m { s with heap := h, toks := tk } I oI C oC D (LCg.lst ys) S (fun y news' => J (i + 1) (ys ++ [y]) news')) E' s'
        else LCg.CompEnd h₀ L m { s with heap := h, toks := tk } I oI C oC D (LCg.lst ys) S (fun _ news' => J (i + 1) ys news') Value.none s') E' { s with heap := h, toks := tk })
    (fin : ∀ ys news, J n ys news → Fin ys news) :
    ∀ k i ys news, i + k = n → J i ys news → LCt.CompRestT prog w A h₀ L m env ct elt x scope cl s S P Fin k i ys news
  | 0, i, ys, news, hi, hJ => by
    obtain rfl : i = n := by omega
    exact LCt.CompRestT.zero (fin ys news hJ)
  | k + 1, i, ys, news, hi, hJ => LCt.CompRestT.succ fun v I oI C oC D m₂ h tk E' hP hC hx F N off ne =>
    wpAny_mono (step i ys news v I oI C oC D m₂ h tk E' (by omega) hJ hP hC hx F N off ne)
      (fun ok s₂ z => by
        by_cases q : ok = true
        · rw [if_pos q] at z ⊢
          exact wpAny_mono z (fun y s₃ u => CompEnd.mono (fun y news' u => comp_invT J step fin k (i + 1) (ys ++ [y]) news' (by omega) u) u) fun _ _ u => u
        · rw [if_neg q] at z ⊢
          exact CompEnd.mono (fun _ news' u => comp_invT J step fin k (i + 1) ys news' (by omega) u) z) fun _ _ z => z
end
set_option maxRecDepth 100000
set_option maxHeartbeats 8000000
section
open PySem.Spec PySem.SeqAt
theorem strs_reads {h : Heap} : ∀ {vs : List Value} {ss : List Str}, StrsAre vs ss → ReadsAll h vs (ss.map PyData.str) []
  | _, _, .nil => .nil
  | _, _, .cons y t r => .cons (as := []) (bs := []) (.str y t) (strs_reads r)
theorem strs_lay : ∀ {ss : List Str}, (∀ x ∈ ss, PyData.canLay0 (.str x) = true) → PyData.canLayAll0 (ss.map PyData.str) = true
  | [], _ => rfl
  | x :: r, h => by
    show (PyData.canLay0 (.str x) && PyData.canLayAll0 (r.map PyData.str)) = true
    rw [h x (.head _), strs_lay fun y hy => h y (.tail _ hy)]; rfl
theorem strs_depth : ∀ ss : List Str, PyData.depthAll (ss.map PyData.str) = 0
  | [] => rfl
  | x :: r => by simp [PyData.depthAll, PyData.depth, strs_depth r]
theorem strs_eqv : ∀ ss : List Str, PyData.eqvAll (ss.map PyData.str) (ss.map PyData.str) = true
  | [] => by simp [PyData.eqvAll]
  | x :: r => by simp [PyData.eqvAll, PyData.eqv, strs_eqv r]
theorem strs_eqv_nil : ∀ ss : List Str, PyData.eqvAll (ss.map PyData.str) [] = ss.isEmpty
  | [] => by simp [PyData.eqvAll]
  | x :: r => by simp [PyData.eqvAll]
theorem strs_shaped {ss : List Str} (h : ∀ x ∈ ss, PyData.canLay0 (.str x) = true) : shaped (.list (ss.map PyData.str)) = true := by
  simp [shaped, PyData.canLay0, PyData.depth, strs_lay h, strs_depth]
section
variable {prog : Program} {w : World} {A : Around} {E : Value → Shared → Prop} {s : Shared} {g : Heap} {L : Addr} {news : List (Addr × Obj)} {a b : Addr} {vs vs' : List Value} {ss : List Str} {n k : Nat} {Q : Value → Shared → Prop}
theorem ne_nil_N (N : News g L s.heap news) (ma : (a, listOf vs.toArray n) ∈ news) (mb : (b, listOf #[] k) ∈ news) (hs : StrsAre vs ss) (hl : ∀ x ∈ ss, PyData.canLay0 (.str x) = true) (hu : A.units ≤ 1000)
    (h : Q (.bool (!ss.isEmpty)) s) : wpAny (model prog w) A (compareOp .NotEq (.ref a) (.ref b)) Q E s := by
  refine ne_dataH (da := .list (ss.map .str)) (db := .list []) (reads_list_at (N _ ma).1 rfl rfl (strs_reads hs)) (reads_list_at (N _ mb).1 rfl rfl .nil) (strs_shaped hl) rfl (by unfold cLine; omega) ?_
  show Q (.bool (!PyData.eqvAll (ss.map .str) [])) s
  rw [strs_eqv_nil]; exact h
theorem ne_due_N {T T' : Addr} {q : Int} {t t' : Tok} (N : News g L s.heap news) (ma : (a, listOf #[.ref T, .int q t] n) ∈ news) (mT : (T, tupO vs) ∈ news) (mb : (b, listOf #[.ref T', .int q t'] k) ∈ news) (mT' : (T', tupO vs') ∈ news) (hs : StrsAre vs ss) (hs' : StrsAre vs' ss) (hl : ∀ x ∈ ss, PyData.canLay0 (.str x) = true) (hu : A.units ≤ 1000)
    (h : Q (.bool false) s) : wpAny (model prog w) A (compareOp .NotEq (.ref a) (.ref b)) Q E s := by
  have sh : shaped (.list [.tuple (ss.map PyData.str), .int q]) = true := by
    simp [shaped, PyData.canLay0, PyData.canLayAll0, PyData.depth, PyData.depthAll, strs_lay hl, strs_depth]
  refine ne_dataH (da := .list [.tuple (ss.map .str), .int q]) (db := .list [.tuple (ss.map .str), .int q]) (reads_list_at (N _ ma).1 rfl rfl (.cons (reads_tuple_at (N _ mT).1 rfl rfl (strs_reads hs)) (.cons (.int _ _) .nil))) (reads_list_at (N _ mb).1 rfl rfl (.cons (reads_tuple_at (N _ mT').1 rfl rfl (strs_reads hs')) (.cons (.int _ _) .nil))) sh sh (by unfold cLine; omega) ?_
  have e : PyData.eqv (.list [.tuple (ss.map .str), .int q]) (.list [.tuple (ss.map .str), .int q]) = true := by
    simp [PyData.eqv, PyData.eqvAll, strs_eqv]
  rw [e]; exact h
end
end
set_option maxRecDepth 100000
set_option maxHeartbeats 8000000
section Own
set_option hygiene false
local macro_rules | `(tactic| k_all) => `(tactic| first | exact List.forall_mem_nil _ | (refine' List.forall_mem_cons.mpr ⟨?a, ?b⟩; (case a => k_ne); (case b => k_all)) | assumption)
local macro_rules | `(tactic| k_mem) => `(tactic| first | exact List.Mem.head _ | (refine' List.Mem.tail _ ?_; k_mem) | assumption)
set_option autoImplicit false in
inductive StAt (s : Shared) (g : Heap) (L' : Nat) (mp : Str → Option Value) (led : List (Addr × Obj)) (s' : Shared) : Prop
  | mk (h : _) (tk : _) (z0 : s' = { s with heap := h, toks := tk }) (z1 : Fr g L' h mp) (z2 : News g L' h led) : StAt s g L' mp led s'
set_option autoImplicit false in
inductive StAtT (s : Shared) (g : Heap) (L' : Nat) (mp : Tok → Str → Option Value) (led : List (Addr × Obj)) (s' : Shared) : Prop
  | mk (h : _) (tk : _) (tg : _) (z0 : s' = { s with heap := h, toks := tk }) (z1 : Fr g L' h (mp tg)) (z2 : News g L' h led) : StAtT s g L' mp led s'
structure CutEnd (I : Shared → Prop) (fl : Flow) (s' : Shared) : Prop where
  e : fl = .next
  i : I s'
/-- the statements ahead, and what stands behind them -/
theorem cut_at {M : Model} {A : Around} {env : Env} {E : Value → Shared → Prop} {s : Shared} {body : List Stmt} {Q : Flow → Shared → Prop} (k : Nat) (I : Shared → Prop)
    (h1 : wpAny M A (execs (body.take k) env) (fun fl s' => CutEnd I fl s') E s) (h2 : ∀ s', I s' → wpAny M A (execs (body.drop k) env) Q E s') : wpAny M A (execs body env) Q E s := by
  intro Γ p hΓ
  have key : ∀ (a : List Stmt) (p : Pos) (s : Shared), Sem.wp M Γ (execs a env) (fun fl _ s' => CutEnd I fl s') (fun e _ s' => E e s') p s → Sem.wp M Γ (execs (a ++ body.drop k) env) (fun fl _ s' => Q fl s') (fun e _ s' => E e s') p s := by
    intro a
    induction a with
    | nil => intro p s h; exact h2 s (show CutEnd I .next s from h).i Γ p hΓ
    | cons st a ih =>
      intro p s h
      rw [execs_cons, Sem.wp_bind'] at h
      rw [List.cons_append, execs_cons, Sem.wp_bind']
      refine Sem.wp_mono M Γ _ (fun f p' s' h' => ?_) (fun _ _ _ z => z) _ _ h
      cases f with
      | next => exact ih p' s' h'
      | ret v => exact nomatch (show CutEnd I (.ret v) s' from h').e
      | brk => exact nomatch (show CutEnd I .brk s' from h').e
      | cont => exact nomatch (show CutEnd I .cont s' from h').e
  have := key (body.take k) p s (h1 Γ p hΓ)
  rwa [List.take_append_drop] at this
section
variable {M : Model} {A : Around} {env : Env} {E : Value → Shared → Prop} {s : Shared} {s1 s2 s3 : Stmt} {body : List Stmt} {Q : Flow → Shared → Prop}
theorem cutP {t : Sem Flow} (I : Shared → Prop) (h1 : wpAny M A t (fun fl s' => CutEnd I fl s') E s) (h2 : ∀ s', I s' → Q .next s') : wpAny M A t Q E s :=
  wpAny_mono h1 (fun fl s' z => by obtain ⟨rfl, i⟩ := z; exact h2 s' i) fun _ _ z => z
theorem cut1 (I : Shared → Prop) (h1 : wpAny M A (execs [s1] env) (fun fl s' => CutEnd I fl s') E s) (h2 : ∀ s', I s' → wpAny M A (execs body env) Q E s') : wpAny M A (execs (s1 :: body) env) Q E s := cut_at 1 I h1 h2
theorem cut2 (I : Shared → Prop) (h1 : wpAny M A (execs [s1, s2] env) (fun fl s' => CutEnd I fl s') E s) (h2 : ∀ s', I s' → wpAny M A (execs body env) Q E s') : wpAny M A (execs (s1 :: s2 :: body) env) Q E s := cut_at 2 I h1 h2
theorem cut3 (I : Shared → Prop) (h1 : wpAny M A (execs [s1, s2, s3] env) (fun fl s' => CutEnd I fl s') E s) (h2 : ∀ s', I s' → wpAny M A (execs body env) Q E s') : wpAny M A (execs (s1 :: s2 :: s3 :: body) env) Q E s := cut_at 3 I h1 h2
end
theorem cnt_app {f : Nat → Bool} {a b : List Nat} (ha : ∀ x ∈ a, f x = true) (hb : ∀ c, b.head? = some c → f c = false) : cntB f (a ++ b) = a.length := by
  unfold cntB
  induction a with
  | nil =>
    cases b with
    | nil => rfl
    | cons c r => simp [List.takeWhile_cons, hb c rfl]
  | cons x a ih =>
    rw [List.cons_append, List.takeWhile_cons, ha x (.head _), if_pos rfl, List.length_cons, List.length_cons, ih fun y hy => ha y (.tail _ hy)]
theorem nc_sp {c : Nat} (h : ncB c = true) : spB c = false := by
  cases q : spB c with
  | false => rfl
  | true =>
    simp only [spB, Bool.or_eq_true, beq_iff_eq] at q
    rcases q with ((rfl | rfl) | rfl) | rfl <;> exact absurd h (by decide)
theorem sp_nc {c : Nat} (h : spB c = true) : ncB c = false := by
  cases q : ncB c with
  | false => rfl
  | true => rw [nc_sp q] at h; cases h
theorem at_drop (l : List Nat) (p : Nat) : l[p]? = (l.drop p).head? := (List.head?_drop).symm
noncomputable def okL (nt : Bool) (w : List Nat) : Bool := if nt then (w.head?.map nsB).getD false else (w.head?.map ncB).getD false
theorem head_app {w r : List Nat} (h : w ≠ []) : (w ++ r).head? = w.head? := by
  cases w with
  | nil => exact absurd rfl h
  | cons a w => rfl
theorem drop_add {l : List Nat} {p : Nat} {a b : List Nat} (h : l.drop p = a ++ b) : l.drop (p + a.length) = b := by
  rw [← List.drop_drop, h, List.drop_left]
theorem rc_step {nt : Bool} {text : Str} {k p : Nat} {found : List Str} {g w h z : List Nat} {c : Nat} (hd : text.cps.toList.drop p = g ++ (w ++ (h ++ c :: z)))
    (hg : ∀ x ∈ g, spB x = true) (hw : ∀ x ∈ w, ncB x = true) (hw0 : w ≠ []) (hh : ∀ x ∈ h, spB x = true) (hc : c = 124 ∨ c = 41) :
    rc nt text (k + 1) p found = if okL nt w = true then (if (found.any (· == (⟨w.toArray⟩ : Str))) = true then none
      else if c = 124 then rc nt text k (p + g.length + w.length + h.length + 1) (found ++ [⟨w.toArray⟩]) else some (found ++ [⟨w.toArray⟩], p + g.length + w.length + h.length + 1)) else none := by
  have c1 : cntB spB (text.cps.toList.drop p) = g.length := by
    rw [hd]
    refine cnt_app hg fun c hc => ?_
    rw [head_app hw0] at hc
    exact nc_sp (hw c (List.mem_of_mem_head? hc))
  have d1 := drop_add hd
  have c2 : cntB ncB (text.cps.toList.drop (p + g.length)) = w.length := by
    rw [d1]
    refine cnt_app hw fun x hx => ?_
    cases h with
    | nil => cases hx; rcases hc with rfl | rfl <;> rfl
    | cons y h => cases hx; exact sp_nc (hh _ (.head _))
  have d2 := drop_add d1
  have c3 : cntB spB (text.cps.toList.drop (p + g.length + w.length)) = h.length := by
    rw [d2]
    refine cnt_app hh fun x hx => ?_
    cases hx; rcases hc with rfl | rfl <;> rfl
  have d3 := drop_add d2
  have hs : sub text (p + g.length) (p + g.length + w.length) = ⟨w.toArray⟩ := by
    unfold sub
    rw [d1, Nat.add_sub_cancel_left, List.take_left]
  have ho : rcOk nt text.cps.toList (p + g.length) = okL nt w := by
    unfold rcOk okL
    rw [at_drop, d1, head_app hw0]
  have he : text.cps.toList[p + g.length + w.length + h.length]? = some c := by
    rw [at_drop, d3]; rfl
  rw [rc, c1, c2, ho, rc.rc2, c3, he, hs]
  rcases hc with rfl | rfl
  · simp only [if_true]
  · simp
noncomputable def enc : List (Str × Str × Str) → List Nat
  | [] => []
  | [(g, w, h)] => g.cps.toList ++ (w.cps.toList ++ h.cps.toList)
  | (g, w, h) :: r => g.cps.toList ++ (w.cps.toList ++ (h.cps.toList ++ 124 :: enc r))
structure TripOk (t : Str × Str × Str) : Prop where
  g : ∀ x ∈ t.1.cps.toList, spB x = true
  w : ∀ x ∈ t.2.1.cps.toList, ncB x = true
  n : t.2.1.cps.toList ≠ []
  h : ∀ x ∈ t.2.2.cps.toList, spB x = true
noncomputable def freshAll : List Str → List Str → Bool
  | [], _ => true
  | w :: r, found => !(found.any (· == w)) && freshAll r (found ++ [w])
noncomputable def okAll (nt : Bool) (ws : List Str) : Bool := ws.all fun w => okL nt w.cps.toList
theorem rc_enc {nt : Bool} {text : Str} {z : List Nat} : ∀ (ts : List (Str × Str × Str)) (k p : Nat) (found : List Str), ts ≠ [] → (∀ t ∈ ts, TripOk t) → text.cps.toList.drop p = enc ts ++ 41 :: z → ts.length ≤ k →
    rc nt text k p found = if (okAll nt (ts.map (·.2.1)) && freshAll (ts.map (·.2.1)) found) = true then some (found ++ ts.map (·.2.1), p + (enc ts).length + 1) else none
  | [], _, _, _, h, _, _, _ => absurd rfl h
  | [(g, w, h)], k, p, found, _, ok, hd, hk => by
    obtain ⟨k, rfl⟩ : ∃ j, k = j + 1 := ⟨k - 1, by simp at hk; omega⟩
    have o := ok _ (.head _)
    rw [rc_step (g := g.cps.toList) (w := w.cps.toList) (h := h.cps.toList) (c := 41) (z := z) (by rw [hd]; simp [enc]) o.g o.w o.n o.h (.inr rfl)]
    simp only [List.map_cons, List.map_nil, okAll, List.all_cons, List.all_nil, freshAll, Bool.and_true, enc, List.length_append, show ((⟨w.cps.toList.toArray⟩ : Str)) = w from rfl]
    cases okL nt w.cps.toList <;> cases found.any (· == w) <;> simp [Nat.add_assoc]
  | (g, w, h) :: t :: r, k, p, found, _, ok, hd, hk => by
    obtain ⟨k, rfl⟩ : ∃ j, k = j + 1 := ⟨k - 1, by simp at hk; omega⟩
    have o := ok _ (.head _)
    have hd' : text.cps.toList.drop p = g.cps.toList ++ (w.cps.toList ++ (h.cps.toList ++ 124 :: (enc (t :: r) ++ 41 :: z))) := by rw [hd]; simp [enc]
    rw [rc_step hd' o.g o.w o.n o.h (.inl rfl)]
    have d3 : text.cps.toList.drop (p + g.cps.toList.length + w.cps.toList.length + h.cps.toList.length + 1) = enc (t :: r) ++ 41 :: z := by
      have := drop_add (drop_add (drop_add hd'))
      rw [← List.drop_drop, this]; rfl
    rw [rc_enc (t :: r) k _ _ (by simp) (fun q hq => ok q (.tail _ hq)) d3 (by simp at hk ⊢; omega)]
    have e2 : (enc ((g, w, h) :: t :: r)).length = g.cps.toList.length + w.cps.toList.length + h.cps.toList.length + 1 + (enc (t :: r)).length := by simp [enc]; omega
    rw [e2]
    have em : ((g, w, h) :: t :: r).map (·.2.1) = w :: (t :: r).map (·.2.1) := rfl
    rw [em]
    generalize (t :: r).map (·.2.1) = ws
    have ea : okAll nt (w :: ws) = (okL nt w.cps.toList && okAll nt ws) := rfl
    have ef : freshAll (w :: ws) found = (!(found.any (· == w)) && freshAll ws (found ++ [w])) := rfl
    have ew : ((⟨w.cps.toList.toArray⟩ : Str)) = w := rfl
    rw [ea, ef, ew, if_pos (rfl : (124 : Nat) = 124)]
    generalize okAll nt ws = x1
    generalize freshAll ws (found ++ [w]) = x2
    generalize okL nt w.cps.toList = x3
    generalize found.any (· == w) = x4
    cases x1 <;> cases x2 <;> cases x3 <;> cases x4 <;> simp [Nat.add_assoc]
theorem enc_join : ∀ ts : List (Str × Str × Str), (Str.join (Str.ofString "|") (ts.map fun t => t.1 ++ t.2.1 ++ t.2.2)).cps.toList = enc ts
  | [] => rfl
  | [(g, w, h)] => by
    show (g ++ w ++ h : Str).cps.toList = _
    rw [cl_append, cl_append]; simp [enc]
  | (g, w, h) :: t :: r => by
    show (g ++ w ++ h ++ Str.ofString "|" ++ Str.join (Str.ofString "|") ((t :: r).map fun t => t.1 ++ t.2.1 ++ t.2.2) : Str).cps.toList = _
    rw [cl_append, enc_join (t :: r), cl_append, cl_append, cl_append]
    have : (Str.ofString "|").cps.toList = [124] := by decide
    rw [this]; simp [enc]
theorem enc_len : ∀ {ts : List (Str × Str × Str)}, (∀ t ∈ ts, TripOk t) → ts.length ≤ (enc ts).length + 1
  | [], _ => by simp
  | [(g, w, h)], _ => by simp
  | (g, w, h) :: t :: r, ok => by
    have := enc_len (ts := t :: r) fun q hq => ok q (.tail _ hq)
    simp [enc] at this ⊢; omega
noncomputable abbrev chText (ys : List Str) : Str := Str.ofString "(" ++ PySem.Txt.join (Str.ofString "|") ys ++ Str.ofString ")"
theorem chText_toList (ts : List (Str × Str × Str)) : (chText (ts.map fun t => t.1 ++ t.2.1 ++ t.2.2)).cps.toList = 40 :: (enc ts ++ [41]) := by
  have h1 : (Str.ofString "(").cps.toList = [40] := by decide
  have h2 : (Str.ofString ")").cps.toList = [41] := by decide
  rw [cl_append, cl_append, h1, h2]
  unfold PySem.Txt.join
  rw [PySem.StrLaws.glued_eq_join, enc_join]; simp
theorem rc_law (nt : Bool) (ts : List (Str × Str × Str)) (h0 : ts ≠ []) (ok : ∀ t ∈ ts, TripOk t) :
    rcTop nt (chText (ts.map fun t => t.1 ++ t.2.1 ++ t.2.2) ++ Str.ofString ")") = if (okAll nt (ts.map (·.2.1)) && freshAll (ts.map (·.2.1)) []) = true then some (ts.map (·.2.1), (chText (ts.map fun t => t.1 ++ t.2.1 ++ t.2.2)).length) else none := by
  have h2 : (Str.ofString ")").cps.toList = [41] := by decide
  have e : (chText (ts.map fun t => t.1 ++ t.2.1 ++ t.2.2) ++ Str.ofString ")").cps.toList = 40 :: (enc ts ++ [41, 41]) := by
    rw [cl_append, chText_toList, h2]; simp
  have el : (chText (ts.map fun t => t.1 ++ t.2.1 ++ t.2.2)).length = 1 + (enc ts).length + 1 := by
    show (chText _).cps.toList.length = _
    rw [chText_toList]; simp; omega
  have el2 : (chText (ts.map fun t => t.1 ++ t.2.1 ++ t.2.2) ++ Str.ofString ")").length = 1 + (enc ts).length + 2 := by
    show (_ : Str).cps.toList.length = _
    rw [e]; simp; omega
  unfold rcTop
  rw [e, if_pos (show (40 :: (enc ts ++ [41, 41]))[0]? = some 40 from rfl), rc_enc ts _ 1 [] h0 ok (z := [41]) (by rw [e]; rfl) (by have := enc_len ok; rw [el2]; omega), el]
  rfl
theorem dup_fresh : ∀ (ws found : List Str), dup (found ++ ws) (found.length + ws.length) = (dup (found ++ ws) found.length || !freshAll ws found)
  | [], found => by simp [freshAll]
  | w :: r, found => by
    have ih := dup_fresh r (found ++ [w])
    rw [List.append_assoc, List.singleton_append, List.length_append, List.length_singleton] at ih
    rw [show found.length + (w :: r).length = found.length + 1 + r.length by simp; omega, ih]
    show ((dup (found ++ w :: r) found.length || ((found ++ w :: r).take found.length).any (· == (found ++ w :: r).getD found.length Str.empty)) || !freshAll r (found ++ [w])) = _
    have e1 : (found ++ w :: r).take found.length = found := List.take_left
    have e2 : (found ++ w :: r).getD found.length Str.empty = w := by
      rw [List.getD_eq_getElem?_getD, List.getElem?_append_right (Nat.le_refl _), Nat.sub_self]; rfl
    rw [e1, e2]
    show _ = (_ || !(!(found.any (· == w)) && freshAll r (found ++ [w])))
    cases dup (found ++ w :: r) found.length <;> cases found.any (· == w) <;> cases freshAll r (found ++ [w]) <;> rfl
theorem fresh_dup (ws : List Str) : freshAll ws [] = !dup ws ws.length := by
  have := dup_fresh ws []
  simp only [List.nil_append, List.length_nil, Nat.zero_add, dup, Bool.false_or] at this
  rw [this, Bool.not_not]
set_option maxRecDepth 100000
set_option maxHeartbeats 8000000
theorem ln22 : True := by
  k_with_none
  k_with "M subscriptTail Name Constant ref int" => (k_here; (with_reducible show wpAny _ _ (subscriptTail _ _ (Value.ref _) (Value.int _ _)) _ _ _); k_dflt (refine' Mine.item_N ?k0 ?k1 ?k2 ?k3 ?k4 ?_ ?k6; (case k0 => k_asm); (case k1 => k_mem); (case k2 => decide); (case k3 => decide); (case k4 => rfl); (case k6 => with_unfolding_all rfl); k_whole))
  k_with "M m_new" => first | exact List.forall_mem_nil _ | (refine' List.forall_mem_cons.mpr ⟨And.intro ?mzA ?mzB, ?mzC⟩; (case mzA => k_mem); (case mzB => (try dsimp only); first | exact Or.inl (by k_mem) | exact Or.inr (by walk_at "m_all")); (case mzC => walk_at "m_new"))
  k_with "M m_spl" => first | exact Mine.Spl.head | exact (Mine.Spl.tail Mine.Spl.head) | exact (Mine.Spl.tail (Mine.Spl.tail Mine.Spl.head)) | exact (Mine.Spl.tail (Mine.Spl.tail (Mine.Spl.tail Mine.Spl.head))) | exact (Mine.Spl.tail (Mine.Spl.tail (Mine.Spl.tail (Mine.Spl.tail Mine.Spl.head)))) | exact (Mine.Spl.tail (Mine.Spl.tail (Mine.Spl.tail (Mine.Spl.tail (Mine.Spl.tail Mine.Spl.head))))) | exact (Mine.Spl.tail (Mine.Spl.tail (Mine.Spl.tail (Mine.Spl.tail (Mine.Spl.tail (Mine.Spl.tail Mine.Spl.head)))))) | exact (Mine.Spl.tail (Mine.Spl.tail (Mine.Spl.tail (Mine.Spl.tail (Mine.Spl.tail (Mine.Spl.tail (Mine.Spl.tail Mine.Spl.head))))))) | exact (Mine.Spl.tail (Mine.Spl.tail (Mine.Spl.tail (Mine.Spl.tail (Mine.Spl.tail (Mine.Spl.tail (Mine.Spl.tail (Mine.Spl.tail Mine.Spl.head)))))))) | exact (Mine.Spl.tail (Mine.Spl.tail (Mine.Spl.tail (Mine.Spl.tail (Mine.Spl.tail (Mine.Spl.tail (Mine.Spl.tail (Mine.Spl.tail (Mine.Spl.tail Mine.Spl.head))))))))) | exact (Mine.Spl.tail (Mine.Spl.tail (Mine.Spl.tail (Mine.Spl.tail (Mine.Spl.tail (Mine.Spl.tail (Mine.Spl.tail (Mine.Spl.tail (Mine.Spl.tail (Mine.Spl.tail Mine.Spl.head)))))))))) | exact (Mine.Spl.tail (Mine.Spl.tail (Mine.Spl.tail (Mine.Spl.tail (Mine.Spl.tail (Mine.Spl.tail (Mine.Spl.tail (Mine.Spl.tail (Mine.Spl.tail (Mine.Spl.tail (Mine.Spl.tail Mine.Spl.head))))))))))) | exact (Mine.Spl.tail (Mine.Spl.tail (Mine.Spl.tail (Mine.Spl.tail (Mine.Spl.tail (Mine.Spl.tail (Mine.Spl.tail (Mine.Spl.tail (Mine.Spl.tail (Mine.Spl.tail (Mine.Spl.tail (Mine.Spl.tail Mine.Spl.head)))))))))))) | exact (Mine.Spl.tail (Mine.Spl.tail (Mine.Spl.tail (Mine.Spl.tail (Mine.Spl.tail (Mine.Spl.tail (Mine.Spl.tail (Mine.Spl.tail (Mine.Spl.tail (Mine.Spl.tail (Mine.Spl.tail (Mine.Spl.tail (Mine.Spl.tail Mine.Spl.head)))))))))))))
  k_with "M m_own" => first | exact List.forall_mem_nil _ | (refine' List.forall_mem_cons.mpr ⟨?mzA, ?mzB⟩; (case mzA => k_mem); (case mzB => walk_at "m_own"))
  k_with "M m_lvl" => first | exact lv_le 3 rfl (by assumption) rfl | exact lv_le 1 rfl (by assumption) rfl | exact lv_le 0 rfl (by assumption) rfl | exact lv_le 2 rfl (by assumption) rfl | ((try simp only [depth_under_make, depth_under_kw, depth_in1, depth_deeper, units_in1, units_deeper, units_under_make, Around.mark_units]); (try dsimp only); omega)
  k_with "M call builtin:len" => (k_here; (with_reducible show wpAny _ _ (call (Value.builtin "len") [Value.ref _]) _ _ _); k_dflt (refine' Mine.len_N ?k0 ?k1 ?k2 ?_; (case k0 => k_asm); (case k1 => k_mem); (case k2 => (try simp only [List.length_cons, List.length_nil]); omega); k_whole))
  k_with "M m_ne0" => (replace l1 := ne0_of l1; (try simp only [NewNe0, AllNe, and_true, and_assoc] at l1); (repeat (have := And.left l1; replace l1 := And.right l1)))
  k_with "M m_ne1" => (replace l1 := ne1_of l1; (try simp only [NewNe1, AllNe, and_true, true_or, true_and, and_assoc] at l1); (repeat (have := And.left l1; replace l1 := And.right l1)))
  k_with "M exec Raise some none" => (k_here; k_dflt (refine' Mine.raise_stmt ?hh ?_; (case hh => first | rfl | assumption)))
  k_with "M pyIter ref" => ((with_reducible show wpAny _ _ _ (fun it s₂ => UnrAt _ _ _ _ _ _ _ _ _ it s₂) _ _); (k_dflt (refine' Iter_tuple_unr ?hh ?ht ?F ?N ?htL ?_; (case F => k_asm); (case N => k_asm); (case hh => assumption); (case ht => exact News.isTup (by assumption) (by k_mem)); (case htL => exact News.ne_locals (by assumption) (by k_mem)))))
  k_with "M eval Name" => (k_here; (with_reducible show wpAny _ _ (eval (Expr.Name _ _) (envOfC _ _ _ _ _)) _ _ _); k_dflt (refine' nameX_L ?nxF ?nxV ?_; (case nxF => k_asm); (case nxV => rfl); k_whole))
  k_with "M m_sub" => first | exact List.forall_mem_nil _ | (refine' List.forall_mem_cons.mpr ⟨?mzA, ?mzB⟩; (case mzA => k_mem); (case mzB => walk_at "m_sub")) | (intro mzp mzh; k_mem)
  k_with "M m_off" => first | exact True.intro | assumption | (refine And.intro ⟨by k_ne, by k_ne, by k_ne⟩ ?_; walk_at "m_off")
  k_with "M m_same" => first | exact List.forall_mem_nil _ | (refine' List.forall_mem_cons.mpr ⟨?mzA, ?mzB⟩; (case mzA => (try dsimp only); first | exact Or.inl (by k_mem) | exact Or.inr (by k_mem)); (case mzB => walk_at "m_same")) | simp
  k_with "M m_all" => first | exact List.forall_mem_nil _ | (refine' List.forall_mem_cons.mpr ⟨?mzA, ?mzB⟩; (case mzA => k_ne); (case mzB => walk_at "m_all")) | assumption
  k_with "M om" => first | ((repeat (with_reducible rename (_ ≠ _) => hz9; clear hz9)); omega) | omega
  k_with "M m_ltp" => first | with_reducible assumption | (with_reducible rename (_ < _ ∧ _) => hq9; first | with_reducible exact hq9.1 | with_reducible exact hq9.2.1 | with_reducible exact hq9.2.2.1 | with_reducible exact hq9.2.2.2.1 | with_reducible exact hq9.2.2.2.2.1 | with_reducible exact hq9.2.2.2.2.2.1 | with_reducible exact hq9.2 | with_reducible exact hq9.2.2 | with_reducible exact hq9.2.2.2 | with_reducible exact hq9.2.2.2.2 | with_reducible exact hq9.2.2.2.2.2 | (clear hq9; walk_at "m_ltp"))
  k_with "M m_nel" => first | exact Nat.ne_of_lt (by walk_at "m_ltp") | exact Nat.ne_of_gt (by walk_at "m_ltp") | exact ne_lt_k 1 rfl (by walk_at "m_ltp") | exact ne_lt_k 2 rfl (by walk_at "m_ltp") | exact ne_lt_k 3 rfl (by walk_at "m_ltp") | exact ne_lt_k 4 rfl (by walk_at "m_ltp") | exact ne_gt_k 1 rfl (by walk_at "m_ltp") | exact ne_gt_k 2 rfl (by walk_at "m_ltp") | exact ne_gt_k 3 rfl (by walk_at "m_ltp") | exact ne_gt_k 4 rfl (by walk_at "m_ltp")
  k_with "M execs cons" => (k_here; (try k_gentoks); (with_reducible refine wpAny_execs_cons ?_); (try k_fold); (try dsimp only))
  k_with "M call ref" => (k_here; (with_reducible show wpAny _ _ (call (Value.ref 246) _) _ _ _); (k_dflt (refine' take_use ?G ?F ?N ?st ?d ?u ?h ?sp ?ne ?t1 ?t2 ?t3 ?t4 ?t5 ?_; (case F => k_asm); (case N => k_asm); (case sp => walk_at "m_spl"); (case ne => walk_at "m_all"); (case st => assumption); (case d => walk_at "m_lvl"); (case u => walk_at "m_lvl"); (case h => assumption); (try (case G => assumption)); (all_goals (try (case t1 => first | omega | decide | assumption))); (all_goals (try (case t2 => first | omega | decide | assumption))); (all_goals (try (case t3 => first | omega | decide | assumption))); (all_goals (try (case t4 => first | omega | decide | assumption))); (all_goals (try (case t5 => first | omega | decide | assumption))); (all_goals (try (case a1 => assumption))); (all_goals (try (case a2 => assumption))); (all_goals (try (case a3 => assumption))); k_whole)); intro d' td' a' b' ta' tb' n' h' tk' hd0' hd1' ha' hb0' hb1' F' N'; (try dsimp only); (try k_sweep))
  k_with "M call ref" => (k_here; (with_reducible show wpAny _ _ (call (Value.ref 253) _) _ _ _); (k_dflt (refine' oneS_use ?G ?F ?N ?st ?d ?u ?h ?sp ?b4 ?ne ?b1 ?b2 ?p1 ?p2 ?t3 ?t4 ?t5 ?b3 ?_; (case F => k_asm); (case N => k_asm); (case sp => walk_at "m_spl"); (case b4 => k_mem); (case ne => walk_at "m_all"); (case st => assumption); (case d => walk_at "m_lvl"); (case u => walk_at "m_lvl"); (case h => assumption); (try (case G => assumption)); (case b1 => first | rfl | assumption); (case b2 => first | assumption | decide); (case b3 => k_ne); (case p1 => first | exact Nat.le_of_ble_eq_true rfl | omega); (case p2 => first | exact Nat.le_of_ble_eq_true rfl | omega); (all_goals (try (case t1 => first | omega | decide | assumption))); (all_goals (try (case t2 => first | omega | decide | assumption))); (all_goals (try (case t3 => first | omega | decide | assumption))); (all_goals (try (case t4 => first | omega | decide | assumption))); (all_goals (try (case t5 => first | omega | decide | assumption))); (all_goals (try (case a1 => assumption))); (all_goals (try (case a2 => assumption))); (all_goals (try (case a3 => assumption))); k_whole)); intro s' ts' a' b' ta' tb' n' h' tk' hs' hsl' ha' hb0' hb1' F' N'; (try dsimp only); (try k_sweep))
  trivial
noncomputable abbrev wordsS : List Str := [Str.ofString "a", Str.ofString "b", Str.ofString "c-1", Str.ofString "_d", Str.ofString "9", Str.ofString "-x"]
noncomputable abbrev gapsS : List Str := [Str.ofString "", Str.ofString " ", Str.ofString "\n"]
noncomputable abbrev ntMap (nt : Bool) : Str → Option Value := fun y => if y = Str.ofString "is_notation" then some (Value.bool nt) else none
noncomputable abbrev chEl (gs ss : List Str) (k : Nat) : Str := gs.getD (2 * k) Str.empty ++ ss.getD k Str.empty ++ gs.getD (2 * k + 1) Str.empty
noncomputable abbrev chS (gs ss : List Str) (n : Nat) : List Str := (List.range n).map (chEl gs ss)
theorem chS_succ (gs ss : List Str) (n : Nat) : chS gs ss (n + 1) = chS gs ss n ++ [chEl gs ss n] := by
  show (List.range (n + 1)).map _ = _
  rw [List.range_succ, List.map_append]; rfl
theorem getD_le {B : Nat} {l : List Str} (h : ∀ s ∈ l, s.length ≤ B) (k : Nat) : (l.getD k Str.empty).length ≤ B := by
  rw [List.getD_eq_getElem?_getD]
  cases e : l[k]? with
  | none => exact Nat.zero_le _
  | some s => exact h s (List.mem_of_getElem? e)
theorem sum_le' {B : Nat} : ∀ {l : List Str}, (∀ s ∈ l, s.length ≤ B) → (l.map (·.length)).sum ≤ l.length * B
  | [], _ => Nat.zero_le _
  | x :: r, h => by
    have := sum_le' (l := r) fun s hs => h s (.tail _ hs)
    have := h x (.head _)
    simp only [List.map_cons, List.sum_cons, List.length_cons, Nat.succ_mul] at *
    walk_at "om"
theorem wl : (∀ s ∈ wordsS, s.length ≤ 3) ∧ (∀ s ∈ gapsS, s.length ≤ 1) := by decide
theorem chEl_len {gs ss : List Str} (hg : ∀ s ∈ gs, s ∈ gapsS) (hs : ∀ s ∈ ss, s ∈ wordsS) (k : Nat) : (chEl gs ss k).length ≤ 5 := by
  have h1 := getD_le (fun s h => wl.2 s (hg s h)) (2 * k)
  have h2 := getD_le (fun s h => wl.1 s (hs s h)) k
  have h3 := getD_le (fun s h => wl.2 s (hg s h)) (2 * k + 1)
  show (_ ++ _ ++ _ : Str).length ≤ 5
  rw [len_append, len_append]; walk_at "om"
theorem chS_sum {gs ss : List Str} (hg : ∀ s ∈ gs, s ∈ gapsS) (hs : ∀ s ∈ ss, s ∈ wordsS) {n : Nat} (hn : n ≤ 3) : ((chS gs ss n).map (·.length)).sum + (chS gs ss n).length * (Str.ofString "|").length ≤ 18 := by
  have h1 : ((chS gs ss n).map (·.length)).sum ≤ (chS gs ss n).length * 5 := sum_le' fun s h => by
    obtain ⟨k, _, rfl⟩ := List.mem_map.mp h
    exact chEl_len hg hs k
  have h2 : (chS gs ss n).length = n := by simp
  have h3 : (Str.ofString "|").length = 1 := by decide
  rw [h2] at h1 ⊢
  rw [h3]; walk_at "om"
noncomputable def bad1 (s : Str) : Bool := s == Str.ofString "9" || s == Str.ofString "-x"
noncomputable abbrev badB (ss : List Str) : Bool := ss.any bad1
theorem layW : ∀ s ∈ wordsS, PyData.canLay0 (.str s) = true := by decide +kernel
theorem Bool.beq_comm' (a b : Str) : (a == b) = (b == a) := by
  rw [Bool.eq_iff_iff, beq_iff_eq, beq_iff_eq]; exact eq_comm
theorem filter_any (ss : List Str) : (!(ss.filter bad1).isEmpty) = ss.any bad1 := by
  induction ss with
  | nil => rfl
  | cons x r ih =>
    rw [List.any_cons, ← ih]
    cases h : bad1 x with
    | true => rw [List.filter_cons_of_pos h]; rfl
    | false => rw [List.filter_cons_of_neg (by rw [h]; decide)]; rfl
theorem lenset_N {prog : Program} {w : World} {A : Around} {E : Value → Shared → Prop} {s : Shared} {g : Heap} {L : Addr} {news : List (Addr × Obj)} {D : Addr} {o : Obj} {S : Str → Bool} {n : Nat} {Q : Value → Shared → Prop}
    (N : News g L s.heap news) (hm : (D, o) ∈ news) (hso : o.SetObjOf (PySem.strKind prog w) S n) (hn : n ≤ 100) (h : Q (.int (n : Nat) (s.toks + 1)) { s with toks := s.toks + 1 + 1 }) :
    wpAny (model prog w) A (call (.builtin "len") [.ref D]) Q E s := by
  obtain ⟨hex, es, ep, t, hd, _, _, hn', hf⟩ := hso
  subst hn'
  exact call_len_set (N _ hm).1 hex hd hf (by walk_at "om") h
noncomputable abbrev txMap (nt : Bool) (x : Str) (tx : Tok) : Str → Option Value := fun y => if y = Str.ofString "text" then some (Value.str x tx) else ntMap nt y
noncomputable abbrev bdMap (nt : Bool) (x : Str) (tx : Tok) (bad : Bool) : Str → Option Value := fun y => if y = Str.ofString "is_bad" then some (Value.bool bad) else txMap nt x tx y
noncomputable abbrev chTs (gs ss : List Str) : List (Str × Str × Str) := (List.range ss.length).map fun k => (gs.getD (2 * k) Str.empty, ss.getD k Str.empty, gs.getD (2 * k + 1) Str.empty)
theorem range_getD (ss : List Str) : (List.range ss.length).map (fun k => ss.getD k Str.empty) = ss := by
  apply List.ext_getElem
  · simp
  · intro i h1 h2
    simp [List.getD_eq_getElem?_getD, List.getElem?_eq_getElem h2]
theorem gapW : ∀ s ∈ gapsS, ∀ c ∈ s.cps.toList, spB c = true := by decide +kernel
theorem wordW : ∀ s ∈ wordsS, (∀ c ∈ s.cps.toList, ncB c = true) ∧ s.cps.toList ≠ [] ∧ okL true s.cps.toList = !(bad1 s) ∧ okL false s.cps.toList = true := by decide +kernel
theorem gap_getD {gs : List Str} (h : ∀ s ∈ gs, s ∈ gapsS) (k : Nat) : ∀ c ∈ (gs.getD k Str.empty).cps.toList, spB c = true := by
  rw [List.getD_eq_getElem?_getD]
  cases e : gs[k]? with
  | none => intro c hc; cases hc
  | some s => exact gapW s (h s (List.mem_of_getElem? e))
theorem chTs_ok {gs ss : List Str} (hg : ∀ s ∈ gs, s ∈ gapsS) (hs : ∀ s ∈ ss, s ∈ wordsS) : ∀ t ∈ chTs gs ss, TripOk t := by
  intro t ht
  obtain ⟨k, hk, rfl⟩ := List.mem_map.mp ht
  have hk' : k < ss.length := List.mem_range.mp hk
  have hm : ss.getD k Str.empty ∈ ss := by
    rw [List.getD_eq_getElem?_getD, List.getElem?_eq_getElem hk']; exact List.getElem_mem hk'
  have hw := wordW _ (hs _ hm)
  exact ⟨gap_getD hg _, hw.1, hw.2.1, gap_getD hg _⟩
theorem ok_all {ss : List Str} (hs : ∀ s ∈ ss, s ∈ wordsS) (nt : Bool) : okAll nt ss = !(nt && badB ss) := by
  induction ss with
  | nil => cases nt <;> rfl
  | cons x r ih =>
    have hw := (wordW x (hs x (.head _))).2.2
    have e : okAll nt (x :: r) = (okL nt x.cps.toList && okAll nt r) := rfl
    have e2 : badB (x :: r) = (bad1 x || badB r) := rfl
    rw [e, ih fun s h => hs s (.tail _ h), e2]
    cases nt with
    | true => rw [hw.1]; cases bad1 x <;> cases badB r <;> rfl
    | false => rw [hw.2]; rfl
theorem chLaw (nt : Bool) {gs ss : List Str} (h1 : 1 ≤ ss.length) (hg : ∀ s ∈ gs, s ∈ gapsS) (hs : ∀ s ∈ ss, s ∈ wordsS) :
    rcTop nt (chText (chS gs ss ss.length) ++ Str.ofString ")") = if (dup ss ss.length || (nt && badB ss)) = true then none else some (ss, (chText (chS gs ss ss.length)).length) := by
  have e1 : chS gs ss ss.length = (chTs gs ss).map fun t => t.1 ++ t.2.1 ++ t.2.2 := by
    show _ = List.map _ (List.map _ _)
    rw [List.map_map]; rfl
  have e2 : (chTs gs ss).map (·.2.1) = ss := by
    show List.map _ (List.map _ _) = _
    rw [List.map_map]; exact range_getD ss
  have := rc_law nt (chTs gs ss) (fun z => by have := congrArg List.length z; simp at this; subst this; simp at h1) (chTs_ok hg hs)
  rw [e2, ← e1, ok_all hs, fresh_dup] at this
  rw [this]
  cases dup ss ss.length <;> cases nt <;> cases badB ss <;> rfl
theorem enc_asc : ∀ {ts : List (Str × Str × Str)}, (∀ t ∈ ts, TripOk t) → ∀ c ∈ enc ts, c < 128
  | [], _, _, h => nomatch h
  | [(g, w, h)], ok, c, hc => by
    have o := ok _ (.head _)
    simp only [enc, List.mem_append] at hc
    rcases hc with hc | hc | hc
    · have := o.g c hc; simp [spB] at this; walk_at "om"
    · have := o.w c hc; simp [ncB, nsB, smB] at this; walk_at "om"
    · have := o.h c hc; simp [spB] at this; walk_at "om"
  | (g, w, h) :: t :: r, ok, c, hc => by
    have o := ok _ (.head _)
    simp only [enc, List.mem_append, List.mem_cons] at hc
    rcases hc with hc | hc | hc | hc | hc
    · have := o.g c hc; simp [spB] at this; walk_at "om"
    · have := o.w c hc; simp [ncB, nsB, smB] at this; walk_at "om"
    · have := o.h c hc; simp [spB] at this; walk_at "om"
    · walk_at "om"
    · exact enc_asc (ts := t :: r) (fun q hq => ok q (.tail _ hq)) c hc
theorem ch_asc {gs ss : List Str} (hg : ∀ s ∈ gs, s ∈ gapsS) (hs : ∀ s ∈ ss, s ∈ wordsS) : ∀ c ∈ (chText (chS gs ss ss.length) ++ Str.ofString ")").cps.toList, c < 128 := by
  have e1 : chS gs ss ss.length = (chTs gs ss).map fun t => t.1 ++ t.2.1 ++ t.2.2 := by
    show _ = List.map _ (List.map _ _)
    rw [List.map_map]; rfl
  have h2 : (Str.ofString ")").cps.toList = [41] := by decide
  rw [cl_append, e1, chText_toList, h2]
  intro c hc
  rcases List.mem_append.mp hc with hc | hc
  · rcases List.mem_cons.mp hc with rfl | hc
    · decide
    · rcases List.mem_append.mp hc with hc | hc
      · exact enc_asc (chTs_ok hg hs) c hc
      · rw [List.mem_singleton.mp hc]; decide
  · rw [List.mem_singleton.mp hc]; decide
theorem ch_len {gs ss : List Str} (hg : ∀ s ∈ gs, s ∈ gapsS) (hs : ∀ s ∈ ss, s ∈ wordsS) (hl : ss.length ≤ 3) : (chText (chS gs ss ss.length)).length ≤ 20 := by
  have hj : (PySem.Txt.join (Str.ofString "|") (chS gs ss ss.length)).length ≤ 18 := by
    unfold PySem.Txt.join
    rw [PySem.StrLaws.glued_eq_join]
    exact Nat.le_trans (PySem.StrLaws.join_length_le _ _) (chS_sum hg hs hl)
  have hc1 : (Str.ofString "(").length = 1 := by decide
  have hc2 : (Str.ofString ")").length = 1 := by decide
  show (_ ++ _ ++ _ : Str).length ≤ 20
  rw [len_append, len_append]; walk_at "om"
noncomputable abbrev bentS : List Str := [Str.ofString "()", Str.ofString "( )", Str.ofString "(a|)", Str.ofString "(|a)", Str.ofString "(a b)", Str.ofString "(a,b)", Str.ofString "a|b)", Str.ofString "((a)", Str.ofString "(a||b)", Str.ofString "(a|b", Str.ofString "(a"]
noncomputable abbrev openS : List Str := [Str.ofString "(a|b", Str.ofString "(a"]
noncomputable def rcF (nt : Bool) (text : Str) : Nat → Nat → List Str → Option (List Str × Nat)
  | 0, _, _ => none
  | k + 1, p, found =>
    if rcOk nt text.cps.toList (p + cntB spB (text.cps.toList.drop p)) = true then
      if (found.any (· == sub text (p + cntB spB (text.cps.toList.drop p)) (p + cntB spB (text.cps.toList.drop p) + cntB ncB (text.cps.toList.drop (p + cntB spB (text.cps.toList.drop p)))))) = true then none
      else (fun a b => if text.cps.toList[b + cntB spB (text.cps.toList.drop b)]? = some 124 then rcF nt text k (b + cntB spB (text.cps.toList.drop b) + 1) (found ++ [sub text a b])
        else if text.cps.toList[b + cntB spB (text.cps.toList.drop b)]? = some 41 then some (found ++ [sub text a b], b + cntB spB (text.cps.toList.drop b) + 1) else none)
        (p + cntB spB (text.cps.toList.drop p)) (p + cntB spB (text.cps.toList.drop p) + cntB ncB (text.cps.toList.drop (p + cntB spB (text.cps.toList.drop p))))
    else none
theorem rcF_eq (nt : Bool) (text : Str) : ∀ (k p : Nat) (found : List Str), rc nt text k p found = rcF nt text k p found
  | 0, _, _ => by rw [rc, rcF]
  | k + 1, p, found => by
    rw [rc, rc.rc2, rcF, rcF_eq nt text k]
noncomputable def rcTopF (nt : Bool) (text : Str) : Option (List Str × Nat) := if text.cps.toList[0]? = some 40 then rcF nt text text.length 1 [] else none
theorem rcTopF_eq (nt : Bool) (text : Str) : rcTop nt text = rcTopF nt text := by
  unfold rcTop rcTopF
  rw [rcF_eq]
theorem bent_lawF : ∀ nt : Bool, (∀ x ∈ bentS, ((x ++ Str.ofString ")").length < 1000000 ∧ ∀ c ∈ (x ++ Str.ofString ")").cps.toList, c < 128) ∧ ((rcTopF nt (x ++ Str.ofString ")")).isSome = openS.any (· == x)) ∧ ((rcTopF nt (x ++ Str.ofString ")")).all fun p => p.1.all fun s => PyData.canLay0 (.str s)) = true) ∧ (∀ x ∈ openS, ((x ++ Str.ofString "").length < 1000000 ∧ ∀ c ∈ (x ++ Str.ofString "").cps.toList, c < 128) ∧ rcTopF nt (x ++ Str.ofString "") = none) := by decide +kernel
theorem bent_law : ∀ nt : Bool, (∀ x ∈ bentS, ((x ++ Str.ofString ")").length < 1000000 ∧ ∀ c ∈ (x ++ Str.ofString ")").cps.toList, c < 128) ∧ ((rcTop nt (x ++ Str.ofString ")")).isSome = openS.any (· == x)) ∧ ((rcTop nt (x ++ Str.ofString ")")).all fun p => p.1.all fun s => PyData.canLay0 (.str s)) = true) ∧ (∀ x ∈ openS, ((x ++ Str.ofString "").length < 1000000 ∧ ∀ c ∈ (x ++ Str.ofString "").cps.toList, c < 128) ∧ rcTop nt (x ++ Str.ofString "") = none) := by
  simp only [rcTopF_eq]
  exact bent_lawF
section
open PySem.Spec PySem.SeqAt
theorem eq_due_str_N {prog : Program} {w : World} {A : Around} {E : Value → Shared → Prop} {s : Shared} {g : Heap} {L : Addr} {news : List (Addr × Obj)} {a : Addr} {vs : List Value} {ss : List Str} {n : Nat} {Q : Value → Shared → Prop} {T : Addr} {q : Int} {t tx : Tok} {x : Str}
    (N : News g L s.heap news) (ma : (a, listOf #[.ref T, .int q t] n) ∈ news) (mT : (T, tupO vs) ∈ news) (hs : StrsAre vs ss) (hl : ∀ x ∈ ss, PyData.canLay0 (.str x) = true) (hx : PyData.canLay0 (.str x) = true) (hu : A.units ≤ 1000)
    (h : Q (.bool false) s) : wpAny (model prog w) A (compareOp .Eq (.ref a) (.str x tx)) Q E s := by
  have sh : shaped (.list [.tuple (ss.map PyData.str), .int q]) = true := by
    simp [shaped, PyData.canLay0, PyData.canLayAll0, PyData.depth, PyData.depthAll, strs_lay hl, strs_depth]
  have sx : shaped (.str x) = true := by simp [shaped, hx, PyData.depth]
  refine eq_dataH (da := .list [.tuple (ss.map .str), .int q]) (db := .str x) (reads_list_at (N _ ma).1 rfl rfl (.cons (reads_tuple_at (N _ mT).1 rfl rfl (strs_reads hs)) (.cons (.int _ _) .nil))) (.str x tx) sh sx (by unfold cLine; walk_at "om") ?_
  have e : PyData.eqv (.list [.tuple (ss.map .str), .int q]) (.str x) = false := by simp [PyData.eqv]
  rw [e]; exact h
end
noncomputable abbrev dueMap (nt : Bool) (x : Str) (tx : Tok) (bad : Bool) (dv : Value) : Str → Option Value := fun y => if y = Str.ofString "due" then some dv else bdMap nt x tx bad y
set_option autoImplicit false in
inductive ChA (s : Shared) (g : Heap) (src L' : Nat) (s' : Shared) : Prop
  | mk (h : _) (tk : _) (nt : _) (ss : _) (gs : _) (vs1 : _) (vs2 : _) (D1 : _) (D2 : _) (c1 : _) (c2 : _) (c3 : _) (c4 : _) (a : _) (b : _) (ta : _) (tb : _) (n : _) (z0 : s' = { s with heap := h, toks := tk }) (z1 : Fr g L' h (ntMap nt)) (z2 : News g L' h [(src, srcO a b ta tb n), (D1, LCg.lst vs1), (D2, LCg.lst vs2), (L' + 1 + 1 + 1 + 1, c1), (L' + 1 + 1 + 1, c2), (L' + 1 + 1, c3), (L' + 1, c4)]) (z3 : c1.data = .cell (some (.ref D2))) (z4 : c2.data = .cell (some (.ref D1))) (z5 : c4.data = .cell (some (.ref src))) (z6 : StrsAre vs1 ss) (z7 : StrsAre vs2 gs) (z8 : 1 ≤ ss.length) (z9 : ss.length ≤ 3) (z10 : gs.length = 2 * ss.length) (z11 : (∀ s ∈ ss, s ∈ wordsS)) (z12 : (∀ s ∈ gs, s ∈ gapsS)) (z13 : 0 ≤ a) (z14 : 0 ≤ b) (z15 : b < 2147483647) (z16 : @Ne Nat D1 src) (z17 : @Ne Nat D2 src) : ChA s g src L' s'
set_option autoImplicit false in
inductive ChC (s : Shared) (g : Heap) (L' : Nat) (nt : Bool) (text : Str) (led : List (Addr × Obj)) (s' : Shared) : Prop
  | mk (h : _) (tk : _) (tx : _) (z0 : s' = { s with heap := h, toks := tk }) (z1 : Fr g L' h (txMap nt text tx)) (z2 : News g L' h led) : ChC s g L' nt text led s'
set_option autoImplicit false in
inductive ChD (s : Shared) (g : Heap) (L' : Nat) (nt : Bool) (text : Str) (tx : Tok) (bd : Bool) (led : List (Addr × Obj)) (s' : Shared) : Prop
  | mk (h : _) (tk : _) (bad : _) (z0 : bad = bd) (z1 : s' = { s with heap := h, toks := tk }) (z2 : Fr g L' h (bdMap nt text tx bad)) (z3 : News g L' h led) : ChD s g L' nt text tx bd led s'
set_option autoImplicit false in
inductive ChE (s : Shared) (B : Heap) (src L' : Nat) (outer : List Env) (nt : Bool) (text : Str) (tx : Tok) (bad : Bool) (so : Obj) (s' : Shared) : Prop
  | mk (g' : _) (h : _) (tk : _) (dv : _) (c4 : _) (z0 : s' = { s with heap := h, toks := tk }) (z1 : Fr g' L' h (dueMap nt text tx bad dv)) (z2 : News g' L' h [(src, so), (L' + 1, c4)]) (z3 : c4.data = .cell (some (.ref src))) (z4 : GR s.heap [src] (frs outer) g') (z5 : B.StaysIn g') (z6 : g'.FunFrames B outer) : ChE s B src L' outer nt text tx bad so s'
set_option autoImplicit false in
inductive CoA (src : Nat) (rest : List (Addr × Obj)) (i : Nat) (ys : List Value) (news : List (Addr × Obj)) : Prop
  | mk (ss : _) (a : _) (b : _) (ta : _) (tb : _) (n : _) (z0 : StrsAre ys ss) (z1 : ss.length = i) (z2 : (∀ s ∈ ss, s ∈ wordsS)) (z3 : news = (src, srcO a b ta tb n) :: rest) (z4 : 0 ≤ a) (z5 : 0 ≤ b) (z6 : b < 2147483647) : CoA src rest i ys news
set_option autoImplicit false in
inductive CoB (src : Nat) (rest : List (Addr × Obj)) (i : Nat) (ys : List Value) (news : List (Addr × Obj)) : Prop
  | mk (gs : _) (a : _) (b : _) (ta : _) (tb : _) (n : _) (z0 : StrsAre ys gs) (z1 : gs.length = i) (z2 : (∀ s ∈ gs, s ∈ gapsS)) (z3 : news = (src, srcO a b ta tb n) :: rest) (z4 : 0 ≤ a) (z5 : 0 ≤ b) (z6 : b < 2147483647) : CoB src rest i ys news
section
variable {prog : Program} {w : World} {mean : ExcName → Option Value} {mg mb : Str → Option Value} {B : Heap} (G : Gd w mean mg mb B)
include G
theorem choices_right_con (src : Nat) (a b : Int) (ta tb : Tok) (n : Nat) (ha : 0 ≤ a) (hb0 : 0 ≤ b) (hb1 : b < 2147483647) :
    ConF prog w B 40 (.ref 295) [.ref src] [(src, srcO a b ta tb n)] [src]
      (fun v new => ∃ a' b' ta' tb' n', new = [(src, srcO a' b' ta' tb' n')] ∧ v = .bool true ∧ 0 ≤ a' ∧ 0 ≤ b' ∧ b' < 2147483647) := by
  intro A s R outer C k
  obtain ⟨ah, ad, af, ag, au⟩ := A
  obtain rfl : ah = none := C.ha
  refine' enterFC G C (by decide) (binds := [("source", Value.ref src)]) ?ho ?hcd ?hb ?hl ?hnd ?k ?c1 ?c2 ?c3
  case ho => k_is
  case hcd => k_is
  case hb => first | exact BindsTo.of_eq rfl | exact binds_K (G.X.keeps C.st) rfl (by k_is) rfl rfl rfl
  case hl => exact rfl
  case hnd => decide +kernel
  case c1 => rfl
  case c2 => rfl
  case c3 => rfl
  case k =>
    intro g L' h₁ cells Q E tk gr hQ hQn hE hP F N Y X' T' st ff l1
    (try k_lt l1)
    k_cells Y
    (try simp only [List.cons_append, List.nil_append] at N)
    have hA : ad ≤ _ := C.lv
    have hu : au ≤ _ := C.un
    have hh := C.ha
    have hfr : af = some outer := C.fr
    replace F : Fr g L' h₁ (fun _ => none) := F
    rename_i c1 c2 c3 c4 d1 d2 d3 d4
    replace d1 : c1.data = Data.cell none := d1
    replace d2 : c2.data = Data.cell none := d2
    replace d3 : c3.data = Data.cell none := d3
    replace d4 : c4.data = Data.cell (some (Value.ref src)) := d4
    with_reducible refine' cut3 (fun s' => ChA s g src L' s') ?first ?second
    case' first => (try k_fold)
    case first =>
      repeat ((fail_if_success (with_reducible show LCg.CompSrc _ _ _ _ _ _ _ _ _ _ _ _ _ _)); walk1)
      have hd3 : 0 ≤ 1 + d' := by walk_at "om"
      obtain ⟨rest, hrest⟩ := led ‹News g L' _ _›
      refine' LCg.CompSrc.range (n := (1 + d').toNat) ?hh (by k_asm) (by k_asm) (by assumption) (small20 hd3 (by walk_at "om")) (size20 hd3) ?hz ?_
      case hh => assumption
      case hz => rw [sizeLine_eq]; walk_at "om"
      intro g1
      refine' comp_inv (fun i ys news => CoA src rest i ys news) ?step ?fin _ _ _ _ (Nat.zero_add _) ?start
      case start => exact ⟨[], _, _, _, _, _, .nil, rfl, (fun _ h => nomatch h), by rw [hrest], ha', hb0', hb1'⟩
      case step =>
        rintro i ys news v I oI Ca oC D m₂ h tk E' hi ⟨ss, a, b, ta, tb, n, hss, hsl, hsw, rfl, ha, hb0, hb1⟩ ⟨t9, rfl⟩ hC hx F N off ne
        subst hrest
        simp only [LCg.Off3, and_true] at off
        repeat (obtain ⟨⟨_, _, _⟩, off⟩ := off)
        obtain ⟨_, _, off⟩ := off
        k_steps
        exact ⟨ss ++ [s'], _, _, _, _, _, hss.append' (.cons _ _ .nil), by rw [List.length_append, hsl]; rfl, fun q hq => (List.mem_append.mp hq).elim (hsw q) fun z => List.mem_singleton.mp z ▸ hs', rfl, ha', hb0', hb1'⟩
      case fin =>
        rintro ys news ⟨ss, a, b, ta, tb, n, hss, hsl, hsw, rfl, ha, hb0, hb1⟩ D h tk F N o1
        have hyl : ys.length = ss.length := StrsAre.len_eq hss
        have hss9 : Gate (StrsAre ys ss) := ⟨hss⟩
        subst hrest
        simp only [LCg.Off1, and_true] at o1
        repeat (obtain ⟨_, o1⟩ := o1)
        (try dsimp only)
        repeat ((fail_if_success (with_reducible show LCg.CompSrc _ _ _ _ _ _ _ _ _ _ _ _ _ _)); walk1)
        have hd4 : (0 : Int) ≤ 2 * (ys.length : Nat) := by walk_at "om"
        obtain ⟨rest, hrest⟩ := led (News.swap12 ‹News g L' _ _›)
        refine' LCg.CompSrc.range (n := (2 * (ys.length : Nat) : Int).toNat) ?hh (by k_asm) (News.swap12 ‹News g L' _ _›) (by assumption) (small20 hd4 (by walk_at "om")) (size20 hd4) ?hz ?_
        case hh => assumption
        case hz => rw [sizeLine_eq]; walk_at "om"
        intro g2
        refine' comp_inv (fun i zs news => CoB src rest i zs news) ?step ?fin _ _ _ _ (Nat.zero_add _) ?start
        case start => exact ⟨[], _, _, _, _, _, .nil, rfl, (fun _ h => nomatch h), by rw [hrest], ha, hb0, hb1⟩
        case step =>
          rintro i zs news v I oI Ca oC D2 m₂ h tk E' hi ⟨gs, a, b, ta, tb, n, hgs, hgl, hgw, rfl, ha, hb0, hb1⟩ ⟨t9, rfl⟩ hC hx F N off ne
          rw [hrest] at N off
          simp only [LCg.Off3, and_true] at off
          repeat (obtain ⟨⟨_, _, _⟩, off⟩ := off)
          obtain ⟨_, _, off⟩ := off
          repeat ((fail_if_success (with_reducible show LCg.CompEnd _ _ _ _ _ _ _ _ _ _ _ _ _ _)); first | (k_unfold; (try dsimp only)) | walk1 | (dsimp only; walk1))
          exact LCg.CompEnd.intro (by assumption) ‹News g L' _ _› ((src, srcO a' b' ta' tb' n') :: rest) (by rw [hrest]; lcg_sub) (by rw [hrest]; lcg_off) (by lcg_src) ⟨gs ++ [s'], _, _, _, _, _, hgs.append' (.cons _ _ .nil), by rw [List.length_append, hgl]; rfl, fun q hq => (List.mem_append.mp hq).elim (hgw q) fun z => List.mem_singleton.mp z ▸ hs', rfl, ha', hb0', hb1'⟩
        case fin =>
          rintro zs news ⟨gs, a, b, ta, tb, n, hgs, hgl, hgw, rfl, ha, hb0, hb1⟩ D2 h tk F N o2
          have hgs9 : Gate (StrsAre zs gs) := ⟨hgs⟩
          rw [hrest] at N o2
          simp only [LCg.Off1, and_true] at o2
          repeat (obtain ⟨_, o2⟩ := o2)
          (try dsimp only)
          repeat ((fail_if_success (with_reducible show CutEnd _ _ _)); first | (k_unfold; (try dsimp only)) | walk1 | (dsimp only; walk1))
          exact ⟨rfl, ⟨_, _, _, ss, gs, ys, zs, D, D2, _, _, _, _, _, _, _, _, _, rfl, by assumption, News.of ‹News g L' _ _› (by lcg_sub), by assumption, by assumption, by assumption, hss9.it, hgs9.it, by walk_at "om", by walk_at "om", by walk_at "om", hsw, hgw, ha, hb0, hb1, by k_ne, by k_ne⟩⟩
    case second =>
      clear F N d1 d2 d3 d4 ha hb0 hb1
      rintro s' ⟨h, tk, nt, ss, gs, vs1, vs2, D1, D2, c1, c2, c3, c4, a, b, ta, tb, n, rfl, F, N, d1, d2, d4, hss, hgs, hl1, hl2, hgl, hsw, hgw, ha, hb0, hb1, hn1, hn2⟩
      have hv1 : vs1.length = ss.length := StrsAre.len_eq hss
      refine wpAny_execs_cons ?_
      with_reducible refine' cutP (fun s' => ChC s g L' nt (chText (chS gs ss ss.length)) [(src, srcO a b ta tb n), (D1, LCg.lst vs1), (D2, LCg.lst vs2), (L' + 1 + 1 + 1 + 1, c1), (L' + 1 + 1 + 1, c2), (L' + 1 + 1, c3), (L' + 1, c4)] s') ?first ?second
      rotate_left 1; (try dsimp only); rotate_right 1
      case' first => (try k_fold)
      case first =>
        repeat ((fail_if_success (with_reducible show LCg.CompSrc _ _ _ _ _ _ _ _ _ _ _ _ _ _)); walk1)
        have hd4 : (0 : Int) ≤ (vs1.length : Nat) := by walk_at "om"
        obtain ⟨rest, hrest⟩ := led0 ‹News g L' _ _›
        refine' LCg.CompSrc.range (n := ((vs1.length : Nat) : Int).toNat) ?hh (by k_asm) ‹News g L' _ _› (by assumption) (small20 hd4 (by walk_at "om")) (size20 hd4) ?hz ?_
        case hh => assumption
        case hz => rw [sizeLine_eq]; walk_at "om"
        intro g2
        refine' comp_inv (fun i zs news => Gate (StrsAre zs (chS gs ss i) ∧ news = rest)) ?step ?fin _ _ _ _ (Nat.zero_add _) ?start
        case start => exact ⟨.nil, by rw [hrest]⟩
        case step =>
          rintro i zs news v I oI Ca oC D3 m₂ h tk E' hi ⟨hzs, rfl⟩ ⟨t9, rfl⟩ hC hx F N off ne
          rw [hrest] at N off
          simp only [LCg.Off3, and_true] at off
          repeat (obtain ⟨⟨_, _, _⟩, off⟩ := off)
          obtain ⟨_, _, off⟩ := off
          have hi2 : i < ss.length := by walk_at "om"
          have hz1 := getD_le (fun s h => wl.2 s (hgw s h)) (2 * i)
          have hz2 := getD_le (fun s h => wl.1 s (hsw s h)) i
          have hz3 := getD_le (fun s h => wl.2 s (hgw s h)) (2 * i + 1)
          repeat ((fail_if_success (with_reducible show wpAny _ _ (subscriptTail _ _ _ _) _ _ _)); walk1)
          refine' itemS_N (2 * i) ‹News g L' _ _› (by k_mem) hgs (by walk_at "om") (by walk_at "om") (by walk_at "om") (fun t1 => ?_) (by with_unfolding_all rfl)
          repeat ((fail_if_success (with_reducible show wpAny _ _ (subscriptTail _ _ _ _) _ _ _)); walk1)
          refine' itemS_N i ‹News g L' _ _› (by k_mem) hss (by walk_at "om") hi2 (by walk_at "om") (fun t2 => ?_) (by with_unfolding_all rfl)
          repeat ((fail_if_success (with_reducible show wpAny _ _ (subscriptTail _ _ _ _) _ _ _)); walk1)
          refine' itemS_N (2 * i + 1) ‹News g L' _ _› (by k_mem) hgs (by walk_at "om") (by walk_at "om") (by walk_at "om") (fun t3 => ?_) (by with_unfolding_all rfl)
          repeat ((fail_if_success (with_reducible show LCg.CompEnd _ _ _ _ _ _ _ _ _ _ _ _ _ _)); first | (k_unfold; (try dsimp only)) | walk1 | (dsimp only; walk1))
          exact LCg.CompEnd.intro (by assumption) ‹News g L' _ _› news (by rw [hrest]; lcg_sub) (by rw [hrest]; lcg_off) (by lcg_src) ⟨by rw [chS_succ]; exact hzs.append' (.cons _ _ .nil), rfl⟩
        case fin =>
          rintro zs news ⟨hzs, rfl⟩ D3 h tk F N o2
          rw [hrest] at N o2
          simp only [LCg.Off1, and_true] at o2
          repeat (obtain ⟨_, o2⟩ := o2)
          (try dsimp only)
          have hsum := chS_sum hgw hsw hl2
          rw [show ((vs1.length : Nat) : Int).toNat = ss.length by walk_at "om"] at hzs
          have hjl : (PySem.Txt.join (Str.ofString "|") (chS gs ss ss.length)).length ≤ 18 := by
            unfold PySem.Txt.join
            rw [PySem.StrLaws.glued_eq_join]
            exact Nat.le_trans (PySem.StrLaws.join_length_le _ _) hsum
          have hc1 : (Str.ofString "(").length = 1 := by decide
          have hc2 : (Str.ofString ")").length = 1 := by decide
          repeat ((fail_if_success (with_reducible show wpAny _ _ (call _ _) _ _ _)); walk1)
          refine join_list (ys := chS gs ss ss.length) ⟨_, (N (D3, LCg.lst zs) (by k_mem)).1, rfl, _, rfl⟩ hzs (by walk_at "om") fun tj kj => ?_
          repeat ((fail_if_success (with_reducible show CutEnd _ _ _)); first | (k_unfold; (try dsimp only)) | walk1 | (dsimp only; walk1))
          exact ⟨rfl, ⟨_, _, _, rfl, by assumption, News.of ‹News g L' _ _› (by lcg_sub)⟩⟩
      case second =>
        clear F N
        rintro s' ⟨h, tk, tx, rfl, F, N⟩
        refine wpAny_execs_cons ?_
        with_reducible refine' cutP (fun s' => ChD s g L' nt (chText (chS gs ss ss.length)) tx (dup ss ss.length || (nt && badB ss)) [(src, srcO a b ta tb n), (D1, LCg.lst vs1), (D2, LCg.lst vs2), (L' + 1 + 1 + 1 + 1, c1), (L' + 1 + 1 + 1, c2), (L' + 1 + 1, c3), (L' + 1, c4)] s') ?first ?second
        rotate_left 1; (try dsimp only); rotate_right 1
        case' first => (try k_fold)
        case first =>
          repeat ((fail_if_success (with_reducible show wpAny _ _ (call (Value.type _) _) _ _ _)); walk1)
          refine' set_N (by assumption) ‹News g L' _ _› (by first | rfl | assumption) (by k_mem) hss (by walk_at "om") ?_
          intro D5 h5 tk5 o5 hD5 F5 N5 hso
          have hnd := (nd_le ss ss.length).2
          have hq2 := (nd_le ss ss.length).1
          generalize nd ss ss.length = q at hso hnd hq2
          repeat ((fail_if_success (with_reducible show wpAny _ _ (call _ _) _ _ _)); walk1)
          refine' lenset_N ‹News g L' _ _› (by k_mem) hso (by walk_at "om") ?_
          by_cases hdup : dup ss ss.length = true
          · have hq3 := hnd.mpr hdup
            repeat ((fail_if_success (with_reducible show CutEnd _ _ _)); first | (k_unfold; (try dsimp only)) | walk1 | (dsimp only; walk1))
            refine' ⟨rfl, ⟨_, _, decide (((q : Nat) : Int) < ((vs1.length : Nat) : Int)), ?be, rfl, by assumption, News.of ‹News g L' _ _› (by lcg_sub)⟩⟩
            rw [hdup, Bool.true_or]
            exact decide_eq_true (by walk_at "om")
          · have hq3 : ¬ q < ss.length := fun z => hdup (hnd.mp z)
            cases nt with
            | false =>
              repeat ((fail_if_success (with_reducible show CutEnd _ _ _)); first | (k_unfold; (try dsimp only)) | walk1 | (dsimp only; walk1))
              exact ⟨rfl, ⟨_, _, _, by rw [Bool.eq_false_iff.mpr hdup, Bool.false_or, Bool.false_and], rfl, by assumption, News.of ‹News g L' _ _› (by lcg_sub)⟩⟩
            | true =>
              repeat ((fail_if_success (with_reducible show wpAny _ _ (eval (Expr.ListComp _ _ _ _) _) _ _ _)); walk1)
              refine' LCt.ListComp_T (F₀ := by k_asm) (by with_unfolding_all rfl) (by decide) (by rfl) (by decide) (by rfl) ?_
              repeat ((fail_if_success (with_reducible show LCt.CompSrcT _ _ _ _ _ _ _ _ _ _ _ _ _ _ _)); walk1)
              obtain ⟨rest, hrest⟩ := led0 ‹News g L' _ _›
              refine' LCt.CompSrcT.ledger (its := vs1.toArray) (k := vs1.length) ?hh (by k_asm) ‹News g L' _ _› (by k_mem) ?hz ?_
              case hh => assumption
              case hz => rw [sizeLine_eq]; simp; walk_at "om"
              intro g3
              refine' comp_invT (fun i zs news => Gate (StrsAre zs ((ss.take i).filter bad1) ∧ news = rest)) ?step ?fin _ _ _ _ (Nat.zero_add _) ?start
              case start => exact ⟨.nil, by rw [hrest]⟩
              case step =>
                rintro i zs news v I oI Ca oC D3 m₂ h tk E' hi ⟨hzs, rfl⟩ hv hC hx F N off ne
                rw [hrest] at N off
                simp only [LCg.Off3, and_true] at off
                repeat (obtain ⟨⟨_, _, _⟩, off⟩ := off)
                obtain ⟨_, _, off⟩ := off
                obtain ⟨y, t, rfl, hy⟩ := hss.item i v (by simpa using hv)
                repeat ((fail_if_success (with_reducible show wpAny _ _ (compareOp _ _ _) _ _ _)); first | (k_unfold; (try dsimp only)) | walk1 | (dsimp only; walk1))
                walk1
                have hany : ([Str.ofString "9", Str.ofString "-x"].any fun x => x == y) = bad1 y := by
                  unfold bad1
                  simp only [List.any_cons, List.any_nil, Bool.or_false]
                  rw [Bool.beq_comm' (Str.ofString "9"), Bool.beq_comm' (Str.ofString "-x")]
                have htk : (ss.take (i + 1)).filter bad1 = (ss.take i).filter bad1 ++ [y].filter bad1 := by
                  rw [List.take_succ, hy, List.filter_append]; rfl
                rw [hany]
                cases hb : bad1 y with
                | true =>
                  repeat ((fail_if_success (with_reducible show LCg.CompEnd _ _ _ _ _ _ _ _ _ _ _ _ _ _)); first | (k_unfold; (try dsimp only)) | walk1 | (dsimp only; walk1))
                  exact LCg.CompEnd.intro (by assumption) ‹News g L' _ _› news (by rw [hrest]; lcg_sub) (by rw [hrest]; lcg_off) (by rw [hrest]; lcg_src) ⟨by rw [htk, List.filter_cons_of_pos hb]; exact hzs.append' (.cons _ _ .nil), rfl⟩
                | false =>
                  repeat ((fail_if_success (with_reducible show LCg.CompEnd _ _ _ _ _ _ _ _ _ _ _ _ _ _)); first | (k_unfold; (try dsimp only)) | walk1 | (dsimp only; walk1))
                  exact LCg.CompEnd.intro (by assumption) ‹News g L' _ _› news (by rw [hrest]; lcg_sub) (by rw [hrest]; lcg_off) (by rw [hrest]; lcg_src) ⟨by rw [htk, List.filter_cons_of_neg (by rw [hb]; decide)]; simpa using hzs, rfl⟩
              case fin =>
                rintro zs news ⟨hzs, rfl⟩ D3 h tk F N o2
                rw [hrest] at N o2
                simp only [LCg.Off1, and_true] at o2
                repeat (obtain ⟨_, o2⟩ := o2)
                (try dsimp only)
                repeat ((fail_if_success (with_reducible show wpAny _ _ (compareOp _ _ _) _ _ _)); walk1)
                have hlay : ∀ x ∈ (ss.take vs1.toArray.size).filter bad1, PyData.canLay0 (.str x) = true := fun x hx => layW x (hsw x (List.mem_of_mem_take ((List.mem_filter.mp hx).1)))
                refine' ne_nil_N ‹News g L' _ _› (by k_mem) (by k_mem) hzs hlay (by walk_at "m_lvl") ?_
                repeat ((fail_if_success (with_reducible show CutEnd _ _ _)); first | (k_unfold; (try dsimp only)) | walk1 | (dsimp only; walk1))
                refine' ⟨rfl, ⟨_, _, _, ?be2, rfl, by assumption, News.of ‹News g L' _ _› (by lcg_sub)⟩⟩
                rw [Bool.eq_false_iff.mpr hdup, Bool.false_or, Bool.true_and, show vs1.toArray.size = ss.length by simp; walk_at "om", List.take_length, filter_any]
        case second =>
          clear F N
          rintro s' ⟨h, tk, bad, hbad, rfl, F, N⟩
          have hr := chLaw nt hl1 hgw hsw
          have hlen := ch_len hgw hsw hl2
          have hasc := ch_asc hgw hsw
          have hc2 : (Str.ofString ")").length = 1 := by decide
          have hlen2 : (chText (chS gs ss ss.length) ++ Str.ofString ")").length < 1000000 := by rw [len_append]; walk_at "om"
          rw [← hbad] at hr
          generalize chText (chS gs ss ss.length) = text at hr hlen hasc hlen2 F
          have hly : ∀ x ∈ ss, PyData.canLay0 (.str x) = true := fun x hx => layW x (hsw x hx)
          clear hbad hgw hgs hgl d1
          with_reducible refine' cut2 (fun s' => ChE s B src L' outer nt text tx bad (srcO a b ta tb n) s') ?first ?second
          case' first => (try k_fold)
          case first =>
            cases bad with
            | true =>
              rw [if_pos rfl] at hr
              repeat ((fail_if_success (with_reducible show wpAny _ _ (call (Value.ref 290) _) _ _ _)); walk1)
              refine' con_useF0 (choicesR2_con G text nt _ hlen2 hasc hr) (by assumption) (by assumption) gr st ff (Around.frames_deeper hfr) rfl (fun z => nomatch z) (by walk_at "m_lvl") (by walk_at "m_lvl") (by first | rfl | assumption) (by walk_at "m_own") ?_
              intro v1 new1 g' h' tk' hV F' N' gr st ff l1
              obtain ⟨e', tv9, hv'⟩ := hV
              subst e'
              subst hv'
              simp only [List.nil_append, List.cons_append] at N'
              walk_at "m_ne0"
              have X' := G.X.keeps st
              have T' := G.T.keeps st
              repeat ((fail_if_success (with_reducible show CutEnd _ _ _)); first | (k_unfold; (try dsimp only)) | walk1 | (dsimp only; walk1))
              exact ⟨rfl, ⟨_, _, _, _, _, rfl, by assumption, News.of ‹News g' L' _ _› (by lcg_sub), by assumption, gr, st, ff⟩⟩
            | false =>
              rw [if_neg (by decide)] at hr
              repeat ((fail_if_success (with_reducible show wpAny _ _ (call (Value.type _) _) _ _ _)); walk1)
              refine' tuple_N (by assumption) ‹News g L' _ _› (by k_mem) (by simp; walk_at "om") ?_
              intro T5 h5 hT5 F5 N5
              replace hT5 := allNe_of hT5
              simp only [AllNe, and_true] at hT5
              repeat ((fail_if_success (with_reducible show wpAny _ _ (call (Value.ref 290) _) _ _ _)); walk1)
              refine' con_useF0 (choices2_con G text nt _ ss _ hlen2 hasc hr) (by assumption) (by assumption) gr st ff (Around.frames_deeper hfr) rfl (fun z => nomatch z) (by walk_at "m_lvl") (by walk_at "m_lvl") (by first | rfl | assumption) (by walk_at "m_own") ?_
              intro v1 new1 g' h' tk' hV F' N' gr st ff l1
              obtain ⟨l9, T9, vs9, tq9, hvs9, hv', e', hne9⟩ := hV
              subst e'
              subst hv'
              simp only [List.nil_append, List.cons_append] at N'
              walk_at "m_ne0"
              have X' := G.X.keeps st
              have T' := G.T.keeps st
              repeat ((fail_if_success (with_reducible show wpAny _ _ (compareOp _ _ _) _ _ _)); walk1)
              refine' ne_due_N ‹News g' L' _ _› (by k_mem) (by k_mem) (by k_mem) (by k_mem) hvs9 hss hly (by walk_at "m_lvl") ?_
              repeat ((fail_if_success (with_reducible show CutEnd _ _ _)); first | (k_unfold; (try dsimp only)) | walk1 | (dsimp only; walk1))
              exact ⟨rfl, ⟨_, _, _, _, _, rfl, by assumption, News.of ‹News g' L' _ _› (by lcg_sub), by assumption, gr, st, ff⟩⟩
          case second =>
            clear F N X' T' st ff gr
            rintro s' ⟨g, h, tk, dv, c4, rfl, F, N, d4, gr, st, ff⟩
            have X' := G.X.keeps st
            have T' := G.T.keeps st
            clear hr hlen hasc hlen2 hly hss hsw hv1 hn1 hn2 d2
            have hbl := bent_law nt
            repeat ((fail_if_success (with_reducible show wpAny _ _ (call (Value.ref 253) _) _ _ _)); walk1)
            walk1
            obtain ⟨x1, ex1⟩ : ∃ x, x = s' := ⟨s', rfl⟩
            have hs1 : x1 ∈ bentS := ex1 ▸ hs'
            subst ex1
            repeat ((fail_if_success (with_reducible show wpAny _ _ (subscriptTail _ _ _ _) _ _ _)); walk1)
            walk1
            repeat ((fail_if_success (with_reducible show wpAny _ _ (call (Value.ref 290) _) _ _ _)); walk1)
            have hs2 := hbl.2 s' hs'
            refine' con_useF0 (choicesR3_con G s' (Str.ofString "") nt _ _ hs2.1.1 hs2.1.2 hs2.2) (by assumption) (by assumption) gr st ff (Around.frames_deeper hfr) rfl (fun z => nomatch z) (by walk_at "m_lvl") (by walk_at "m_lvl") (by first | rfl | assumption) (by walk_at "m_own") ?_
            intro v1 new1 g' h' tk' hV F' N' gr st ff l1
            obtain ⟨e', tv9, hv'⟩ := hV
            subst e'
            subst hv'
            simp only [List.nil_append, List.cons_append] at N'
            walk_at "m_ne0"
            have X' := G.X.keeps st
            have T' := G.T.keeps st
            repeat ((fail_if_success (with_reducible show wpAny _ _ (call (Value.ref 290) _) _ _ _)); walk1)
            have hs3 := hbl.1 x1 hs1
            cases hc : rcTop nt (x1 ++ Str.ofString ")") with
            | none =>
              have hx : (openS.any fun x => x == x1) = false := by rw [← hs3.2.1, hc]; rfl
              refine' con_useF0 (choicesR2_con G x1 nt _ hs3.1.1 hs3.1.2 hc) (by assumption) (by assumption) gr st ff (Around.frames_deeper hfr) rfl (fun z => nomatch z) (by walk_at "m_lvl") (by walk_at "m_lvl") (by first | rfl | assumption) (by walk_at "m_own") ?_
              intro v1 new1 g' h' tk' hV F' N' gr st ff l1
              obtain ⟨e', tv8, hv'⟩ := hV
              subst e'
              subst hv'
              simp only [List.nil_append, List.cons_append] at N'
              walk_at "m_ne0"
              have X' := G.X.keeps st
              have T' := G.T.keeps st
              k_steps
              refine hQ _ _ ?_
              exact (con_endF (s := s) [(src, srcO a' b' ta' tb' n')] k C gr (by assumption) (by assumption) (by walk_at "m_same") (by walk_at "m_new") ⟨_, _, _, _, _, rfl, congrArg Value.bool (by rw [hx]; decide), ha', hb0', hb1'⟩)
            | some p =>
              obtain ⟨ss9, q9⟩ := p
              have hx : (openS.any fun x => x == x1) = true := by rw [← hs3.2.1, hc]; rfl
              have hl9 : ∀ x ∈ ss9, PyData.canLay0 (.str x) = true := by
                have := hs3.2.2
                rw [hc] at this
                exact List.all_eq_true.mp this
              refine' con_useF0 (choices2_con G x1 nt _ ss9 _ hs3.1.1 hs3.1.2 hc) (by assumption) (by assumption) gr st ff (Around.frames_deeper hfr) rfl (fun z => nomatch z) (by walk_at "m_lvl") (by walk_at "m_lvl") (by first | rfl | assumption) (by walk_at "m_own") ?_
              intro v1 new1 g' h' tk' hV F' N' gr st ff l1
              obtain ⟨l9, T9, vs9, tq9, hvs9, hv', e', hne9⟩ := hV
              subst e'
              subst hv'
              simp only [List.nil_append, List.cons_append] at N'
              walk_at "m_ne0"
              have X' := G.X.keeps st
              have T' := G.T.keeps st
              repeat ((fail_if_success (with_reducible show wpAny _ _ (compareOp _ _ _) _ _ _)); walk1)
              refine' eq_due_str_N ‹News _ L' _ _› (by k_mem) (by k_mem) hvs9 hl9 (by decide +kernel) (by walk_at "m_lvl") ?_
              k_steps
              refine hQ _ _ ?_
              exact (con_endF (s := s) [(src, srcO a' b' ta' tb' n')] k C gr (by assumption) (by assumption) (by walk_at "m_same") (by walk_at "m_new") ⟨_, _, _, _, _, rfl, congrArg Value.bool (by rw [hx]; decide), ha', hb0', hb1'⟩)
end
set_option maxRecDepth 100000
set_option maxHeartbeats 8000000
noncomputable abbrev Pc := Str × Str × Str
noncomputable abbrev nameS : List Str := [Str.ofString "a", Str.ofString "x:y", Str.ofString "_b-1.", Str.ofString "Z9"]
noncomputable abbrev tokenS : List Str := [Str.ofString "1a", Str.ofString "-", Str.ofString ".5", Str.ofString "9"]
noncomputable abbrev spacesS : List Str := [Str.ofString " ", Str.ofString "\n\t ", Str.ofString "\x0d\n"]
noncomputable abbrev quotedS : List Str := [Str.ofString "", Str.ofString "a'b", Str.ofString "x>y", Str.ofString "%p;"]
noncomputable abbrev wordS : List Str := [Str.ofString "<!", Str.ofString "(", Str.ofString "]]>", Str.ofString "#"]
noncomputable abbrev untilS : List Str := [Str.ofString "", Str.ofString "x", Str.ofString "a b "]
noncomputable abbrev kindS : List Str := [Str.ofString "name", Str.ofString "token", Str.ofString "spaces", Str.ofString "quoted", Str.ofString "word", Str.ofString "until"]
noncomputable def pieceTab : List Pc :=
  nameS.map (fun h => (Str.ofString "name", h, h)) ++ tokenS.map (fun h => (Str.ofString "token", h, h)) ++ spacesS.map (fun h => (Str.ofString "spaces", h, h)) ++ wordS.map (fun h => (Str.ofString "word", h, h))
  ++ quotedS.map (fun h => (Str.ofString "quoted", Str.ofString "\"" ++ h ++ Str.ofString "\"", h)) ++ (quotedS.filter (· != Str.ofString "a'b")).map (fun h => (Str.ofString "quoted", Str.ofString "'" ++ h ++ Str.ofString "'", h))
  ++ untilS.map (fun h => (Str.ofString "until", h ++ Str.ofString "?>", h))
/-- all that is asked of a piece -/
noncomputable def pieceB (p : Pc) : Bool :=
  decide (p.2.1.length ≤ 20) && decide (p.2.2.length ≤ 20) && p.2.1.cps.toList.all (fun c => decide (c < 128) && decide (c ≠ 110)) && !p.2.1.cps.toList.isEmpty &&
  (if p.1 = Str.ofString "name" then p.2.1 == p.2.2 && ((p.2.1.cps.toList.head?.map nsB).getD false) && p.2.1.cps.toList.all ncB
   else if p.1 = Str.ofString "token" then p.2.1 == p.2.2 && p.2.1.cps.toList.all ncB
   else if p.1 = Str.ofString "spaces" then p.2.1 == p.2.2 && p.2.1.cps.toList.all spB && !((p.2.1.cps.toList.head?.map ncB).getD false)
   else if p.1 = Str.ofString "word" then p.2.1 == p.2.2 && !((p.2.1.cps.toList.head?.map ncB).getD false) && !((p.2.1.cps.toList.head?.map spB).getD false)
   else if p.1 = Str.ofString "quoted" then !((p.2.1.cps.toList.head?.map ncB).getD false) && !((p.2.1.cps.toList.head?.map spB).getD false) &&
     ((p.2.1 == Str.ofString "\"" ++ p.2.2 ++ Str.ofString "\"" && !p.2.2.cps.toList.contains 34) || (p.2.1 == Str.ofString "'" ++ p.2.2 ++ Str.ofString "'" && !p.2.2.cps.toList.contains 39))
   else if p.1 = Str.ofString "until" then p.2.1 == p.2.2 ++ Str.ofString "?>" && !p.2.2.cps.toList.contains 63 && !((p.2.1.cps.toList.head?.map spB).getD false)
   else false) && (p.1 == Str.ofString "spaces" || !((p.2.1.cps.toList.head?.map spB).getD false))
theorem piece_all : pieceTab.all pieceB = true := by decide +kernel
noncomputable def adjB (p q : Pc) : Bool := p.1 != q.1 && (!(p.1 == Str.ofString "name" || p.1 == Str.ofString "token") || q.1 == Str.ofString "spaces" || q.1 == Str.ofString "quoted" || q.1 == Str.ofString "word")
noncomputable def Chain : List Pc → Prop
  | [] => True
  | [p] => pieceB p = true
  | p :: q :: r => pieceB p = true ∧ adjB p q = true ∧ Chain (q :: r)
theorem Chain.snoc {q : Pc} (hq : pieceB q = true) : ∀ {ps : List Pc}, Chain ps → (∀ p, ps.getLast? = some p → adjB p q = true) → Chain (ps ++ [q])
  | [], _, _ => hq
  | [p], h, ha => ⟨h, ha p rfl, hq⟩
  | p :: p' :: r, h, ha => ⟨h.1, h.2.1, Chain.snoc hq (ps := p' :: r) h.2.2 fun x hx => ha x (by rw [List.getLast?_cons_cons]; exact hx)⟩
theorem Chain.tail {p : Pc} : ∀ {ps : List Pc}, Chain (p :: ps) → Chain ps
  | [], _ => trivial
  | [_], h => h.2.2
  | _ :: _ :: _, h => h.2.2
theorem Chain.head {p : Pc} : ∀ {ps : List Pc}, Chain (p :: ps) → pieceB p = true
  | [], h => h
  | _ :: _, h => h.1
noncomputable def flatT : List Pc → List Nat
  | [] => []
  | p :: r => p.2.1.cps.toList ++ flatT r
theorem flatT_app : ∀ a b : List Pc, flatT (a ++ b) = flatT a ++ flatT b
  | [], _ => rfl
  | p :: r, b => by show _ ++ flatT (r ++ b) = _ ++ flatT r ++ flatT b; rw [flatT_app r b, List.append_assoc]
theorem piece_base {p : Pc} (h : pieceB p = true) : p.2.1.length ≤ 20 ∧ (∀ c ∈ p.2.1.cps.toList, c < 128 ∧ c ≠ 110) ∧ p.2.1.cps.toList ≠ [] := by
  unfold pieceB at h
  simp only [Bool.and_eq_true, decide_eq_true_eq, List.all_eq_true, Bool.not_eq_true', List.isEmpty_eq_false_iff] at h
  exact ⟨h.1.1.1.1.1, h.1.1.1.2, h.1.1.2⟩
theorem Chain.all : ∀ {ps : List Pc}, Chain ps → ∀ p ∈ ps, pieceB p = true
  | [], _, _, h => nomatch h
  | _ :: _, x, p, h => by
    rcases List.mem_cons.mp h with rfl | h
    · exact x.head
    · exact x.tail.all p h
theorem flat_base : ∀ {ps : List Pc}, (∀ p ∈ ps, pieceB p = true) → (flatT ps).length ≤ 20 * ps.length ∧ ∀ c ∈ flatT ps, c < 128 ∧ c ≠ 110
  | [], _ => ⟨Nat.le_refl _, fun _ h => nomatch h⟩
  | p :: r, h => by
    have b := piece_base (h p (.head _))
    have i := flat_base (ps := r) fun q hq => h q (.tail _ hq)
    have e : p.2.1.cps.toList.length = p.2.1.length := rfl
    refine ⟨by simp only [flatT, List.length_append, List.length_cons]; omega, fun c hc => ?_⟩
    rcases List.mem_append.mp hc with hc | hc
    · exact b.2.1 c hc
    · exact i.2 c hc
theorem head_piece {f : Nat → Bool} {q : Pc} {r : List Pc} (h : pieceB q = true) : (flatT (q :: r)).head? = q.2.1.cps.toList.head? := head_app (piece_base h).2.2
/-- what stands behind a name or a token, behind spaces -/
theorem next_nc {p : Pc} {r : List Pc} (h : Chain (p :: r)) (hk : p.1 = Str.ofString "name" ∨ p.1 = Str.ofString "token") : ∀ c, (flatT r).head? = some c → ncB c = false := by
  cases r with
  | nil => intro c h; cases h
  | cons q r =>
    intro c hc
    obtain ⟨_, ha, hr⟩ := h
    have hq := hr.head
    rw [head_piece (f := ncB) hq] at hc
    have hk2 : (p.1 == Str.ofString "name" || p.1 == Str.ofString "token") = true := by rcases hk with e | e <;> rw [e] <;> rfl
    unfold adjB at ha
    rw [hk2] at ha
    simp only [Bool.and_eq_true, Bool.not_true, Bool.false_or, Bool.or_eq_true, beq_iff_eq] at ha
    have key : (q.2.1.cps.toList.head?.map ncB).getD false = false := by
      unfold pieceB at hq
      rcases ha.2 with (e | e) | e
      · rw [if_neg (by rw [e]; decide), if_neg (by rw [e]; decide), if_pos e] at hq
        simp only [Bool.and_eq_true, Bool.not_eq_true'] at hq
        exact hq.1.2.2
      · rw [if_neg (by rw [e]; decide), if_neg (by rw [e]; decide), if_neg (by rw [e]; decide), if_neg (by rw [e]; decide), if_pos e] at hq
        simp only [Bool.and_eq_true, Bool.not_eq_true'] at hq
        exact hq.1.2.1.1
      · rw [if_neg (by rw [e]; decide), if_neg (by rw [e]; decide), if_neg (by rw [e]; decide), if_pos e] at hq
        simp only [Bool.and_eq_true, Bool.not_eq_true'] at hq
        exact hq.1.2.1.2
    rw [hc] at key
    exact key
theorem next_sp {p : Pc} {r : List Pc} (h : Chain (p :: r)) (hk : p.1 = Str.ofString "spaces") : ∀ c, (flatT r).head? = some c → spB c = false := by
  cases r with
  | nil => intro c h; cases h
  | cons q r =>
    intro c hc
    obtain ⟨_, ha, hr⟩ := h
    have hq := hr.head
    rw [head_piece (f := spB) hq] at hc
    unfold adjB at ha
    simp only [Bool.and_eq_true, bne_iff_ne] at ha
    unfold pieceB at hq
    simp only [Bool.and_eq_true, Bool.or_eq_true, Bool.not_eq_true', beq_iff_eq] at hq
    rcases hq.2 with e | e
    · exact absurd (hk.trans e.symm) ha.1
    · rw [hc] at e; exact e
/-- a word with n stands nowhere -/
theorem no_never {l : List Nat} (h : ∀ c ∈ l, c ≠ 110) {w : List Nat} : (110 :: w).isPrefixOf l = false := by
  cases l with
  | nil => rfl
  | cons a l =>
    have : (110 == a) = false := beq_eq_false_iff_ne.mpr (h a (.head _)).symm
    simp [List.isPrefixOf, this]
theorem no_fnd {w : List Nat} : ∀ {l : List Nat}, (∀ c ∈ l, c ≠ 110) → fnd (110 :: w) l = none
  | [], _ => rfl
  | a :: l, h => by
    unfold fnd
    rw [if_neg (by rw [no_never h]; decide), no_fnd fun c hc => h c (.tail _ hc)]; rfl
theorem fnd_at {w : List Nat} {a : Nat} : ∀ (h r : List Nat), a ∉ h → fnd (a :: w) (h ++ a :: (w ++ r)) = some h.length
  | [], r, _ => by
    unfold fnd
    rw [List.nil_append]
    exact if_pos (by simp [List.isPrefixOf])
  | b :: h, r, hn => by
    have hb : (a == b) = false := beq_eq_false_iff_ne.mpr fun e => hn (e ▸ .head _)
    show (if (a :: w).isPrefixOf (b :: (h ++ a :: (w ++ r))) then some 0 else (fnd (a :: w) (h ++ a :: (w ++ r))).map (· + 1)) = _
    rw [if_neg (by simp [List.isPrefixOf, hb]), fnd_at h r fun m => hn (.tail _ m)]; rfl
theorem join0 : ∀ ys : List Str, (PySem.Txt.join (Str.ofString "") ys).cps.toList = (ys.map fun s => s.cps.toList).flatten := by
  intro ys
  unfold PySem.Txt.join
  rw [PySem.StrLaws.glued_eq_join]
  have h0 : (Str.ofString "").cps.toList = [] := by decide
  induction ys with
  | nil => rfl
  | cons x r ih =>
    cases r with
    | nil => show x.cps.toList = _; simp
    | cons y r =>
      show (x ++ Str.ofString "" ++ Str.join (Str.ofString "") (y :: r)).cps.toList = _
      rw [cl_append, cl_append, h0, ih]; simp
theorem flatT_join (ps : List Pc) : (PySem.Txt.join (Str.ofString "") (ps.map fun p => p.2.1)).cps.toList = flatT ps := by
  rw [join0]
  induction ps with
  | nil => rfl
  | cons p r ih => simp only [List.map_cons, List.flatten_cons, flatT] at *; rw [ih]
set_option maxRecDepth 100000
set_option maxHeartbeats 8000000
noncomputable def UpS : List (Addr × Obj) → List (Addr × Obj) → Prop
  | [], [] => True
  | p :: a, q :: b => q.1 = p.1 ∧ (∃ sl, q.2 = { p.2 with slots := sl }) ∧ UpS a b
  | _, _ => False
theorem UpS.refl : ∀ a, UpS a a
  | [] => trivial
  | _ :: a => ⟨rfl, ⟨_, rfl⟩, UpS.refl a⟩
theorem UpS.trans {a b c : List (Addr × Obj)} (x : UpS a b) (y : UpS b c) : UpS a c := by
  induction a generalizing b c with
  | nil =>
    cases b with
    | nil => exact y
    | cons q b => exact x.elim
  | cons p a ih =>
    cases b with
    | nil => exact x.elim
    | cons q b =>
      cases c with
      | nil => exact y.elim
      | cons r c =>
        obtain ⟨x1, ⟨s1, x2⟩, x3⟩ := x
        obtain ⟨y1, ⟨s2, y2⟩, y3⟩ := y
        exact ⟨y1.trans x1, ⟨s2, by rw [y2, x2]⟩, ih x3 y3⟩
theorem UpS.map {a b : List (Addr × Obj)} (x : UpS a b) : b.map (·.1) = a.map (·.1) := by
  induction a generalizing b with
  | nil =>
    cases b with
    | nil => rfl
    | cons q b => exact x.elim
  | cons p a ih =>
    cases b with
    | nil => exact x.elim
    | cons q b =>
      obtain ⟨x1, _, x3⟩ := x
      rw [List.map_cons, List.map_cons, x1, ih x3]
theorem UpS.mem {a b : List (Addr × Obj)} (x : UpS a b) : ∀ p ∈ a, ∃ sl, (p.1, { p.2 with slots := sl }) ∈ b := by
  induction a generalizing b with
  | nil => exact fun _ h => nomatch h
  | cons p a ih =>
    cases b with
    | nil => exact x.elim
    | cons q b =>
      obtain ⟨x1, ⟨sl, x2⟩, x3⟩ := x
      intro y hy
      rcases List.mem_cons.mp hy with rfl | hy
      · exact ⟨sl, by rw [← x2, ← x1]; exact .head _⟩
      · obtain ⟨sl, z⟩ := ih x3 y hy; exact ⟨sl, .tail _ z⟩
theorem UpS.of {h' : Heap} : ∀ {a : List (Addr × Obj)}, (∀ p ∈ a, ∃ sl, h'.get? p.1 = some { p.2 with slots := sl }) → ∃ b, UpS a b ∧ ∀ q ∈ b, h'.get? q.1 = some q.2
  | [], _ => ⟨[], trivial, fun _ h => nomatch h⟩
  | p :: a, h => by
    obtain ⟨b, x, y⟩ := UpS.of (h' := h') (a := a) fun q hq => h q (.tail _ hq)
    obtain ⟨sl, z⟩ := h p (.head _)
    refine ⟨(p.1, { p.2 with slots := sl }) :: b, ⟨rfl, ⟨sl, rfl⟩, x⟩, fun q hq => ?_⟩
    rcases List.mem_cons.mp hq with rfl | hq
    · exact z
    · exact y q hq
theorem frames_list {G B : Heap} : ∀ {l : List Env}, G.FunFrames B l → ∃ fr : List (Addr × Obj), fr.map (·.1) = frs l ∧ ∀ q ∈ fr, G.get? q.1 = some q.2
  | [], _ => ⟨[], rfl, fun _ h => nomatch h⟩
  | env :: l, ⟨_, ⟨L, o, b, _, d, _⟩, f⟩ => by
    obtain ⟨fr, x, y⟩ := frames_list f
    refine ⟨(L, o) :: fr, ?_, fun q hq => ?_⟩
    · rw [frs_cons b, List.map_cons, x]
    · rcases List.mem_cons.mp hq with rfl | hq
      · exact d
      · exact y q hq
/-- a base without the frames above; they stand in the ledger -/
structure Bare (B h₀ : Heap) (o₀ : List Addr) (outer : List Env) (G g0 : Heap) (fr0 : List (Addr × Obj)) : Prop where
  eq : g0 = hideAll G (frs outer)
  gr : GR h₀ o₀ (frs outer) G
  st : B.StaysIn G
  ff : G.FunFrames B outer
  fr : fr0.map (·.1) = frs outer
  at0 : ∀ q ∈ fr0, G.get? q.1 = some q.2
section
variable {B h₀ g g2 G g0 h h2 : Heap} {o₀ : List Addr} {outer : List Env} {L : Addr} {m m2 : Str → Option Value} {news news2 fr0 fr : List (Addr × Obj)}
theorem Bare.of0 (b : Bare B h₀ o₀ outer G g0 fr0) {a : Addr} {o : Obj} (e : g0.get? a = some o) : G.get? a = some o ∧ a ∉ frs outer := by
  rw [b.eq] at e
  refine ⟨of_hideAll _ e, fun hm => ?_⟩
  rw [hideAll_none _ hm] at e; cases e
theorem Bare.to0 (b : Bare B h₀ o₀ outer G g0 fr0) {a : Addr} {o : Obj} (e : G.get? a = some o) (n : a ∉ frs outer) : g0.get? a = some o := by
  rw [b.eq]; exact hideAll_get _ e n
theorem Bare.size (b : Bare B h₀ o₀ outer G g0 fr0) : g0.objs.size = G.objs.size := by rw [b.eq]; exact hideAll_size _ _
/-- ahead of a loop -/
theorem loop_in (F : Fr g L h m) (N : News g L h news) (gr : GR h₀ o₀ (frs outer) g) (st : B.StaysIn g) (ff : g.FunFrames B outer) :
    ∃ g0 fr0, Bare B h₀ o₀ outer g g0 fr0 ∧ Fr g0 L h m ∧ News g0 L h (news ++ fr0) ∧ (∀ p ∈ news, p.1 ∉ frs outer) ∧ UpS fr0 fr0 := by
  obtain ⟨fr0, x, y⟩ := frames_list ff
  have b : Bare B h₀ o₀ outer g (hideAll g (frs outer)) fr0 := ⟨rfl, gr, st, ff, x, y⟩
  have dis : ∀ p ∈ news, p.1 ∉ frs outer := fun p hp hm => by
    obtain ⟨o, z, _⟩ := (ff.mem hm).2
    rw [(N p hp).2.2] at z; cases z
  refine ⟨_, fr0, b, ⟨F.ns, fun a o e => F.keep a o (b.of0 e).1, by rw [b.size]; exact F.above⟩, fun p hp => ?_, dis, UpS.refl _⟩
  rcases List.mem_append.mp hp with hp | hp
  · refine ⟨(N p hp).1, (N p hp).2.1, ?_⟩
    cases z : (hideAll g (frs outer)).get? p.1 with
    | none => rfl
    | some o => have := (b.of0 z).1; rw [(N p hp).2.2] at this; cases this
  · refine ⟨F.keep _ _ (y p hp), fun e => ?_, hideAll_none _ (x ▸ List.mem_map_of_mem hp)⟩
    have := Heap.lt_size (y p hp)
    rw [e] at this
    exact absurd (Nat.lt_of_lt_of_le this F.above) (Nat.lt_irrefl _)
/-- in the loop's body; behind the loop -/
theorem body_in (b : Bare B h₀ o₀ outer G g0 fr0) (u : UpS fr0 fr) (F : Fr g0 L h m) (N : News g0 L h (news ++ fr)) (dis : ∀ p ∈ news, p.1 ∉ frs outer) :
    ∃ g, Fr g L h m ∧ News g L h news ∧ GR h₀ o₀ (frs outer) g ∧ GR g [] (frs outer) g ∧ B.StaysIn g ∧ g.FunFrames B outer ∧ (∀ a o, g0.get? a = some o → g.get? a = some o) ∧ (∀ q ∈ fr, g.get? q.1 = some q.2) := by
  have fr1 : ∀ q ∈ fr, q.1 ∈ frs outer := fun q hq => by rw [← b.fr, ← u.map]; exact List.mem_map_of_mem hq
  have frh : ∀ q ∈ fr, h.get? q.1 = some q.2 := fun q hq => (N q (List.mem_append_right _ hq)).1
  have inG : ∀ a o, G.get? a = some o → a ∈ frs outer → ∃ sl, h.get? a = some { o with slots := sl } := fun a o e hm => by
    rw [← b.fr] at hm
    obtain ⟨q, hq, rfl⟩ := List.mem_map.mp hm
    have e' := b.at0 q hq
    rw [e] at e'; cases e'
    obtain ⟨sl, z⟩ := u.mem q hq
    exact ⟨sl, frh _ z⟩
  have keep0 : ∀ a o, g0.get? a = some o → (shadow G h).get? a = some o := fun a o e => shadow_some (b.of0 e).1 (F.keep a o e)
  have sh : ∀ a o, G.get? a = some o → (a ∉ frs outer → (shadow G h).get? a = some o) ∧ ∃ sl, (shadow G h).get? a = some { o with slots := sl } := fun a o e => by
    by_cases hm : a ∈ frs outer
    · obtain ⟨sl, z⟩ := inG a o e hm
      exact ⟨fun n => absurd hm n, sl, shadow_some e z⟩
    · have := keep0 a o (b.to0 e hm)
      exact ⟨fun _ => this, o.slots, this⟩
  refine ⟨shadow G h, ⟨F.ns, fun a o e => (of_shadow e).2, by rw [shadow_size, ← b.size]; exact F.above⟩, fun p hp => ?_, fun a o e n => ?_, fun a o e _ => ⟨fun _ => e, fun _ => ⟨o.slots, e⟩⟩, fun a o e => ?_, b.ff.of_keeps fun a o e _ => ?_, keep0, fun q hq => ?_⟩
  · have Np := N p (List.mem_append_left _ hp)
    refine ⟨Np.1, Np.2.1, ?_⟩
    cases z : (shadow G h).get? p.1 with
    | none => rfl
    | some o =>
      obtain ⟨⟨o', y⟩, _⟩ := of_shadow z
      have := b.to0 y (dis p hp)
      rw [Np.2.2] at this; cases this
  · obtain ⟨x1, x2⟩ := b.gr a o e n
    refine ⟨fun k => (sh a o (x1 k)).1 k, fun k => ?_⟩
    obtain ⟨sl, y⟩ := x2 k
    obtain ⟨sl', y'⟩ := (sh a _ y).2
    exact ⟨sl', y'⟩
  · exact (sh a o (b.st a o e)).1 fun hm => by rw [(b.ff.mem hm).1] at e; cases e
  · obtain ⟨sl, y⟩ := (sh a o e).2
    exact ⟨_, y, rfl⟩
  · have hm := fr1 q hq
    rw [← b.fr] at hm
    obtain ⟨q0, h0, e0⟩ := List.mem_map.mp hm
    have := b.at0 q0 h0
    (try dsimp only at e0)
    rw [e0] at this
    exact shadow_some this (frh q hq)
/-- the end of a loop's body -/
theorem body_out (b : Bare B h₀ o₀ outer G g0 fr0) (u : UpS fr0 fr) (k0 : ∀ a o, g0.get? a = some o → g.get? a = some o) (kf : ∀ q ∈ fr, g.get? q.1 = some q.2) (gr2 : GR g [] (frs outer) g2) (hL : g0.objs.size ≤ L) (F : Fr g2 L h2 m2) (N : News g2 L h2 news2) :
    ∃ fr2, UpS fr0 fr2 ∧ Fr g0 L h2 m2 ∧ News g0 L h2 (news2 ++ fr2) ∧ (∀ p ∈ news2, p.1 ∉ frs outer) := by
  have fr1 : ∀ q ∈ fr, q.1 ∈ frs outer := fun q hq => by rw [← b.fr, ← u.map]; exact List.mem_map_of_mem hq
  have k2 : ∀ a o, g0.get? a = some o → g2.get? a = some o := fun a o e => (gr2 a o (k0 a o e) (fun z => nomatch z)).1 (b.of0 e).2
  obtain ⟨fr2, u2, at2⟩ := UpS.of (h' := g2) (a := fr) fun q hq => (gr2 q.1 q.2 (kf q hq) (fun z => nomatch z)).2 (fr1 q hq)
  have m2' : fr2.map (·.1) = frs outer := by rw [u2.map, u.map, b.fr]
  have dis : ∀ p ∈ news2, p.1 ∉ frs outer := fun p hp hm => by
    rw [← m2'] at hm
    obtain ⟨q, hq, e⟩ := List.mem_map.mp hm
    have := at2 q hq
    (try dsimp only at e)
    rw [e, (N p hp).2.2] at this; cases this
  refine ⟨fr2, u.trans u2, ⟨F.ns, fun a o e => F.keep a o (k2 a o e), ?_⟩, fun p hp => ?_, dis⟩
  · exact hL
  · rcases List.mem_append.mp hp with hp | hp
    · refine ⟨(N p hp).1, (N p hp).2.1, ?_⟩
      cases z : g0.get? p.1 with
      | none => rfl
      | some o => have := k2 _ _ z; rw [(N p hp).2.2] at this; cases this
    · have hm : p.1 ∈ frs outer := m2' ▸ List.mem_map_of_mem hp
      refine ⟨F.keep _ _ (at2 p hp), fun e => ?_, by rw [b.eq]; exact hideAll_none _ hm⟩
      have := Heap.lt_size (at2 p hp)
      rw [e] at this
      exact absurd (Nat.lt_of_lt_of_le this F.above) (Nat.lt_irrefl _)
end
set_option maxRecDepth 100000
set_option maxHeartbeats 8000000
/-- the pieces as they lie: references, what they say, the tuples -/
inductive PcsAre : List Value → List Pc → List (Addr × Obj) → Prop
  | nil : PcsAre [] [] []
  | cons {vs ps tp} (T : Addr) (k t h : Str) (tk tt th : Tok) (r : PcsAre vs ps tp) : PcsAre (.ref T :: vs) ((k, t, h) :: ps) ((T, tupO [.str k tk, .str t tt, .str h th]) :: tp)
theorem PcsAre.snoc {vs ps tp} (x : PcsAre vs ps tp) (T : Addr) (k t h : Str) (tk tt th : Tok) : PcsAre (vs ++ [.ref T]) (ps ++ [(k, t, h)]) (tp ++ [(T, tupO [.str k tk, .str t tt, .str h th])]) := by
  induction x with
  | nil => exact .cons _ _ _ _ _ _ _ .nil
  | cons T' k' t' h' tk' tt' th' r ih => exact .cons _ _ _ _ _ _ _ ih
theorem PcsAre.len {vs ps tp} (x : PcsAre vs ps tp) : vs.length = ps.length := by
  induction x with
  | nil => rfl
  | cons _ _ _ _ _ _ _ _ ih => rw [List.length_cons, List.length_cons, ih]
theorem PcsAre.at {vs ps tp} (x : PcsAre vs ps tp) : ∀ {i : Nat} {v : Value}, vs[i]? = some v → ∃ T k t h tk tt th, v = .ref T ∧ ps[i]? = some (k, t, h) ∧ (T, tupO [.str k tk, .str t tt, .str h th]) ∈ tp := by
  induction x with
  | nil => intro i v h; simp at h
  | cons T k t h tk tt th r ih =>
    intro i v hv
    cases i with
    | zero => simp at hv; exact ⟨T, k, t, h, tk, tt, th, hv.symm, rfl, .head _⟩
    | succ i =>
      obtain ⟨T', k', t', h', a, b, c, e, p, m⟩ := ih (i := i) (v := v) (by simpa using hv)
      exact ⟨T', k', t', h', a, b, c, e, by simpa using p, .tail _ m⟩
theorem PcsAre.last {vs ps tp} (x : PcsAre vs ps tp) (h : ps ≠ []) : ∃ T k t h tk tt th, vs[vs.length - 1]? = some (.ref T) ∧ ps.getLast? = some (k, t, h) ∧ (T, tupO [.str k tk, .str t tt, .str h th]) ∈ tp := by
  have hl := x.len
  have h0 : 0 < ps.length := List.length_pos_iff.mpr h
  have hv : vs[vs.length - 1]? = some (vs[vs.length - 1]'(by omega)) := List.getElem?_eq_getElem _
  obtain ⟨T, k, t, h', a, b, c, e, p, m⟩ := x.at hv
  refine ⟨T, k, t, h', a, b, c, by rw [← e]; exact hv, ?_, m⟩
  rw [List.getLast?_eq_getElem?, ← hl, p]
section
open PySem.Spec PySem.SeqAt
variable {prog : Program} {w : World} {A : Around} {E : Value → Shared → Prop} {s : Shared} {g : Heap} {L : Addr} {news : List (Addr × Obj)} {a b : Addr} {vs : List Value} {ps : List Pc} {tp : List (Addr × Obj)} {n k : Nat} {Q : Value → Shared → Prop}
theorem tup_N {value slice : PySem.Expr} {T : Addr} {its : List Value} {i : Int} {u : Tok} {v : Value} (N : News g L s.heap news) (hm : (T, tupO its) ∈ news) (h0 : 0 ≤ i) (hhi : i < 2 ^ 63) (hx : its[i.toNat]? = some v) (h : Q v s)
    (hs : subscripted slice false (.ref T) (.int i u) = operate [.ref T, .int i u] (getItem (.ref T) (.int i u)) := by with_unfolding_all rfl) :
    wpAny (model prog w) A (subscriptTail value slice (.ref T) (.int i u)) Q E s := by
  have hi : i.toNat < its.length := (List.getElem?_eq_some_iff.mp hx).1
  refine item_tupleT (l := its) (j := i.toNat) ⟨_, (N _ hm).1, rfl, _, rfl⟩ (by omega) hhi ?_ hx h hs
  unfold seqIndex?
  have h1 : ¬ i < 0 := by omega
  have h2 : (i.toNat : Int) = i := by omega
  simp [h1]; omega
theorem itemneg_N {value slice : PySem.Expr} {u : Tok} {v : Value} (N : News g L s.heap news) (hm : (a, listOf vs.toArray n) ∈ news) (h0 : 0 < vs.length) (hx : vs[vs.length - 1]? = some v) (h : Q v s)
    (hs : subscripted slice false (.ref a) (.int (-1) u) = operate [.ref a, .int (-1) u] (getItem (.ref a) (.int (-1) u)) := by with_unfolding_all rfl) :
    wpAny (model prog w) A (subscriptTail value slice (.ref a) (.int (-1) u)) Q E s := by
  have hl : s.heap.IsList a vs.toArray := ⟨_, N.get hm, rfl, n, rfl⟩
  refine tail_any hl.typeIs slot_list_getitem.lookup (wpAny_getItem_list_neg hl (by omega) (by simp; omega) (by decide) (x := v) ?_ h) hs
  have : (-1 + ((vs.toArray.size : Nat) : Int)).toNat = vs.length - 1 := by simp; omega
  rw [this]; simpa using hx
noncomputable def pcD (p : Pc) : PyData := .tuple [.str p.1, .str p.2.1, .str p.2.2]
theorem pcs_reads {h : Heap} {vs : List Value} {ps : List Pc} {tp : List (Addr × Obj)} (x : PcsAre vs ps tp) (hat : ∀ q ∈ tp, h.get? q.1 = some q.2) : ReadsAll h vs (ps.map pcD) [] := by
  induction x with
  | nil => exact .nil
  | cons T k t hh tk tt th r ih =>
    exact .cons (as := []) (bs := []) (reads_tuple_at (hat _ (.head _)) rfl rfl (.cons (as := []) (bs := []) (.str _ _) (.cons (as := []) (bs := []) (.str _ _) (.cons (as := []) (bs := []) (.str _ _) .nil)))) (ih fun q hq => hat q (.tail _ hq))
theorem tab_lay : pieceTab.all (fun p => PyData.strOk p.1 && (PyData.strOk p.2.1 && PyData.strOk p.2.2)) = true := by decide +kernel
theorem pcs_shaped {ps : List Pc} (h : ∀ p ∈ ps, p ∈ pieceTab) : shaped (.list (ps.map pcD)) = true := by
  have h1 : ∀ {ps : List Pc}, (∀ p ∈ ps, p ∈ pieceTab) → PyData.canLayAll0 (ps.map pcD) = true ∧ PyData.depthAll (ps.map pcD) ≤ 1 := by
    intro ps
    induction ps with
    | nil => intro _; exact ⟨rfl, by simp [PyData.depthAll]⟩
    | cons p r ih =>
      intro h
      have hp := List.all_eq_true.mp tab_lay p (h p (.head _))
      simp only [Bool.and_eq_true] at hp
      obtain ⟨a, b, c⟩ := hp
      obtain ⟨i1, i2⟩ := ih fun q hq => h q (.tail _ hq)
      constructor
      · show (PyData.canLay0 (pcD p) && PyData.canLayAll0 (r.map pcD)) = true
        rw [i1, Bool.and_true]
        simp [pcD, PyData.canLay0, PyData.canLayAll0, a, b, c]
      · simp [PyData.depthAll, PyData.depth, pcD]; omega
  obtain ⟨a, b⟩ := h1 h
  simp [shaped, PyData.canLay0, PyData.depth, a]; omega
theorem eq_nilP_N (N : News g L s.heap news) (ma : (a, listOf vs.toArray n) ∈ news) (mb : (b, listOf #[] k) ∈ news) (hs : PcsAre vs ps tp) (ht : ∀ q ∈ tp, q ∈ news) (hl : ∀ p ∈ ps, p ∈ pieceTab) (hu : A.units ≤ 1000)
    (h : Q (.bool ps.isEmpty) s) : wpAny (model prog w) A (compareOp .Eq (.ref a) (.ref b)) Q E s := by
  refine eq_dataH (da := .list (ps.map pcD)) (db := .list []) (reads_list_at (N _ ma).1 rfl rfl (pcs_reads hs fun q hq => (N q (ht q hq)).1)) (reads_list_at (N _ mb).1 rfl rfl .nil) (pcs_shaped hl) rfl (by unfold cLine; omega) ?_
  have e : PyData.eqv (.list (ps.map pcD)) (.list []) = ps.isEmpty := by cases ps <;> simp [PyData.eqv, PyData.eqvAll]
  rw [e]; exact h
theorem ne_nilP_N (N : News g L s.heap news) (ma : (a, listOf vs.toArray n) ∈ news) (mb : (b, listOf #[] k) ∈ news) (hs : PcsAre vs ps tp) (ht : ∀ q ∈ tp, q ∈ news) (hl : ∀ p ∈ ps, p ∈ pieceTab) (hu : A.units ≤ 1000)
    (h : Q (.bool (!ps.isEmpty)) s) : wpAny (model prog w) A (compareOp .NotEq (.ref a) (.ref b)) Q E s := by
  refine ne_dataH (da := .list (ps.map pcD)) (db := .list []) (reads_list_at (N _ ma).1 rfl rfl (pcs_reads hs fun q hq => (N q (ht q hq)).1)) (reads_list_at (N _ mb).1 rfl rfl .nil) (pcs_shaped hl) rfl (by unfold cLine; omega) ?_
  have e : PyData.eqv (.list (ps.map pcD)) (.list []) = ps.isEmpty := by cases ps <;> simp [PyData.eqv, PyData.eqvAll]
  show Q (.bool (!PyData.eqv _ _)) s
  rw [e]; exact h
end
set_option maxRecDepth 100000
set_option maxHeartbeats 8000000
theorem ln23 : True := by
  k_with_none
  k_with "M subscriptTail Name Constant ref int" => (k_here; (with_reducible show wpAny _ _ (subscriptTail _ _ (Value.ref _) (Value.int _ _)) _ _ _); k_dflt (refine' Mine.item_N ?k0 ?k1 ?k2 ?k3 ?k4 ?_ ?k6; (case k0 => k_asm); (case k1 => k_mem); (case k2 => decide); (case k3 => decide); (case k4 => rfl); (case k6 => with_unfolding_all rfl); k_whole))
  k_with "M m_new" => first | exact List.forall_mem_nil _ | (refine' List.forall_mem_cons.mpr ⟨And.intro ?mzA ?mzB, ?mzC⟩; (case mzA => k_mem); (case mzB => (try dsimp only); first | exact Or.inl (by k_mem) | exact Or.inr (by walk_at "m_all")); (case mzC => walk_at "m_new"))
  k_with "M m_spl" => first | exact Mine.Spl.head | exact (Mine.Spl.tail Mine.Spl.head) | exact (Mine.Spl.tail (Mine.Spl.tail Mine.Spl.head)) | exact (Mine.Spl.tail (Mine.Spl.tail (Mine.Spl.tail Mine.Spl.head))) | exact (Mine.Spl.tail (Mine.Spl.tail (Mine.Spl.tail (Mine.Spl.tail Mine.Spl.head)))) | exact (Mine.Spl.tail (Mine.Spl.tail (Mine.Spl.tail (Mine.Spl.tail (Mine.Spl.tail Mine.Spl.head))))) | exact (Mine.Spl.tail (Mine.Spl.tail (Mine.Spl.tail (Mine.Spl.tail (Mine.Spl.tail (Mine.Spl.tail Mine.Spl.head)))))) | exact (Mine.Spl.tail (Mine.Spl.tail (Mine.Spl.tail (Mine.Spl.tail (Mine.Spl.tail (Mine.Spl.tail (Mine.Spl.tail Mine.Spl.head))))))) | exact (Mine.Spl.tail (Mine.Spl.tail (Mine.Spl.tail (Mine.Spl.tail (Mine.Spl.tail (Mine.Spl.tail (Mine.Spl.tail (Mine.Spl.tail Mine.Spl.head)))))))) | exact (Mine.Spl.tail (Mine.Spl.tail (Mine.Spl.tail (Mine.Spl.tail (Mine.Spl.tail (Mine.Spl.tail (Mine.Spl.tail (Mine.Spl.tail (Mine.Spl.tail Mine.Spl.head))))))))) | exact (Mine.Spl.tail (Mine.Spl.tail (Mine.Spl.tail (Mine.Spl.tail (Mine.Spl.tail (Mine.Spl.tail (Mine.Spl.tail (Mine.Spl.tail (Mine.Spl.tail (Mine.Spl.tail Mine.Spl.head)))))))))) | exact (Mine.Spl.tail (Mine.Spl.tail (Mine.Spl.tail (Mine.Spl.tail (Mine.Spl.tail (Mine.Spl.tail (Mine.Spl.tail (Mine.Spl.tail (Mine.Spl.tail (Mine.Spl.tail (Mine.Spl.tail Mine.Spl.head))))))))))) | exact (Mine.Spl.tail (Mine.Spl.tail (Mine.Spl.tail (Mine.Spl.tail (Mine.Spl.tail (Mine.Spl.tail (Mine.Spl.tail (Mine.Spl.tail (Mine.Spl.tail (Mine.Spl.tail (Mine.Spl.tail (Mine.Spl.tail Mine.Spl.head)))))))))))) | exact (Mine.Spl.tail (Mine.Spl.tail (Mine.Spl.tail (Mine.Spl.tail (Mine.Spl.tail (Mine.Spl.tail (Mine.Spl.tail (Mine.Spl.tail (Mine.Spl.tail (Mine.Spl.tail (Mine.Spl.tail (Mine.Spl.tail (Mine.Spl.tail Mine.Spl.head)))))))))))))
  k_with "M m_own" => first | exact List.forall_mem_nil _ | (refine' List.forall_mem_cons.mpr ⟨?mzA, ?mzB⟩; (case mzA => k_mem); (case mzB => walk_at "m_own"))
  k_with "M m_lvl" => first | exact lv_le 3 rfl (by assumption) rfl | exact lv_le 1 rfl (by assumption) rfl | exact lv_le 0 rfl (by assumption) rfl | exact lv_le 2 rfl (by assumption) rfl | ((try simp only [depth_under_make, depth_under_kw, depth_in1, depth_deeper, units_in1, units_deeper, units_under_make, Around.mark_units]); (try dsimp only); omega)
  k_with "M call builtin:len" => (k_here; (with_reducible show wpAny _ _ (call (Value.builtin "len") [Value.ref _]) _ _ _); k_dflt (refine' Mine.len_N ?k0 ?k1 ?k2 ?_; (case k0 => k_asm); (case k1 => k_mem); (case k2 => (try simp only [List.length_cons, List.length_nil]); omega); k_whole))
  k_with "M m_ne0" => (replace l1 := ne0_of l1; (try simp only [NewNe0, AllNe, and_true, and_assoc] at l1); (repeat (have := And.left l1; replace l1 := And.right l1)))
  k_with "M m_ne1" => (replace l1 := ne1_of l1; (try simp only [NewNe1, AllNe, and_true, true_or, true_and, and_assoc] at l1); (repeat (have := And.left l1; replace l1 := And.right l1)))
  k_with "M exec Raise some none" => (k_here; k_dflt (refine' Mine.raise_stmt ?hh ?_; (case hh => first | rfl | assumption)))
  k_with "M pyIter ref" => ((with_reducible show wpAny _ _ _ (fun it s₂ => UnrAt _ _ _ _ _ _ _ _ _ it s₂) _ _); (k_dflt (refine' Iter_tuple_unr ?hh ?ht ?F ?N ?htL ?_; (case F => k_asm); (case N => k_asm); (case hh => assumption); (case ht => exact News.isTup (by assumption) (by k_mem)); (case htL => exact News.ne_locals (by assumption) (by k_mem)))))
  k_with "M eval Name" => (k_here; (with_reducible show wpAny _ _ (eval (Expr.Name _ _) (envOfC _ _ _ _ _)) _ _ _); k_dflt (refine' nameX_L ?nxF ?nxV ?_; (case nxF => k_asm); (case nxV => rfl); k_whole))
  k_with "M m_sub" => first | exact List.forall_mem_nil _ | (refine' List.forall_mem_cons.mpr ⟨?mzA, ?mzB⟩; (case mzA => k_mem); (case mzB => walk_at "m_sub")) | (intro mzp mzh; k_mem)
  k_with "M m_off" => first | exact True.intro | assumption | (refine And.intro ⟨by k_ne, by k_ne, by k_ne⟩ ?_; walk_at "m_off")
  k_with "M m_same" => first | exact List.forall_mem_nil _ | (refine' List.forall_mem_cons.mpr ⟨?mzA, ?mzB⟩; (case mzA => (try dsimp only); first | exact Or.inl (by k_mem) | exact Or.inr (by k_mem)); (case mzB => walk_at "m_same")) | simp
  k_with "M m_all" => first | exact List.forall_mem_nil _ | (refine' List.forall_mem_cons.mpr ⟨?mzA, ?mzB⟩; (case mzA => k_ne); (case mzB => walk_at "m_all")) | assumption
  k_with "M om" => first | ((repeat (with_reducible rename (_ ≠ _) => hz9; clear hz9)); omega) | omega
  k_with "M m_ltp" => first | with_reducible assumption | (with_reducible rename (_ < _ ∧ _) => hq9; first | with_reducible exact hq9.1 | with_reducible exact hq9.2.1 | with_reducible exact hq9.2.2.1 | with_reducible exact hq9.2.2.2.1 | with_reducible exact hq9.2.2.2.2.1 | with_reducible exact hq9.2.2.2.2.2.1 | with_reducible exact hq9.2 | with_reducible exact hq9.2.2 | with_reducible exact hq9.2.2.2 | with_reducible exact hq9.2.2.2.2 | with_reducible exact hq9.2.2.2.2.2 | (clear hq9; walk_at "m_ltp"))
  k_with "M m_nel" => first | exact Nat.ne_of_lt (by walk_at "m_ltp") | exact Nat.ne_of_gt (by walk_at "m_ltp") | exact ne_lt_k 1 rfl (by walk_at "m_ltp") | exact ne_lt_k 2 rfl (by walk_at "m_ltp") | exact ne_lt_k 3 rfl (by walk_at "m_ltp") | exact ne_lt_k 4 rfl (by walk_at "m_ltp") | exact ne_gt_k 1 rfl (by walk_at "m_ltp") | exact ne_gt_k 2 rfl (by walk_at "m_ltp") | exact ne_gt_k 3 rfl (by walk_at "m_ltp") | exact ne_gt_k 4 rfl (by walk_at "m_ltp")
  k_with "M execs cons" => (k_here; (try k_gentoks); (with_reducible refine wpAny_execs_cons ?_); (try k_fold); (try dsimp only))
  k_with "M call ref" => (k_here; (with_reducible show wpAny _ _ (call (Value.ref 246) _) _ _ _); (k_dflt (refine' take_use ?G ?F ?N ?st ?d ?u ?h ?sp ?ne ?t1 ?t2 ?t3 ?t4 ?t5 ?_; (case F => k_asm); (case N => k_asm); (case sp => walk_at "m_spl"); (case ne => walk_at "m_all"); (case st => assumption); (case d => walk_at "m_lvl"); (case u => walk_at "m_lvl"); (case h => assumption); (try (case G => assumption)); (all_goals (try (case t1 => first | omega | decide | assumption))); (all_goals (try (case t2 => first | omega | decide | assumption))); (all_goals (try (case t3 => first | omega | decide | assumption))); (all_goals (try (case t4 => first | omega | decide | assumption))); (all_goals (try (case t5 => first | omega | decide | assumption))); (all_goals (try (case a1 => assumption))); (all_goals (try (case a2 => assumption))); (all_goals (try (case a3 => assumption))); k_whole)); intro d' td' a' b' ta' tb' n' h' tk' hd0' hd1' ha' hb0' hb1' F' N'; (try dsimp only); (try k_sweep))
  k_with "M call ref" => (k_here; (with_reducible show wpAny _ _ (call (Value.ref 253) _) _ _ _); (k_dflt (refine' oneS_use ?G ?F ?N ?st ?d ?u ?h ?sp ?b4 ?ne ?b1 ?b2 ?p1 ?p2 ?t3 ?t4 ?t5 ?b3 ?_; (case F => k_asm); (case N => k_asm); (case sp => walk_at "m_spl"); (case b4 => k_mem); (case ne => walk_at "m_all"); (case st => assumption); (case d => walk_at "m_lvl"); (case u => walk_at "m_lvl"); (case h => assumption); (try (case G => assumption)); (case b1 => first | rfl | assumption); (case b2 => first | assumption | decide); (case b3 => k_ne); (case p1 => first | exact Nat.le_of_ble_eq_true rfl | omega); (case p2 => first | exact Nat.le_of_ble_eq_true rfl | omega); (all_goals (try (case t1 => first | omega | decide | assumption))); (all_goals (try (case t2 => first | omega | decide | assumption))); (all_goals (try (case t3 => first | omega | decide | assumption))); (all_goals (try (case t4 => first | omega | decide | assumption))); (all_goals (try (case t5 => first | omega | decide | assumption))); (all_goals (try (case a1 => assumption))); (all_goals (try (case a2 => assumption))); (all_goals (try (case a3 => assumption))); k_whole)); intro s' ts' a' b' ta' tb' n' h' tk' hs' hsl' ha' hb0' hb1' F' N'; (try dsimp only); (try k_sweep))
  trivial
noncomputable abbrev pMap (src : Nat) (u1 u2 u3 u4 u5 u6 : Option Value) : Str → Option Value := fun y =>
  if y = Str.ofString "quote" then u6 else if y = Str.ofString "text" then u5 else if y = Str.ofString "heard" then u4 else if y = Str.ofString "kind" then u3 else if y = Str.ofString "kinds" then u2 else if y = Str.ofString "turn" then u1 else if y = Str.ofString "source" then some (Value.ref src) else none
/-- what may come behind the last piece -/
noncomputable def nextK (l : Option Pc) (k : Str) : Bool := match l with
  | none => true
  | some p => p.1 != k && (!(p.1 == Str.ofString "name" || p.1 == Str.ofString "token") || k == Str.ofString "spaces" || k == Str.ofString "quoted" || k == Str.ofString "word")
noncomputable def okK (l : Option Pc) (k : Str) : Bool := match l with
  | none => true
  | some p => p.1 != k
theorem strsOf_of {vs : List Value} {ss : List Str} (h : StrsAre vs ss) : strsOf vs = some ss := by
  induction h with
  | nil => rfl
  | cons y t r ih => unfold strsOf; rw [ih]; rfl
theorem kind20 : ∀ s ∈ kindS, s.length ≤ 20 := by decide
noncomputable def heardS (k : Str) : List Str :=
  if k = Str.ofString "name" then nameS else if k = Str.ofString "token" then tokenS else if k = Str.ofString "spaces" then spacesS else if k = Str.ofString "quoted" then quotedS else if k = Str.ofString "word" then wordS else untilS
theorem heard_all : ∀ k ∈ kindS, (1 ≤ (heardS k).length ∧ (heardS k).length ≤ 10) ∧ ∀ s ∈ heardS k, s.length ≤ 20 := by decide +kernel
theorem heard_len {k : Str} (h : k ∈ kindS) : 1 ≤ (heardS k).length ∧ (heardS k).length ≤ 10 := (heard_all k h).1
theorem heard20 {k : Str} (h : k ∈ kindS) : ∀ s ∈ heardS k, s.length ≤ 20 := (heard_all k h).2
theorem heard_name : heardS (Str.ofString "name") = nameS := by unfold heardS; rw [if_pos rfl]
theorem heard_token : heardS (Str.ofString "token") = tokenS := by unfold heardS; rw [if_neg (by decide), if_pos rfl]
theorem heard_spaces : heardS (Str.ofString "spaces") = spacesS := by unfold heardS; rw [if_neg (by decide), if_neg (by decide), if_pos rfl]
theorem heard_quoted : heardS (Str.ofString "quoted") = quotedS := by unfold heardS; rw [if_neg (by decide), if_neg (by decide), if_neg (by decide), if_pos rfl]
theorem heard_word : heardS (Str.ofString "word") = wordS := by unfold heardS; rw [if_neg (by decide), if_neg (by decide), if_neg (by decide), if_neg (by decide), if_pos rfl]
theorem heard_until : heardS (Str.ofString "until") = untilS := by unfold heardS; rw [if_neg (by decide), if_neg (by decide), if_neg (by decide), if_neg (by decide), if_neg (by decide)]
theorem ledv {g h : Heap} {L : Addr} {m : Str → Option Value} {x : Str} {D : Addr} (_ : Fr g L h m) (_ : m x = some (.ref D)) : ∃ D', D' = D := ⟨D, rfl⟩
theorem tab_name : ∀ h ∈ nameS, (Str.ofString "name", h, h) ∈ pieceTab := by decide +kernel
theorem tab_token : ∀ h ∈ tokenS, (Str.ofString "token", h, h) ∈ pieceTab := by decide +kernel
theorem tab_spaces : ∀ h ∈ spacesS, (Str.ofString "spaces", h, h) ∈ pieceTab := by decide +kernel
theorem tab_word : ∀ h ∈ wordS, (Str.ofString "word", h, h) ∈ pieceTab := by decide +kernel
theorem tab_until : ∀ h ∈ untilS, (Str.ofString "until", h ++ Str.ofString "?>", h) ∈ pieceTab := by decide +kernel
theorem tab_q1 : ∀ h ∈ quotedS, (Str.ofString "quoted", Str.ofString "\"" ++ h ++ Str.ofString "\"", h) ∈ pieceTab := by decide +kernel
theorem tab_q2 : ∀ h ∈ quotedS, h ≠ Str.ofString "a'b" → (Str.ofString "quoted", Str.ofString "'" ++ h ++ Str.ofString "'", h) ∈ pieceTab := by decide +kernel
theorem app_nil (x : Str) : x ++ Str.ofString "" = x := Str.append_empty x
theorem tab_name' (h : Str) (hh : h ∈ nameS) : (Str.ofString "name", h ++ Str.ofString "", h) ∈ pieceTab := by rw [app_nil]; exact tab_name h hh
theorem tab_token' (h : Str) (hh : h ∈ tokenS) : (Str.ofString "token", h ++ Str.ofString "", h) ∈ pieceTab := by rw [app_nil]; exact tab_token h hh
theorem tab_spaces' (h : Str) (hh : h ∈ spacesS) : (Str.ofString "spaces", h ++ Str.ofString "", h) ∈ pieceTab := by rw [app_nil]; exact tab_spaces h hh
theorem tab_word' (h : Str) (hh : h ∈ wordS) : (Str.ofString "word", h ++ Str.ofString "", h) ∈ pieceTab := by rw [app_nil]; exact tab_word h hh
theorem tab_plain {kd hd : Str} (hk : kd ∈ kindS) (h1 : (kd == Str.ofString "quoted") = false) (h2 : (kd == Str.ofString "until") = false) (hh : hd ∈ heardS kd) : (kd, hd ++ Str.ofString "", hd) ∈ pieceTab := by
  simp only [kindS, List.mem_cons, List.not_mem_nil, or_false] at hk
  rcases hk with rfl | rfl | rfl | rfl | rfl | rfl
  · rw [heard_name] at hh; exact tab_name' hd hh
  · rw [heard_token] at hh; exact tab_token' hd hh
  · rw [heard_spaces] at hh; exact tab_spaces' hd hh
  · exact absurd h1 (by decide)
  · rw [heard_word] at hh; exact tab_word' hd hh
  · exact absurd h2 (by decide)
theorem chain_snoc {ps : List Pc} {k t h : Str} (hch : Chain ps) (htab : ∀ p ∈ ps, p ∈ pieceTab) (hnx : nextK ps.getLast? k = true) (hm : (k, t, h) ∈ pieceTab) : Chain (ps ++ [(k, t, h)]) ∧ (∀ p ∈ ps ++ [(k, t, h)], p ∈ pieceTab) := by
  refine ⟨hch.snoc (List.all_eq_true.mp piece_all _ hm) fun p hp => ?_, fun p hp => ?_⟩
  · rw [hp] at hnx; exact hnx
  · rcases List.mem_append.mp hp with hp | hp
    · exact htab p hp
    · rw [List.mem_singleton.mp hp]; exact hm
theorem ledh {g h : Heap} {L : Addr} {T : Addr} {o : Obj} {r : List (Addr × Obj)} (_ : News g L h ((T, o) :: r)) : ∃ T', T' = T := ⟨T, rfl⟩
theorem sub4 {p1 p2 p3 p4 p5 : Addr × Obj} {tp all : List (Addr × Obj)} (h1 : p1 ∈ all) (h2 : p2 ∈ all) (h3 : p3 ∈ all) (h4 : p4 ∈ all) (ht : ∀ q ∈ tp, q ∈ all) (h5 : p5 ∈ all) : ∀ p ∈ p1 :: p2 :: p3 :: p4 :: (tp ++ [p5]), p ∈ all :=
  List.forall_mem_cons.mpr ⟨h1, List.forall_mem_cons.mpr ⟨h2, List.forall_mem_cons.mpr ⟨h3, List.forall_mem_cons.mpr ⟨h4, fun q hq => (List.mem_append.mp hq).elim (ht q) fun z => List.mem_singleton.mp z ▸ h5⟩⟩⟩⟩
theorem tail_snoc {tp : List (Addr × Obj)} {x T : Addr} {o : Obj} (h : ∀ q ∈ tp, q.1 ≠ x) (hT : T ≠ x) : ∀ q ∈ tp ++ [(T, o)], q.1 ≠ x := fun q hq => (List.mem_append.mp hq).elim (h q) fun z => List.mem_singleton.mp z ▸ hT
theorem off3 {I T : Addr} {o : Obj} {p2 p3 p4 : Addr × Obj} {tp : List (Addr × Obj)} (h2 : p2.1 ≠ I) (h3 : p3.1 ≠ I) (h4 : p4.1 ≠ I) (ht : ∀ q ∈ tp, q.1 ≠ I) (hT : T ≠ I) : ∀ p ∈ p2 :: p3 :: p4 :: (tp ++ [(T, o)]), p.1 ≠ I :=
  List.forall_mem_cons.mpr ⟨h2, List.forall_mem_cons.mpr ⟨h3, List.forall_mem_cons.mpr ⟨h4, tail_snoc ht hT⟩⟩⟩
theorem Fr.cg {g h : Heap} {L : Addr} {m m' : Str → Option Value} (F : Fr g L h m) (e : m = m') : Fr g L h m' := e ▸ F
theorem next_some {lk lt lh k : Str} (h : ([Str.ofString "name", Str.ofString "token"].any fun x => x == lk) = false) (hk : okK (some (lk, lt, lh)) k = true) : nextK (some (lk, lt, lh)) k = true := by
  simp only [List.any_cons, List.any_nil, Bool.or_false, Bool.or_eq_false_iff] at h
  have h1 : (lk == Str.ofString "name") = false := by rw [Bool.beq_comm']; exact h.1
  have h2 : (lk == Str.ofString "token") = false := by rw [Bool.beq_comm']; exact h.2
  unfold nextK
  dsimp only [okK] at hk ⊢
  rw [hk, h1, h2]; rfl
theorem next_name {lk lt lh : Str} (h : ([Str.ofString "name", Str.ofString "token"].any fun x => x == lk) = true) : ∀ k ∈ [Str.ofString "spaces", Str.ofString "quoted", Str.ofString "word"], k ∈ kindS ∧ nextK (some (lk, lt, lh)) k = true := by
  simp only [List.any_cons, List.any_nil, Bool.or_false, Bool.or_eq_true, beq_iff_eq] at h
  intro k hk
  refine ⟨(by decide : ∀ k ∈ [Str.ofString "spaces", Str.ofString "quoted", Str.ofString "word"], k ∈ kindS) k hk, ?_⟩
  simp only [List.mem_cons, List.not_mem_nil, or_false] at hk
  rcases h with rfl | rfl <;> rcases hk with rfl | rfl | rfl <;> rfl
theorem kinds_strs (t1 t2 t3 t4 t5 t6 : Tok) : StrsAre (#[Value.str (Str.ofString "name") t1, Value.str (Str.ofString "token") t2, Value.str (Str.ofString "spaces") t3, Value.str (Str.ofString "quoted") t4, Value.str (Str.ofString "word") t5, Value.str (Str.ofString "until") t6] : Array Value).toList kindS :=
  .cons _ _ (.cons _ _ (.cons _ _ (.cons _ _ (.cons _ _ (.cons _ _ .nil)))))
theorem kind_filter (lk : Str) : 1 ≤ (kindS.filter fun k => lk != k).length := by
  apply List.length_pos_of_mem (a := if lk = Str.ofString "name" then Str.ofString "token" else Str.ofString "name")
  rw [List.mem_filter]
  by_cases h : lk = Str.ofString "name"
  · rw [if_pos h, h]; decide
  · rw [if_neg h]; exact ⟨.head _, bne_iff_ne.mpr h⟩
set_option autoImplicit false in
inductive PcJ (src L' I i : Nat) (m : Str → Option Value) (news : List (Addr × Obj)) : Prop
  | mk (u1 : _) (u2 : _) (u3 : _) (u4 : _) (u5 : _) (u6 : _) (fl : _) (co : _) (vs : _) (ps : _) (tp : _) (n2 : _) (a : _) (b : _) (ta : _) (tb : _) (n : _) (z0 : m = pMap src u1 u2 u3 u4 u5 u6) (z1 : news = (src, srcO a b ta tb n) :: (fl, listOf vs.toArray n2) :: (L' + 1, co) :: tp) (z2 : co.data = .cell (some (.ref fl))) (z3 : PcsAre vs ps tp) (z4 : (∀ p ∈ ps, p ∈ pieceTab)) (z5 : Chain ps) (z6 : ps.length = i) (z7 : 0 ≤ a) (z8 : 0 ≤ b) (z9 : b < 2147483647) (z10 : @Ne Nat fl src) (z11 : @Ne Nat fl I) (z12 : @Ne Nat src I) (z13 : @Ne Nat (L' + 1) I) (z14 : @Ne Nat (L' + 1) fl) (z15 : (∀ q ∈ tp, q.1 ≠ src)) (z16 : (∀ q ∈ tp, q.1 ≠ fl)) (z17 : (∀ q ∈ tp, q.1 ≠ I)) : PcJ src L' I i m news
set_option autoImplicit false in
inductive PcA (s : Shared) (g : Heap) (src L' I i : Nat) (t : Tok) (it : Obj) (rest : List (Addr × Obj)) (ps : List Pc) (u3 u4 u5 u6 : Option Value) (s' : Shared) : Prop
  | mk (h : _) (tk : _) (D : _) (vk : _) (kk : _) (nk : _) (z0 : s' = { s with heap := h, toks := tk }) (z1 : Fr g L' h (pMap src (some (.int (0 + (i : Int)) t)) (some (.ref D)) u3 u4 u5 u6)) (z2 : News g L' h ((I, it) :: (D, listOf vk.toArray nk) :: rest)) (z3 : StrsAre vk kk) (z4 : 1 ≤ kk.length) (z5 : kk.length ≤ 6) (z6 : (∀ k ∈ kk, k ∈ kindS ∧ nextK ps.getLast? k = true)) (z7 : @Ne Nat D src) : PcA s g src L' I i t it rest ps u3 u4 u5 u6 s'
set_option autoImplicit false in
inductive PcB (s : Shared) (g : Heap) (src L' I i : Nat) (t : Tok) (it : Obj) (rest : List (Addr × Obj)) (ps : List Pc) (D : Addr) (u4 u5 u6 : Option Value) (s' : Shared) : Prop
  | mk (h : _) (tk : _) (kd : _) (tkd : _) (a : _) (b : _) (ta : _) (tb : _) (n : _) (z0 : s' = { s with heap := h, toks := tk }) (z1 : Fr g L' h (pMap src (some (.int (0 + (i : Int)) t)) (some (.ref D)) (some (.str kd tkd)) u4 u5 u6)) (z2 : News g L' h ((I, it) :: (src, srcO a b ta tb n) :: rest)) (z3 : kd ∈ kindS) (z4 : nextK ps.getLast? kd = true) (z5 : 0 ≤ a) (z6 : 0 ≤ b) (z7 : b < 2147483647) : PcB s g src L' I i t it rest ps D u4 u5 u6 s'
set_option autoImplicit false in
inductive PcC (s : Shared) (g : Heap) (src L' I i : Nat) (t : Tok) (it : Obj) (rest : List (Addr × Obj)) (D : Addr) (kd : Str) (tkd : Tok) (u5 u6 : Option Value) (s' : Shared) : Prop
  | mk (h : _) (tk : _) (D2 : _) (vk : _) (nk : _) (z0 : s' = { s with heap := h, toks := tk }) (z1 : Fr g L' h (pMap src (some (.int (0 + (i : Int)) t)) (some (.ref D)) (some (.str kd tkd)) (some (.ref D2)) u5 u6)) (z2 : News g L' h ((D2, listOf vk.toArray nk) :: (I, it) :: rest)) (z3 : StrsAre vk (heardS kd)) (z4 : @Ne Nat D2 src) : PcC s g src L' I i t it rest D kd tkd u5 u6 s'
set_option autoImplicit false in
inductive PcD (s : Shared) (g : Heap) (src L' I i : Nat) (t : Tok) (it : Obj) (rest : List (Addr × Obj)) (D D2 : Addr) (kd : Str) (tkd : Tok) (u6 : Option Value) (s' : Shared) : Prop
  | mk (h : _) (tk : _) (hd : _) (thd : _) (tte : _) (a : _) (b : _) (ta : _) (tb : _) (n : _) (z0 : s' = { s with heap := h, toks := tk }) (z1 : Fr g L' h (pMap src (some (.int (0 + (i : Int)) t)) (some (.ref D)) (some (.str kd tkd)) (some (.str hd thd)) (some (.str (Str.ofString "") tte)) u6)) (z2 : News g L' h ((I, it) :: (src, srcO a b ta tb n) :: rest)) (z3 : hd ∈ heardS kd) (z4 : 0 ≤ a) (z5 : 0 ≤ b) (z6 : b < 2147483647) : PcD s g src L' I i t it rest D D2 kd tkd u6 s'
section
variable {prog : Program} {w : World} {mean : ExcName → Option Value} {mg mb : Str → Option Value} {B : Heap} (G : Gd w mean mg mb B)
include G
theorem pieces_con (src : Nat) (a b : Int) (ta tb : Tok) (n : Nat) (ha : 0 ≤ a) (hb0 : 0 ≤ b) (hb1 : b < 2147483647) :
    ConF prog w B 45 (.ref 258) [.ref src] [(src, srcO a b ta tb n)] [src]
      (fun v new => ∃ l vs ps tp n2 a' b' ta' tb' n', v = .ref l ∧ new = (src, srcO a' b' ta' tb' n') :: (l, listOf vs.toArray n2) :: tp ∧ PcsAre vs ps tp ∧ (∀ p ∈ ps, p ∈ pieceTab) ∧ Chain ps ∧ ps.length ≤ 6 ∧ 0 ≤ a' ∧ 0 ≤ b' ∧ b' < 2147483647) := by
  intro A s R outer C k
  obtain ⟨ah, ad, af, ag, au⟩ := A
  obtain rfl : ah = none := C.ha
  refine' enterFC G C (by decide) (binds := [("source", Value.ref src)]) ?ho ?hcd ?hb ?hl ?hnd ?k ?c1 ?c2 ?c3
  case ho => k_is
  case hcd => k_is
  case hb => first | exact BindsTo.of_eq rfl | exact binds_K (G.X.keeps C.st) rfl (by k_is) rfl rfl rfl
  case hl => exact rfl
  case hnd => decide +kernel
  case c1 => rfl
  case c2 => rfl
  case c3 => rfl
  case k =>
    intro g L' h₁ cells Q E tk gr hQ hQn hE hP F N Y X' T' st ff l1
    (try k_lt l1)
    k_cells Y
    (try simp only [List.cons_append, List.nil_append] at N)
    have hA : ad ≤ _ := C.lv
    have hu : au ≤ _ := C.un
    have hh := C.ha
    have hfr : af = some outer := C.fr
    rename_i c1 d1
    replace F : Fr g L' h₁ (fun y => if y = Str.ofString "source" then some (Value.ref src) else none) := F
    replace d1 : c1.data = Data.cell none := d1
    repeat ((fail_if_success (with_reducible show wpAny _ _ (call (Value.type _) _) _ _ _)); walk1)
    have hd9 : Gate (d' < 7) := ⟨hd1'⟩
    clear hd1'
    repeat ((fail_if_success (with_reducible show wpAny _ _ (pyIter _) _ _ _)); walk1)
    refine' iter_rangeUnr (n := d'.toNat) ?hh (by assumption) (small20 hd0' (by have := hd9.it; walk_at "om")) (size20 hd0') (by assumption) ‹News g L' _ _› (fun I hI => range_inv (fun i m news => PcJ src L' I i m news) ?step ?fin _ _ _ _ (Nat.zero_add _) ?start)
    case hh => assumption
    case start =>
      have hI := allLt_of hI
      simp only [AllLt, and_true] at hI
      refine' ⟨none, none, none, none, none, none, _, _, [], [], [], _, _, _, _, _, _, ?mp, rfl, by assumption, .nil, (fun _ h => nomatch h), trivial, rfl, ha', hb0', hb1', by k_ne, by k_ne, by k_ne, by k_ne, by k_ne, (fun _ h => nomatch h), (fun _ h => nomatch h), (fun _ h => nomatch h)⟩
      case mp =>
        funext y
        by_cases h0 : y = Str.ofString "quote"
        · subst h0; rfl
        by_cases h1 : y = Str.ofString "text"
        · subst h1; rfl
        by_cases h2 : y = Str.ofString "heard"
        · subst h2; rfl
        by_cases h3 : y = Str.ofString "kind"
        · subst h3; rfl
        by_cases h4 : y = Str.ofString "kinds"
        · subst h4; rfl
        by_cases h5 : y = Str.ofString "turn"
        · subst h5; rfl
        simp only [if_neg h0, if_neg h1, if_neg h2, if_neg h3, if_neg h4, if_neg h5]
    case step =>
      rintro i m news t h₂ tk₂ it hi ⟨u1, u2, u3, u4, u5, u6, fl, co, vs, ps, tp, n2, a, b, ta, tb, n, rfl, rfl, dc, hps, htab, hch, hpl, ha, hb0, hb1, e1, e2, e3, e4, e5, t1, t2, t3⟩ F N hit
      replace F : Fr g L' _ _ := F
      replace N : News g L' _ _ := N
      (try dsimp only)
      with_reducible refine' cut3 (fun s' => PcA s g src L' I i t it ((src, srcO a b ta tb n) :: (fl, listOf vs.toArray n2) :: (L' + 1, co) :: tp) ps u3 u4 u5 u6 s') ?first ?second
      case' first => (try k_fold)
      case first =>
        repeat ((fail_if_success (with_reducible show wpAny _ _ (exec (Stmt.Assign _ (Expr.ListComp _ _ _ _) _) _) _ _ _)); first | (k_unfold; (try dsimp only)) | walk1 | (dsimp only; walk1))
        refine' LCt.Assign_ListComp_T (F₀ := by k_asm) (by rfl) (by with_unfolding_all rfl) (by with_unfolding_all rfl) (by decide) (by rfl) (by decide) (by rfl) (by rfl) (by rfl) ?_
        repeat ((fail_if_success (with_reducible show LCt.CompSrcT _ _ _ _ _ _ _ _ _ _ _ _ _ _ _)); walk1)
        obtain ⟨rest, hrest⟩ := led0 ‹News g L' _ _›
        refine' LCt.CompSrcT.ledger ?hh2 (by k_asm) ‹News g L' _ _› (List.Mem.head _) ?hz ?_
        case hh2 => assumption
        case hz => rw [sizeLine_eq]; exact Nat.le_of_ble_eq_true rfl
        intro g3
        refine' comp_invT (fun j ys news => Gate (StrsAre ys ((kindS.take j).filter (okK ps.getLast?)) ∧ news = rest)) ?step2 ?fin2 _ _ _ _ (Nat.zero_add _) ?start2
        case start2 => exact ⟨.nil, by rw [hrest]⟩
        case step2 =>
          rintro j ys news v I2 oI Ca oC D m₂ h tk E' hj ⟨hys, rfl⟩ hv hC hx F N off ne
          rw [hrest] at N off
          simp only [LCg.Off3, and_true] at off
          repeat (obtain ⟨⟨_, _, _⟩, off⟩ := off)
          obtain ⟨y, t9, rfl, hy⟩ := (kinds_strs _ _ _ _ _ _).item j v (by rw [Array.getElem?_toList]; exact hv)
          have htk : (kindS.take (j + 1)).filter (okK ps.getLast?) = (kindS.take j).filter (okK ps.getLast?) ++ [y].filter (okK ps.getLast?) := by
            rw [List.take_succ, hy, List.filter_append]; rfl
          repeat ((fail_if_success (with_reducible show wpAny _ _ (compareOp _ _ _) _ _ _)); first | (k_unfold; (try dsimp only)) | walk1 | (dsimp only; walk1))
          refine' eq_nilP_N ‹News g L' _ _› (by k_mem) (by k_mem) hps (fun mzp mzh => by k_mem) htab (by walk_at "m_lvl") ?_
          by_cases h0 : ps = []
          · have hle : ps.isEmpty = true := by rw [h0]; rfl
            have hok : okK ps.getLast? y = true := by rw [h0]; rfl
            rw [hle]
            repeat ((fail_if_success (with_reducible show LCg.CompEnd _ _ _ _ _ _ _ _ _ _ _ _ _ _)); first | (k_unfold; (try dsimp only)) | walk1 | (dsimp only; walk1))
            exact LCg.CompEnd.intro (by assumption) ‹News g L' _ _› news (by rw [hrest]; walk_at "m_sub") (by rw [hrest]; walk_at "m_off") (by rw [hrest]; lcg_src) ⟨by rw [htk, List.filter_cons_of_pos hok]; exact hys.append' (.cons _ _ .nil), rfl⟩
          · have hle : ps.isEmpty = false := by cases ps with | nil => exact absurd rfl h0 | cons _ _ => rfl
            rw [hle]
            obtain ⟨T9, lk, lt, lh, tk9, tt9, th9, hv9, hl9, hm9⟩ := hps.last h0
            have hvl : 0 < vs.length := by rw [hps.len]; exact List.length_pos_iff.mpr h0
            repeat ((fail_if_success (with_reducible show wpAny _ _ (subscriptTail _ _ _ _) _ _ _)); first | (k_unfold; (try dsimp only)) | walk1 | (dsimp only; walk1))
            refine' itemneg_N ‹News g L' _ _› (by k_mem) hvl hv9 ?_
            repeat ((fail_if_success (with_reducible show wpAny _ _ (subscriptTail _ _ _ _) _ _ _)); first | (k_unfold; (try dsimp only)) | walk1 | (dsimp only; walk1))
            refine' tup_N ‹News g L' _ _› (by k_mem) (by decide) (by decide) (by exact rfl) ?_
            repeat ((fail_if_success (with_reducible show wpAny _ _ (truthy _) _ _ _)); first | (k_unfold; (try dsimp only)) | walk1 | (dsimp only; walk1))
            have hB : okK ps.getLast? y = (lk != y) := by rw [hl9]; rfl
            cases hok : okK ps.getLast? y with
            | true =>
              rw [hok] at hB
              rw [← hB]
              repeat ((fail_if_success (with_reducible show LCg.CompEnd _ _ _ _ _ _ _ _ _ _ _ _ _ _)); first | (k_unfold; (try dsimp only)) | walk1 | (dsimp only; walk1))
              exact LCg.CompEnd.intro (by assumption) ‹News g L' _ _› news (by rw [hrest]; walk_at "m_sub") (by rw [hrest]; walk_at "m_off") (by rw [hrest]; lcg_src) ⟨by rw [htk, List.filter_cons_of_pos hok]; exact hys.append' (.cons _ _ .nil), rfl⟩
            | false =>
              rw [hok] at hB
              rw [← hB]
              repeat ((fail_if_success (with_reducible show LCg.CompEnd _ _ _ _ _ _ _ _ _ _ _ _ _ _)); first | (k_unfold; (try dsimp only)) | walk1 | (dsimp only; walk1))
              exact LCg.CompEnd.intro (by assumption) ‹News g L' _ _› news (by rw [hrest]; walk_at "m_sub") (by rw [hrest]; walk_at "m_off") (by rw [hrest]; lcg_src) ⟨by rw [htk, List.filter_cons_of_neg (by rw [hok]; decide)]; simpa using hys, rfl⟩
        case fin2 =>
          rintro ys news ⟨hys, rfl⟩ D h tk F N o1
          rw [hrest] at N o1
          simp only [LCg.Off1, and_true] at o1
          repeat (obtain ⟨_, o1⟩ := o1)
          have hys2 : StrsAre ys (kindS.filter (okK ps.getLast?)) := hys
          clear hys
          repeat ((fail_if_success (with_reducible show wpAny _ _ (compareOp _ _ _) _ _ _)); first | (k_unfold; (try dsimp only)) | walk1 | (dsimp only; walk1))
          refine' ne_nilP_N ‹News g L' _ _› (by k_mem) (by k_mem) hps (fun mzp mzh => by k_mem) htab (by walk_at "m_lvl") ?_
          by_cases h0 : ps = []
          · have hle : ps.isEmpty = true := by rw [h0]; rfl
            rw [hle]
            repeat ((fail_if_success (with_reducible show CutEnd _ _ _)); first | (k_unfold; (try dsimp only)) | walk1 | (dsimp only; walk1))
            refine' ⟨rfl, ⟨_, _, D, _, _, _, rfl, Fr.cg ‹Fr g L' _ _› ?mp1, News.of ‹News g L' _ _› (by walk_at "m_sub"), hys2, by rw [h0]; decide, by rw [h0]; decide, by rw [h0]; decide, by k_ne⟩⟩
            case mp1 =>
              funext y
              by_cases h0 : y = Str.ofString "quote"
              · subst h0; rfl
              by_cases h1 : y = Str.ofString "text"
              · subst h1; rfl
              by_cases h2 : y = Str.ofString "heard"
              · subst h2; rfl
              by_cases h3 : y = Str.ofString "kind"
              · subst h3; rfl
              by_cases h4 : y = Str.ofString "kinds"
              · subst h4; rfl
              by_cases h5 : y = Str.ofString "turn"
              · subst h5; rfl
              by_cases h6 : y = Str.ofString "source"
              · subst h6; rfl
              simp only [if_neg h0, if_neg h1, if_neg h2, if_neg h3, if_neg h4, if_neg h5, if_neg h6]
          · have hle : ps.isEmpty = false := by cases ps with | nil => exact absurd rfl h0 | cons _ _ => rfl
            rw [hle]
            obtain ⟨T9, lk, lt, lh, tk9, tt9, th9, hv9, hl9, hm9⟩ := hps.last h0
            have hvl : 0 < vs.length := by rw [hps.len]; exact List.length_pos_iff.mpr h0
            repeat ((fail_if_success (with_reducible show wpAny _ _ (subscriptTail _ _ _ _) _ _ _)); first | (k_unfold; (try dsimp only)) | walk1 | (dsimp only; walk1))
            refine' itemneg_N ‹News g L' _ _› (by k_mem) hvl hv9 ?_
            repeat ((fail_if_success (with_reducible show wpAny _ _ (subscriptTail _ _ _ _) _ _ _)); first | (k_unfold; (try dsimp only)) | walk1 | (dsimp only; walk1))
            refine' tup_N ‹News g L' _ _› (by k_mem) (by decide) (by decide) (by exact rfl) ?_
            repeat ((fail_if_success (with_reducible show wpAny _ _ (truthy _) _ _ _)); first | (k_unfold; (try dsimp only)) | walk1 | (dsimp only; walk1))
            cases hB : ([Str.ofString "name", Str.ofString "token"].any fun x => x == lk) with
            | true =>
              have hnx := next_name (lt := lt) (lh := lh) hB
              repeat ((fail_if_success (with_reducible show wpAny _ _ (newList _) _ _ _)); first | (k_unfold; (try dsimp only)) | walk1 | (dsimp only; walk1))
              walk1
              repeat ((fail_if_success (with_reducible show CutEnd _ _ _)); first | (k_unfold; (try dsimp only)) | walk1 | (dsimp only; walk1))
              refine' ⟨rfl, ⟨_, _, _, _, _, _, rfl, Fr.cg ‹Fr g L' _ _› ?mp2, News.of ‹News g L' _ _› (by walk_at "m_sub"), .cons _ _ (.cons _ _ (.cons _ _ .nil)), by decide, by decide, by rw [hl9]; exact hnx, by k_ne⟩⟩
              case mp2 =>
                funext y
                by_cases h0 : y = Str.ofString "quote"
                · subst h0; rfl
                by_cases h1 : y = Str.ofString "text"
                · subst h1; rfl
                by_cases h2 : y = Str.ofString "heard"
                · subst h2; rfl
                by_cases h3 : y = Str.ofString "kind"
                · subst h3; rfl
                by_cases h4 : y = Str.ofString "kinds"
                · subst h4; rfl
                by_cases h5 : y = Str.ofString "turn"
                · subst h5; rfl
                by_cases h6 : y = Str.ofString "source"
                · subst h6; rfl
                simp only [if_neg h0, if_neg h1, if_neg h2, if_neg h3, if_neg h4, if_neg h5, if_neg h6]
            | false =>
              repeat ((fail_if_success (with_reducible show CutEnd _ _ _)); first | (k_unfold; (try dsimp only)) | walk1 | (dsimp only; walk1))
              refine' ⟨rfl, ⟨_, _, D, _, _, _, rfl, Fr.cg ‹Fr g L' _ _› ?mp3, News.of ‹News g L' _ _› (by walk_at "m_sub"), hys2, by rw [hl9]; exact kind_filter lk, Nat.le_trans (List.length_filter_le _ _) (by decide), fun k hk => ⟨(List.mem_filter.mp hk).1, by rw [hl9] at hk ⊢; exact next_some hB (List.mem_filter.mp hk).2⟩, by k_ne⟩⟩
              case mp3 =>
                funext y
                by_cases h0 : y = Str.ofString "quote"
                · subst h0; rfl
                by_cases h1 : y = Str.ofString "text"
                · subst h1; rfl
                by_cases h2 : y = Str.ofString "heard"
                · subst h2; rfl
                by_cases h3 : y = Str.ofString "kind"
                · subst h3; rfl
                by_cases h4 : y = Str.ofString "kinds"
                · subst h4; rfl
                by_cases h5 : y = Str.ofString "turn"
                · subst h5; rfl
                by_cases h6 : y = Str.ofString "source"
                · subst h6; rfl
                simp only [if_neg h0, if_neg h1, if_neg h2, if_neg h3, if_neg h4, if_neg h5, if_neg h6]
      case second =>
        clear F N
        rintro s' ⟨h, tk, D, vk, kk, nk, rfl, F, N, hkk, hk1, hk2, hkn, hDs⟩
        have hst := strsOf_of hkk
        have hvk : vk.length = kk.length := StrsAre.len_eq hkk
        have hk20 : ∀ s ∈ kk, s.length ≤ 20 := fun s hs => kind20 s (hkn s hs).1
        refine wpAny_execs_cons ?_
        with_reducible refine' cutP (fun s' => PcB s g src L' I i t it ((fl, listOf vs.toArray n2) :: (L' + 1, co) :: tp) ps D u4 u5 u6 s') ?first ?second
        rotate_left 1; (try dsimp only); rotate_right 1
        case' first => (try k_fold)
        case first =>
          repeat ((fail_if_success (with_reducible show CutEnd _ _ _)); first | (k_unfold; (try dsimp only)) | walk1 | (dsimp only; walk1))
          refine' ⟨rfl, ⟨_, _, s', _, _, _, _, _, _, rfl, Fr.cg ‹Fr g L' _ _› ?mp4, News.of ‹News g L' _ _› (by walk_at "m_sub"), (hkn s' hs').1, (hkn s' hs').2, ha', hb0', hb1'⟩⟩
          case mp4 =>
            funext y
            by_cases h0 : y = Str.ofString "quote"
            · subst h0; rfl
            by_cases h1 : y = Str.ofString "text"
            · subst h1; rfl
            by_cases h2 : y = Str.ofString "heard"
            · subst h2; rfl
            by_cases h3 : y = Str.ofString "kind"
            · subst h3; rfl
            by_cases h4 : y = Str.ofString "kinds"
            · subst h4; rfl
            by_cases h5 : y = Str.ofString "turn"
            · subst h5; rfl
            by_cases h6 : y = Str.ofString "source"
            · subst h6; rfl
            simp only [if_neg h0, if_neg h1, if_neg h2, if_neg h3, if_neg h4, if_neg h5, if_neg h6]
        case second =>
          clear F N ha hb0 hb1
          rintro s' ⟨h, tk, kd, tkd, a, b, ta, tb, n, rfl, F, N, hkd, hnx, ha, hb0, hb1⟩
          refine wpAny_execs_cons ?_
          with_reducible refine' cutP (fun s' => PcC s g src L' I i t it ((src, srcO a b ta tb n) :: (fl, listOf vs.toArray n2) :: (L' + 1, co) :: tp) D kd tkd u5 u6 s') ?first ?second
          rotate_left 1; (try dsimp only); rotate_right 1
          case' first => (try k_fold)
          case first =>
            repeat ((fail_if_success (with_reducible show wpAny _ _ (subscriptTail _ _ _ _) _ _ _)); first | (k_unfold; (try dsimp only)) | walk1 | (dsimp only; walk1))
            simp only [kindS, List.mem_cons, List.not_mem_nil, or_false] at hkd
            rcases hkd with rfl | rfl | rfl | rfl | rfl | rfl
            · walk1
              repeat ((fail_if_success (with_reducible show CutEnd _ _ _)); first | (k_unfold; (try dsimp only)) | walk1 | (dsimp only; walk1))
              obtain ⟨D9, e9⟩ := ledv (x := Str.ofString "heard") ‹Fr g L' _ _› (by exact rfl)
              subst e9
              refine' ⟨rfl, ⟨_, _, D9, _, _, rfl, Fr.cg ‹Fr g L' _ _› ?mpc0, News.of ‹News g L' _ _› (by walk_at "m_sub"), by rw [heard_name]; exact (.cons _ _ (.cons _ _ (.cons _ _ (.cons _ _ .nil)))), by k_ne⟩⟩
              case mpc0 =>
                funext y
                by_cases h0 : y = Str.ofString "quote"
                · subst h0; rfl
                by_cases h1 : y = Str.ofString "text"
                · subst h1; rfl
                by_cases h2 : y = Str.ofString "heard"
                · subst h2; rfl
                by_cases h3 : y = Str.ofString "kind"
                · subst h3; rfl
                by_cases h4 : y = Str.ofString "kinds"
                · subst h4; rfl
                by_cases h5 : y = Str.ofString "turn"
                · subst h5; rfl
                by_cases h6 : y = Str.ofString "source"
                · subst h6; rfl
                simp only [if_neg h0, if_neg h1, if_neg h2, if_neg h3, if_neg h4, if_neg h5, if_neg h6]
            · walk1
              repeat ((fail_if_success (with_reducible show CutEnd _ _ _)); first | (k_unfold; (try dsimp only)) | walk1 | (dsimp only; walk1))
              obtain ⟨D9, e9⟩ := ledv (x := Str.ofString "heard") ‹Fr g L' _ _› (by exact rfl)
              subst e9
              refine' ⟨rfl, ⟨_, _, D9, _, _, rfl, Fr.cg ‹Fr g L' _ _› ?mpc1, News.of ‹News g L' _ _› (by walk_at "m_sub"), by rw [heard_token]; exact (.cons _ _ (.cons _ _ (.cons _ _ (.cons _ _ .nil)))), by k_ne⟩⟩
              case mpc1 =>
                funext y
                by_cases h0 : y = Str.ofString "quote"
                · subst h0; rfl
                by_cases h1 : y = Str.ofString "text"
                · subst h1; rfl
                by_cases h2 : y = Str.ofString "heard"
                · subst h2; rfl
                by_cases h3 : y = Str.ofString "kind"
                · subst h3; rfl
                by_cases h4 : y = Str.ofString "kinds"
                · subst h4; rfl
                by_cases h5 : y = Str.ofString "turn"
                · subst h5; rfl
                by_cases h6 : y = Str.ofString "source"
                · subst h6; rfl
                simp only [if_neg h0, if_neg h1, if_neg h2, if_neg h3, if_neg h4, if_neg h5, if_neg h6]
            · walk1
              repeat ((fail_if_success (with_reducible show CutEnd _ _ _)); first | (k_unfold; (try dsimp only)) | walk1 | (dsimp only; walk1))
              obtain ⟨D9, e9⟩ := ledv (x := Str.ofString "heard") ‹Fr g L' _ _› (by exact rfl)
              subst e9
              refine' ⟨rfl, ⟨_, _, D9, _, _, rfl, Fr.cg ‹Fr g L' _ _› ?mpc2, News.of ‹News g L' _ _› (by walk_at "m_sub"), by rw [heard_spaces]; exact (.cons _ _ (.cons _ _ (.cons _ _ .nil))), by k_ne⟩⟩
              case mpc2 =>
                funext y
                by_cases h0 : y = Str.ofString "quote"
                · subst h0; rfl
                by_cases h1 : y = Str.ofString "text"
                · subst h1; rfl
                by_cases h2 : y = Str.ofString "heard"
                · subst h2; rfl
                by_cases h3 : y = Str.ofString "kind"
                · subst h3; rfl
                by_cases h4 : y = Str.ofString "kinds"
                · subst h4; rfl
                by_cases h5 : y = Str.ofString "turn"
                · subst h5; rfl
                by_cases h6 : y = Str.ofString "source"
                · subst h6; rfl
                simp only [if_neg h0, if_neg h1, if_neg h2, if_neg h3, if_neg h4, if_neg h5, if_neg h6]
            · walk1
              repeat ((fail_if_success (with_reducible show CutEnd _ _ _)); first | (k_unfold; (try dsimp only)) | walk1 | (dsimp only; walk1))
              obtain ⟨D9, e9⟩ := ledv (x := Str.ofString "heard") ‹Fr g L' _ _› (by exact rfl)
              subst e9
              refine' ⟨rfl, ⟨_, _, D9, _, _, rfl, Fr.cg ‹Fr g L' _ _› ?mpc3, News.of ‹News g L' _ _› (by walk_at "m_sub"), by rw [heard_quoted]; exact (.cons _ _ (.cons _ _ (.cons _ _ (.cons _ _ .nil)))), by k_ne⟩⟩
              case mpc3 =>
                funext y
                by_cases h0 : y = Str.ofString "quote"
                · subst h0; rfl
                by_cases h1 : y = Str.ofString "text"
                · subst h1; rfl
                by_cases h2 : y = Str.ofString "heard"
                · subst h2; rfl
                by_cases h3 : y = Str.ofString "kind"
                · subst h3; rfl
                by_cases h4 : y = Str.ofString "kinds"
                · subst h4; rfl
                by_cases h5 : y = Str.ofString "turn"
                · subst h5; rfl
                by_cases h6 : y = Str.ofString "source"
                · subst h6; rfl
                simp only [if_neg h0, if_neg h1, if_neg h2, if_neg h3, if_neg h4, if_neg h5, if_neg h6]
            · walk1
              repeat ((fail_if_success (with_reducible show CutEnd _ _ _)); first | (k_unfold; (try dsimp only)) | walk1 | (dsimp only; walk1))
              obtain ⟨D9, e9⟩ := ledv (x := Str.ofString "heard") ‹Fr g L' _ _› (by exact rfl)
              subst e9
              refine' ⟨rfl, ⟨_, _, D9, _, _, rfl, Fr.cg ‹Fr g L' _ _› ?mpc4, News.of ‹News g L' _ _› (by walk_at "m_sub"), by rw [heard_word]; exact (.cons _ _ (.cons _ _ (.cons _ _ (.cons _ _ .nil)))), by k_ne⟩⟩
              case mpc4 =>
                funext y
                by_cases h0 : y = Str.ofString "quote"
                · subst h0; rfl
                by_cases h1 : y = Str.ofString "text"
                · subst h1; rfl
                by_cases h2 : y = Str.ofString "heard"
                · subst h2; rfl
                by_cases h3 : y = Str.ofString "kind"
                · subst h3; rfl
                by_cases h4 : y = Str.ofString "kinds"
                · subst h4; rfl
                by_cases h5 : y = Str.ofString "turn"
                · subst h5; rfl
                by_cases h6 : y = Str.ofString "source"
                · subst h6; rfl
                simp only [if_neg h0, if_neg h1, if_neg h2, if_neg h3, if_neg h4, if_neg h5, if_neg h6]
            · walk1
              repeat ((fail_if_success (with_reducible show CutEnd _ _ _)); first | (k_unfold; (try dsimp only)) | walk1 | (dsimp only; walk1))
              obtain ⟨D9, e9⟩ := ledv (x := Str.ofString "heard") ‹Fr g L' _ _› (by exact rfl)
              subst e9
              refine' ⟨rfl, ⟨_, _, D9, _, _, rfl, Fr.cg ‹Fr g L' _ _› ?mpc5, News.of ‹News g L' _ _› (by walk_at "m_sub"), by rw [heard_until]; exact (.cons _ _ (.cons _ _ (.cons _ _ .nil))), by k_ne⟩⟩
              case mpc5 =>
                funext y
                by_cases h0 : y = Str.ofString "quote"
                · subst h0; rfl
                by_cases h1 : y = Str.ofString "text"
                · subst h1; rfl
                by_cases h2 : y = Str.ofString "heard"
                · subst h2; rfl
                by_cases h3 : y = Str.ofString "kind"
                · subst h3; rfl
                by_cases h4 : y = Str.ofString "kinds"
                · subst h4; rfl
                by_cases h5 : y = Str.ofString "turn"
                · subst h5; rfl
                by_cases h6 : y = Str.ofString "source"
                · subst h6; rfl
                simp only [if_neg h0, if_neg h1, if_neg h2, if_neg h3, if_neg h4, if_neg h5, if_neg h6]
          case second =>
            clear F N
            rintro s' ⟨h, tk, D2, vk, nk, rfl, F, N, hvk2, hDs⟩
            have hst := strsOf_of hvk2
            have hvl := heard_len hkd
            have hvk : vk.length = (heardS kd).length := StrsAre.len_eq hvk2
            have hk20 := heard20 hkd
            refine wpAny_execs_cons ?_
            with_reducible refine' cutP (fun s' => PcD s g src L' I i t it ((fl, listOf vs.toArray n2) :: (L' + 1, co) :: tp) D D2 kd tkd u6 s') ?first ?second
            rotate_left 1; (try dsimp only); rotate_right 1
            case' first => (try k_fold)
            case first =>
              repeat ((fail_if_success (with_reducible show CutEnd _ _ _)); first | (k_unfold; (try dsimp only)) | walk1 | (dsimp only; walk1))
              refine' ⟨rfl, ⟨_, _, s', _, _, _, _, _, _, _, rfl, Fr.cg ‹Fr g L' _ _› ?mp5, News.of ‹News g L' _ _› (by walk_at "m_sub"), hs', ha', hb0', hb1'⟩⟩
              case mp5 =>
                funext y
                by_cases h0 : y = Str.ofString "quote"
                · subst h0; rfl
                by_cases h1 : y = Str.ofString "text"
                · subst h1; rfl
                by_cases h2 : y = Str.ofString "heard"
                · subst h2; rfl
                by_cases h3 : y = Str.ofString "kind"
                · subst h3; rfl
                by_cases h4 : y = Str.ofString "kinds"
                · subst h4; rfl
                by_cases h5 : y = Str.ofString "turn"
                · subst h5; rfl
                by_cases h6 : y = Str.ofString "source"
                · subst h6; rfl
                simp only [if_neg h0, if_neg h1, if_neg h2, if_neg h3, if_neg h4, if_neg h5, if_neg h6]
            case second =>
              clear F N ha hb0 hb1
              rintro s' ⟨h, tk, hd, thd, tte, a, b, ta, tb, n, rfl, F, N, hhd, ha, hb0, hb1⟩
              have hd20 := hk20 hd hhd
              clear hst hvl hvk hk20 hvk2
              cases h1 : (kd == Str.ofString "quoted") with
              | true =>
                obtain rfl := eq_of_beq h1
                rw [heard_quoted] at hhd
                clear h1
                have hv6 : vs.length ≤ 6 := by rw [hps.len]; have := hd9.it; walk_at "om"
                repeat ((fail_if_success (with_reducible show wpAny _ _ (truthy _) _ _ _)); first | (k_unfold; (try dsimp only)) | walk1 | (dsimp only; walk1))
                cases hcn : (!(Builtin.Str.occurrences hd (Str.ofString "'") 0 hd.length 1).isEmpty) with
                | true =>
                  repeat ((fail_if_success (with_reducible show wpAny _ _ (call (Value.builtin _) _) _ _ _)); walk1)
                  obtain ⟨T9, eT⟩ := ledh ‹News g L' _ _›
                  subst eT
                  refine' append_K ‹Fr g L' _ _› ‹News g L' _ _› (by k_upd) ?_ (by rw [sizeLine_eq, List.size_toArray]; walk_at "om")
                  intro h' F' N'
                  (try dsimp only)
                  k_sweep
                  have N9 := ‹News g L' _ _›
                  rw [List.push_toArray] at N9
                  obtain ⟨hc9, ht9⟩ := chain_snoc hch htab hnx (tab_q1 hd hhd)
                  repeat ((fail_if_success (with_reducible show UnrEnd _ _ _ _ _ _ _)); first | (k_unfold; (try dsimp only)) | walk1 | (dsimp only; walk1))
                  refine' UnrEnd.intro (by assumption) N9 ((src, srcO _ _ _ _ _) :: (fl, listOf (vs ++ [Value.ref T9]).toArray _) :: (L' + 1, co) :: (tp ++ [(T9, _)])) (sub4 (by k_mem) (by k_mem) (by k_mem) (by k_mem) (fun mzp mzh => by k_mem) (by k_mem)) (off3 (by k_ne) (by k_ne) (by k_ne) (by assumption) (by k_ne)) ⟨_, _, _, _, _, _, fl, co, _, _, _, _, _, _, _, _, _, ?mz, rfl, by assumption, hps.snoc _ _ _ _ _ _ _, ht9, hc9, by rw [List.length_append]; simp; walk_at "om", by assumption, by assumption, by assumption, e1, e2, e3, e4, e5, tail_snoc t1 (by k_ne), tail_snoc t2 (by k_ne), tail_snoc t3 (by k_ne)⟩
                  case mz =>
                    funext y
                    by_cases h0 : y = Str.ofString "quote"
                    · subst h0; rfl
                    by_cases h1 : y = Str.ofString "text"
                    · subst h1; rfl
                    by_cases h2 : y = Str.ofString "heard"
                    · subst h2; rfl
                    by_cases h3 : y = Str.ofString "kind"
                    · subst h3; rfl
                    by_cases h4 : y = Str.ofString "kinds"
                    · subst h4; rfl
                    by_cases h5 : y = Str.ofString "turn"
                    · subst h5; rfl
                    by_cases h6 : y = Str.ofString "source"
                    · subst h6; rfl
                    simp only [if_neg h0, if_neg h1, if_neg h2, if_neg h3, if_neg h4, if_neg h5, if_neg h6]
                | false =>
                  have hne : hd ≠ Str.ofString "a'b" := by rintro rfl; exact absurd hcn (by decide +kernel)
                  repeat ((fail_if_success (with_reducible show wpAny _ _ (compareOp _ _ _) _ _ _)); first | (k_unfold; (try dsimp only)) | walk1 | (dsimp only; walk1))
                  k_steps
                  · obtain ⟨T9, eT⟩ := ledh ‹News g L' _ _›
                    subst eT
                    have N9 := ‹News g L' _ _›
                    rw [List.push_toArray] at N9
                    obtain ⟨hc9, ht9⟩ := chain_snoc hch htab hnx (tab_q1 hd hhd)
                    refine' UnrEnd.intro (by assumption) N9 ((src, srcO _ _ _ _ _) :: (fl, listOf (vs ++ [Value.ref T9]).toArray _) :: (L' + 1, co) :: (tp ++ [(T9, _)])) (sub4 (by k_mem) (by k_mem) (by k_mem) (by k_mem) (fun mzp mzh => by k_mem) (by k_mem)) (off3 (by k_ne) (by k_ne) (by k_ne) (by assumption) (by k_ne)) ⟨_, _, _, _, _, _, fl, co, _, _, _, _, _, _, _, _, _, ?mz, rfl, by assumption, hps.snoc _ _ _ _ _ _ _, ht9, hc9, by rw [List.length_append]; simp; walk_at "om", by assumption, by assumption, by assumption, e1, e2, e3, e4, e5, tail_snoc t1 (by k_ne), tail_snoc t2 (by k_ne), tail_snoc t3 (by k_ne)⟩
                    case mz =>
                      funext y
                      by_cases h0 : y = Str.ofString "quote"
                      · subst h0; rfl
                      by_cases h1 : y = Str.ofString "text"
                      · subst h1; rfl
                      by_cases h2 : y = Str.ofString "heard"
                      · subst h2; rfl
                      by_cases h3 : y = Str.ofString "kind"
                      · subst h3; rfl
                      by_cases h4 : y = Str.ofString "kinds"
                      · subst h4; rfl
                      by_cases h5 : y = Str.ofString "turn"
                      · subst h5; rfl
                      by_cases h6 : y = Str.ofString "source"
                      · subst h6; rfl
                      simp only [if_neg h0, if_neg h1, if_neg h2, if_neg h3, if_neg h4, if_neg h5, if_neg h6]
                  · obtain ⟨T9, eT⟩ := ledh ‹News g L' _ _›
                    subst eT
                    have N9 := ‹News g L' _ _›
                    rw [List.push_toArray] at N9
                    obtain ⟨hc9, ht9⟩ := chain_snoc hch htab hnx (tab_q2 hd hhd hne)
                    refine' UnrEnd.intro (by assumption) N9 ((src, srcO _ _ _ _ _) :: (fl, listOf (vs ++ [Value.ref T9]).toArray _) :: (L' + 1, co) :: (tp ++ [(T9, _)])) (sub4 (by k_mem) (by k_mem) (by k_mem) (by k_mem) (fun mzp mzh => by k_mem) (by k_mem)) (off3 (by k_ne) (by k_ne) (by k_ne) (by assumption) (by k_ne)) ⟨_, _, _, _, _, _, fl, co, _, _, _, _, _, _, _, _, _, ?mz, rfl, by assumption, hps.snoc _ _ _ _ _ _ _, ht9, hc9, by rw [List.length_append]; simp; walk_at "om", by assumption, by assumption, by assumption, e1, e2, e3, e4, e5, tail_snoc t1 (by k_ne), tail_snoc t2 (by k_ne), tail_snoc t3 (by k_ne)⟩
                    case mz =>
                      funext y
                      by_cases h0 : y = Str.ofString "quote"
                      · subst h0; rfl
                      by_cases h1 : y = Str.ofString "text"
                      · subst h1; rfl
                      by_cases h2 : y = Str.ofString "heard"
                      · subst h2; rfl
                      by_cases h3 : y = Str.ofString "kind"
                      · subst h3; rfl
                      by_cases h4 : y = Str.ofString "kinds"
                      · subst h4; rfl
                      by_cases h5 : y = Str.ofString "turn"
                      · subst h5; rfl
                      by_cases h6 : y = Str.ofString "source"
                      · subst h6; rfl
                      simp only [if_neg h0, if_neg h1, if_neg h2, if_neg h3, if_neg h4, if_neg h5, if_neg h6]
              | false =>
              cases h2 : (kd == Str.ofString "until") with
              | true =>
                obtain rfl := eq_of_beq h2
                rw [heard_until] at hhd
                clear h1 h2
                have hv6 : vs.length ≤ 6 := by rw [hps.len]; have := hd9.it; walk_at "om"
                repeat ((fail_if_success (with_reducible show wpAny _ _ (call (Value.builtin _) _) _ _ _)); walk1)
                obtain ⟨T9, eT⟩ := ledh ‹News g L' _ _›
                subst eT
                refine' append_K ‹Fr g L' _ _› ‹News g L' _ _› (by k_upd) ?_ (by rw [sizeLine_eq, List.size_toArray]; walk_at "om")
                intro h' F' N'
                (try dsimp only)
                k_sweep
                have N9 := ‹News g L' _ _›
                rw [List.push_toArray] at N9
                obtain ⟨hc9, ht9⟩ := chain_snoc hch htab hnx (tab_until hd hhd)
                repeat ((fail_if_success (with_reducible show UnrEnd _ _ _ _ _ _ _)); first | (k_unfold; (try dsimp only)) | walk1 | (dsimp only; walk1))
                refine' UnrEnd.intro (by assumption) N9 ((src, srcO _ _ _ _ _) :: (fl, listOf (vs ++ [Value.ref T9]).toArray _) :: (L' + 1, co) :: (tp ++ [(T9, _)])) (sub4 (by k_mem) (by k_mem) (by k_mem) (by k_mem) (fun mzp mzh => by k_mem) (by k_mem)) (off3 (by k_ne) (by k_ne) (by k_ne) (by assumption) (by k_ne)) ⟨_, _, _, _, _, _, fl, co, _, _, _, _, _, _, _, _, _, ?mz, rfl, by assumption, hps.snoc _ _ _ _ _ _ _, ht9, hc9, by rw [List.length_append]; simp; walk_at "om", by assumption, by assumption, by assumption, e1, e2, e3, e4, e5, tail_snoc t1 (by k_ne), tail_snoc t2 (by k_ne), tail_snoc t3 (by k_ne)⟩
                case mz =>
                  funext y
                  by_cases h0 : y = Str.ofString "quote"
                  · subst h0; rfl
                  by_cases h1 : y = Str.ofString "text"
                  · subst h1; rfl
                  by_cases h2 : y = Str.ofString "heard"
                  · subst h2; rfl
                  by_cases h3 : y = Str.ofString "kind"
                  · subst h3; rfl
                  by_cases h4 : y = Str.ofString "kinds"
                  · subst h4; rfl
                  by_cases h5 : y = Str.ofString "turn"
                  · subst h5; rfl
                  by_cases h6 : y = Str.ofString "source"
                  · subst h6; rfl
                  simp only [if_neg h0, if_neg h1, if_neg h2, if_neg h3, if_neg h4, if_neg h5, if_neg h6]
              | false =>
                have hv6 : vs.length ≤ 6 := by rw [hps.len]; have := hd9.it; walk_at "om"
                repeat ((fail_if_success (with_reducible show wpAny _ _ (truthy _) _ _ _)); first | (k_unfold; (try dsimp only)) | walk1 | (dsimp only; walk1))
                rw [h1]
                walk1
                repeat ((fail_if_success (with_reducible show wpAny _ _ (truthy _) _ _ _)); first | (k_unfold; (try dsimp only)) | walk1 | (dsimp only; walk1))
                rw [h1]
                walk1
                repeat ((fail_if_success (with_reducible show wpAny _ _ (call (Value.type _) _) _ _ _)); first | (k_unfold; (try dsimp only)) | walk1 | (dsimp only; walk1))
                rw [h2]
                repeat ((fail_if_success (with_reducible show wpAny _ _ (call (Value.builtin _) _) _ _ _)); first | (k_unfold; (try dsimp only)) | walk1 | (dsimp only; walk1))
                obtain ⟨T9, eT⟩ := ledh ‹News g L' _ _›
                subst eT
                refine' append_K ‹Fr g L' _ _› ‹News g L' _ _› (by k_upd) ?_ (by rw [sizeLine_eq, List.size_toArray]; walk_at "om")
                intro h' F' N'
                (try dsimp only)
                k_sweep
                have N9 := ‹News g L' _ _›
                rw [List.push_toArray] at N9
                obtain ⟨hc9, ht9⟩ := chain_snoc hch htab hnx (tab_plain hkd h1 h2 hhd)
                repeat ((fail_if_success (with_reducible show UnrEnd _ _ _ _ _ _ _)); first | (k_unfold; (try dsimp only)) | walk1 | (dsimp only; walk1))
                refine' UnrEnd.intro (by assumption) N9 ((src, srcO _ _ _ _ _) :: (fl, listOf (vs ++ [Value.ref T9]).toArray _) :: (L' + 1, co) :: (tp ++ [(T9, _)])) (sub4 (by k_mem) (by k_mem) (by k_mem) (by k_mem) (fun mzp mzh => by k_mem) (by k_mem)) (off3 (by k_ne) (by k_ne) (by k_ne) (by assumption) (by k_ne)) ⟨_, _, _, _, _, _, fl, co, _, _, _, _, _, _, _, _, _, ?mz, rfl, by assumption, hps.snoc _ _ _ _ _ _ _, ht9, hc9, by rw [List.length_append]; simp; walk_at "om", by assumption, by assumption, by assumption, e1, e2, e3, e4, e5, tail_snoc t1 (by k_ne), tail_snoc t2 (by k_ne), tail_snoc t3 (by k_ne)⟩
                case mz =>
                  funext y
                  by_cases h0 : y = Str.ofString "quote"
                  · subst h0; rfl
                  by_cases h1 : y = Str.ofString "text"
                  · subst h1; rfl
                  by_cases h2 : y = Str.ofString "heard"
                  · subst h2; rfl
                  by_cases h3 : y = Str.ofString "kind"
                  · subst h3; rfl
                  by_cases h4 : y = Str.ofString "kinds"
                  · subst h4; rfl
                  by_cases h5 : y = Str.ofString "turn"
                  · subst h5; rfl
                  by_cases h6 : y = Str.ofString "source"
                  · subst h6; rfl
                  simp only [if_neg h0, if_neg h1, if_neg h2, if_neg h3, if_neg h4, if_neg h5, if_neg h6]
    case fin =>
      rintro m news h₂ tk₂ ⟨u1, u2, u3, u4, u5, u6, fl, co, vs, ps, tp, n2, a, b, ta, tb, n, rfl, rfl, dc, hps, htab, hch, hpl, ha, hb0, hb1, e1, e2, e3, e4, e5, t1, t2, t3⟩ F N
      replace F : Fr g L' _ _ := F
      replace N : News g L' _ _ := N
      have := hd9.it
      k_steps
      (try dsimp only)
      refine' hQ _ _ (con_endF (s := s) ((src, srcO a b ta tb n) :: (fl, listOf vs.toArray n2) :: tp) k C gr (by assumption) (by assumption) (by simp) ?nw ⟨fl, vs, ps, tp, n2, a, b, ta, tb, n, rfl, rfl, hps, htab, hch, by walk_at "om", ha, hb0, hb1⟩)
      have own1 : ∀ (o : Obj) (x : Addr), x ≠ src → ∀ p ∈ [(src, o)], p.1 ≠ x := fun o x hx p hp => by rw [List.mem_singleton.mp hp]; exact hx.symm
      refine List.forall_mem_cons.mpr ⟨⟨by k_mem, .inl (.head _)⟩, List.forall_mem_cons.mpr ⟨⟨by k_mem, .inr (own1 _ _ e1)⟩, fun q hq => ⟨by k_mem, .inr (own1 _ _ (t1 q hq))⟩⟩⟩
end
set_option maxRecDepth 100000
set_option maxHeartbeats 8000000
theorem ln24 : True := by
  k_with_none
  k_with "M subscriptTail Name Constant ref int" => (k_here; (with_reducible show wpAny _ _ (subscriptTail _ _ (Value.ref _) (Value.int _ _)) _ _ _); k_dflt (refine' Mine.item_N ?k0 ?k1 ?k2 ?k3 ?k4 ?_ ?k6; (case k0 => k_asm); (case k1 => k_mem); (case k2 => decide); (case k3 => decide); (case k4 => rfl); (case k6 => with_unfolding_all rfl); k_whole))
  k_with "M m_new" => first | exact List.forall_mem_nil _ | (refine' List.forall_mem_cons.mpr ⟨And.intro ?mzA ?mzB, ?mzC⟩; (case mzA => k_mem); (case mzB => (try dsimp only); first | exact Or.inl (by k_mem) | exact Or.inr (by walk_at "m_all")); (case mzC => walk_at "m_new"))
  k_with "M m_spl" => first | exact Mine.Spl.head | exact (Mine.Spl.tail Mine.Spl.head) | exact (Mine.Spl.tail (Mine.Spl.tail Mine.Spl.head)) | exact (Mine.Spl.tail (Mine.Spl.tail (Mine.Spl.tail Mine.Spl.head))) | exact (Mine.Spl.tail (Mine.Spl.tail (Mine.Spl.tail (Mine.Spl.tail Mine.Spl.head)))) | exact (Mine.Spl.tail (Mine.Spl.tail (Mine.Spl.tail (Mine.Spl.tail (Mine.Spl.tail Mine.Spl.head))))) | exact (Mine.Spl.tail (Mine.Spl.tail (Mine.Spl.tail (Mine.Spl.tail (Mine.Spl.tail (Mine.Spl.tail Mine.Spl.head)))))) | exact (Mine.Spl.tail (Mine.Spl.tail (Mine.Spl.tail (Mine.Spl.tail (Mine.Spl.tail (Mine.Spl.tail (Mine.Spl.tail Mine.Spl.head))))))) | exact (Mine.Spl.tail (Mine.Spl.tail (Mine.Spl.tail (Mine.Spl.tail (Mine.Spl.tail (Mine.Spl.tail (Mine.Spl.tail (Mine.Spl.tail Mine.Spl.head)))))))) | exact (Mine.Spl.tail (Mine.Spl.tail (Mine.Spl.tail (Mine.Spl.tail (Mine.Spl.tail (Mine.Spl.tail (Mine.Spl.tail (Mine.Spl.tail (Mine.Spl.tail Mine.Spl.head))))))))) | exact (Mine.Spl.tail (Mine.Spl.tail (Mine.Spl.tail (Mine.Spl.tail (Mine.Spl.tail (Mine.Spl.tail (Mine.Spl.tail (Mine.Spl.tail (Mine.Spl.tail (Mine.Spl.tail Mine.Spl.head)))))))))) | exact (Mine.Spl.tail (Mine.Spl.tail (Mine.Spl.tail (Mine.Spl.tail (Mine.Spl.tail (Mine.Spl.tail (Mine.Spl.tail (Mine.Spl.tail (Mine.Spl.tail (Mine.Spl.tail (Mine.Spl.tail Mine.Spl.head))))))))))) | exact (Mine.Spl.tail (Mine.Spl.tail (Mine.Spl.tail (Mine.Spl.tail (Mine.Spl.tail (Mine.Spl.tail (Mine.Spl.tail (Mine.Spl.tail (Mine.Spl.tail (Mine.Spl.tail (Mine.Spl.tail (Mine.Spl.tail Mine.Spl.head)))))))))))) | exact (Mine.Spl.tail (Mine.Spl.tail (Mine.Spl.tail (Mine.Spl.tail (Mine.Spl.tail (Mine.Spl.tail (Mine.Spl.tail (Mine.Spl.tail (Mine.Spl.tail (Mine.Spl.tail (Mine.Spl.tail (Mine.Spl.tail (Mine.Spl.tail Mine.Spl.head)))))))))))))
  k_with "M m_own" => first | exact List.forall_mem_nil _ | (refine' List.forall_mem_cons.mpr ⟨?mzA, ?mzB⟩; (case mzA => k_mem); (case mzB => walk_at "m_own"))
  k_with "M m_lvl" => first | exact lv_le 3 rfl (by assumption) rfl | exact lv_le 1 rfl (by assumption) rfl | exact lv_le 0 rfl (by assumption) rfl | exact lv_le 2 rfl (by assumption) rfl | ((try simp only [depth_under_make, depth_under_kw, depth_in1, depth_deeper, units_in1, units_deeper, units_under_make, Around.mark_units]); (try dsimp only); omega)
  k_with "M call builtin:len" => (k_here; (with_reducible show wpAny _ _ (call (Value.builtin "len") [Value.ref _]) _ _ _); k_dflt (refine' Mine.len_N ?k0 ?k1 ?k2 ?_; (case k0 => k_asm); (case k1 => k_mem); (case k2 => (try simp only [List.length_cons, List.length_nil]); omega); k_whole))
  k_with "M m_ne0" => (replace l1 := ne0_of l1; (try simp only [NewNe0, AllNe, and_true, and_assoc] at l1); (repeat (have := And.left l1; replace l1 := And.right l1)))
  k_with "M m_ne1" => (replace l1 := ne1_of l1; (try simp only [NewNe1, AllNe, and_true, true_or, true_and, and_assoc] at l1); (repeat (have := And.left l1; replace l1 := And.right l1)))
  k_with "M exec Raise some none" => (k_here; k_dflt (refine' Mine.raise_stmt ?hh ?_; (case hh => first | rfl | assumption)))
  k_with "M pyIter ref" => ((with_reducible show wpAny _ _ _ (fun it s₂ => UnrAt _ _ _ _ _ _ _ _ _ it s₂) _ _); (k_dflt (refine' Iter_tuple_unr ?hh ?ht ?F ?N ?htL ?_; (case F => k_asm); (case N => k_asm); (case hh => assumption); (case ht => exact News.isTup (by assumption) (by k_mem)); (case htL => exact News.ne_locals (by assumption) (by k_mem)))))
  k_with "M eval Name" => (k_here; (with_reducible show wpAny _ _ (eval (Expr.Name _ _) (envOfC _ _ _ _ _)) _ _ _); k_dflt (refine' nameX_L ?nxF ?nxV ?_; (case nxF => k_asm); (case nxV => rfl); k_whole))
  k_with "M m_sub" => first | exact List.forall_mem_nil _ | (refine' List.forall_mem_cons.mpr ⟨?mzA, ?mzB⟩; (case mzA => k_mem); (case mzB => walk_at "m_sub")) | (intro mzp mzh; k_mem)
  k_with "M m_off" => first | exact True.intro | assumption | (refine And.intro ⟨by k_ne, by k_ne, by k_ne⟩ ?_; walk_at "m_off")
  k_with "M m_same" => first | exact List.forall_mem_nil _ | (refine' List.forall_mem_cons.mpr ⟨?mzA, ?mzB⟩; (case mzA => (try dsimp only); first | exact Or.inl (by k_mem) | exact Or.inr (by k_mem)); (case mzB => walk_at "m_same")) | simp
  k_with "M m_all" => first | exact List.forall_mem_nil _ | (refine' List.forall_mem_cons.mpr ⟨?mzA, ?mzB⟩; (case mzA => k_ne); (case mzB => walk_at "m_all")) | assumption
  k_with "M om" => first | ((repeat (with_reducible rename (_ ≠ _) => hz9; clear hz9)); omega) | omega
  k_with "M m_ltp" => first | with_reducible assumption | (with_reducible rename (_ < _ ∧ _) => hq9; first | with_reducible exact hq9.1 | with_reducible exact hq9.2.1 | with_reducible exact hq9.2.2.1 | with_reducible exact hq9.2.2.2.1 | with_reducible exact hq9.2.2.2.2.1 | with_reducible exact hq9.2.2.2.2.2.1 | with_reducible exact hq9.2 | with_reducible exact hq9.2.2 | with_reducible exact hq9.2.2.2 | with_reducible exact hq9.2.2.2.2 | with_reducible exact hq9.2.2.2.2.2 | (clear hq9; walk_at "m_ltp"))
  k_with "M m_nel" => first | exact Nat.ne_of_lt (by walk_at "m_ltp") | exact Nat.ne_of_gt (by walk_at "m_ltp") | exact ne_lt_k 1 rfl (by walk_at "m_ltp") | exact ne_lt_k 2 rfl (by walk_at "m_ltp") | exact ne_lt_k 3 rfl (by walk_at "m_ltp") | exact ne_lt_k 4 rfl (by walk_at "m_ltp") | exact ne_gt_k 1 rfl (by walk_at "m_ltp") | exact ne_gt_k 2 rfl (by walk_at "m_ltp") | exact ne_gt_k 3 rfl (by walk_at "m_ltp") | exact ne_gt_k 4 rfl (by walk_at "m_ltp")
  k_with "M execs cons" => (k_here; (try k_gentoks); (with_reducible refine wpAny_execs_cons ?_); (try k_fold); (try dsimp only))
  k_with "M call ref" => (k_here; (with_reducible show wpAny _ _ (call (Value.ref 169) _) _ _ _); (k_dflt (refine' use12 (spaces_con ?G _ _ _ _ _ _ _ _ ?t1 ?t2) ?F ?N ?st ?d ?u ?h ?o ?sp ?ne ?_; (case F => k_asm); (case N => k_asm); (case o => walk_at "m_own"); (case sp => walk_at "m_spl"); (case ne => walk_at "m_all"); (case st => assumption); (case d => walk_at "m_lvl"); (case u => walk_at "m_lvl"); (case h => assumption); (try (case G => assumption)); (all_goals (try (case t1 => first | omega | decide | assumption))); (all_goals (try (case t2 => first | omega | decide | assumption))); (all_goals (try (case t3 => first | omega | decide | assumption))); (all_goals (try (case t4 => first | omega | decide | assumption))); (all_goals (try (case t5 => first | omega | decide | assumption))); (all_goals (try (case a1 => assumption))); (all_goals (try (case a2 => assumption))); (all_goals (try (case a3 => assumption))); k_whole)); intro t2' tv' h' tk' F' N'; (try dsimp only); (try k_sweep))
  k_with "M call ref" => (k_here; (with_reducible show wpAny _ _ (call (Value.ref 197) _) _ _ _); (k_dflt (refine' use12 (name_con ?G _ _ _ _ _ _ _ _ ?t1 ?t2 ?a1 ?a2 ?a3) ?F ?N ?st ?d ?u ?h ?o ?sp ?ne ?_; (case F => k_asm); (case N => k_asm); (case o => walk_at "m_own"); (case sp => walk_at "m_spl"); (case ne => walk_at "m_all"); (case st => assumption); (case d => walk_at "m_lvl"); (case u => walk_at "m_lvl"); (case h => assumption); (try (case G => assumption)); (all_goals (try (case t1 => first | omega | decide | assumption))); (all_goals (try (case t2 => first | omega | decide | assumption))); (all_goals (try (case t3 => first | omega | decide | assumption))); (all_goals (try (case t4 => first | omega | decide | assumption))); (all_goals (try (case t5 => first | omega | decide | assumption))); (all_goals (try (case a1 => assumption))); (all_goals (try (case a2 => assumption))); (all_goals (try (case a3 => assumption))); k_whole)); intro t2' tv' h' tk' F' N'; (try dsimp only); (try k_sweep))
  k_with "M call ref" => (k_here; (with_reducible show wpAny _ _ (call (Value.ref 190) _) _ _ _); (k_dflt (refine' use12 (token_con ?G _ _ _ _ _ _ _ _ ?t1 ?t2 ?a1 ?t3) ?F ?N ?st ?d ?u ?h ?o ?sp ?ne ?_; (case F => k_asm); (case N => k_asm); (case o => walk_at "m_own"); (case sp => walk_at "m_spl"); (case ne => walk_at "m_all"); (case st => assumption); (case d => walk_at "m_lvl"); (case u => walk_at "m_lvl"); (case h => assumption); (try (case G => assumption)); (all_goals (try (case t1 => first | omega | decide | assumption))); (all_goals (try (case t2 => first | omega | decide | assumption))); (all_goals (try (case t3 => first | omega | decide | assumption))); (all_goals (try (case t4 => first | omega | decide | assumption))); (all_goals (try (case t5 => first | omega | decide | assumption))); (all_goals (try (case a1 => assumption))); (all_goals (try (case a2 => assumption))); (all_goals (try (case a3 => assumption))); k_whole)); intro t2' tv' h' tk' F' N'; (try dsimp only); (try k_sweep))
  k_with "M call ref" => (k_here; (with_reducible show wpAny _ _ (call (Value.ref 211) _) _ _ _); (k_dflt (refine' use12 (quoted1_con ?G _ _ _ _ _ _ _ _ _ ?t1 ?t2 ?a1 ?a2 ?t3 ?t4) ?F ?N ?st ?d ?u ?h ?o ?sp ?ne ?_; (case F => k_asm); (case N => k_asm); (case o => walk_at "m_own"); (case sp => walk_at "m_spl"); (case ne => walk_at "m_all"); (case st => assumption); (case d => walk_at "m_lvl"); (case u => walk_at "m_lvl"); (case h => assumption); (try (case G => assumption)); (all_goals (try (case t1 => first | omega | decide | assumption))); (all_goals (try (case t2 => first | omega | decide | assumption))); (all_goals (try (case t3 => first | omega | decide | assumption))); (all_goals (try (case t4 => first | omega | decide | assumption))); (all_goals (try (case t5 => first | omega | decide | assumption))); (all_goals (try (case a1 => assumption))); (all_goals (try (case a2 => assumption))); (all_goals (try (case a3 => assumption))); k_whole)); intro t2' tv' h' tk' F' N'; (try dsimp only); (try k_sweep))
  k_with "M call ref" => (k_here; (with_reducible show wpAny _ _ (call (Value.ref 211) _) _ _ _); (k_dflt (refine' use12 (quoted2_con ?G _ _ _ _ _ _ _ _ _ ?t1 ?t2 ?a1 ?a2 ?a3 ?t3 ?t4) ?F ?N ?st ?d ?u ?h ?o ?sp ?ne ?_; (case F => k_asm); (case N => k_asm); (case o => walk_at "m_own"); (case sp => walk_at "m_spl"); (case ne => walk_at "m_all"); (case st => assumption); (case d => walk_at "m_lvl"); (case u => walk_at "m_lvl"); (case h => assumption); (try (case G => assumption)); (all_goals (try (case t1 => first | omega | decide | assumption))); (all_goals (try (case t2 => first | omega | decide | assumption))); (all_goals (try (case t3 => first | omega | decide | assumption))); (all_goals (try (case t4 => first | omega | decide | assumption))); (all_goals (try (case t5 => first | omega | decide | assumption))); (all_goals (try (case a1 => assumption))); (all_goals (try (case a2 => assumption))); (all_goals (try (case a3 => assumption))); k_whole)); intro t2' tv' h' tk' F' N'; (try dsimp only); (try k_sweep))
  k_with "M call ref" => (k_here; (with_reducible show wpAny _ _ (call (Value.ref 204) _) _ _ _); (k_dflt (refine' use12 (until_con ?G _ _ _ _ _ _ _ _ _ _ _ ?t1 ?t5 ?t2 ?a1 ?t3 ?t4) ?F ?N ?st ?d ?u ?h ?o ?sp ?ne ?_; (case F => k_asm); (case N => k_asm); (case o => walk_at "m_own"); (case sp => walk_at "m_spl"); (case ne => walk_at "m_all"); (case st => assumption); (case d => walk_at "m_lvl"); (case u => walk_at "m_lvl"); (case h => assumption); (try (case G => assumption)); (all_goals (try (case t1 => first | omega | decide | assumption))); (all_goals (try (case t2 => first | omega | decide | assumption))); (all_goals (try (case t3 => first | omega | decide | assumption))); (all_goals (try (case t4 => first | omega | decide | assumption))); (all_goals (try (case t5 => first | omega | decide | assumption))); (all_goals (try (case a1 => assumption))); (all_goals (try (case a2 => assumption))); (all_goals (try (case a3 => assumption))); k_whole)); intro t2' tv' h' tk' F' N'; (try dsimp only); (try k_sweep))
  k_with "M call ref" => (k_here; (with_reducible show wpAny _ _ (call (Value.ref 148) _) _ _ _); (k_dflt (refine' use00 (looks_con ?G _ _ _ _ _ _ _ _ _ _ ?t1) ?F ?N ?st ?d ?u ?h ?o ?_; (case F => k_asm); (case N => k_asm); (case o => walk_at "m_own"); (case st => assumption); (case d => walk_at "m_lvl"); (case u => walk_at "m_lvl"); (case h => assumption); (try (case G => assumption)); (all_goals (try (case t1 => first | omega | decide | assumption))); (all_goals (try (case t2 => first | omega | decide | assumption))); (all_goals (try (case t3 => first | omega | decide | assumption))); (all_goals (try (case t4 => first | omega | decide | assumption))); (all_goals (try (case t5 => first | omega | decide | assumption))); (all_goals (try (case a1 => assumption))); (all_goals (try (case a2 => assumption))); (all_goals (try (case a3 => assumption))); k_whole)); intro h' tk' F' N'; (try dsimp only); (try k_sweep))
  k_with "M call ref" => (k_here; (with_reducible show wpAny _ _ (call (Value.ref 155) _) _ _ _); (k_dflt (refine' use11 (takesT_con ?G _ _ _ _ _ _ _ _ _ _ ?t1 ?t2 ?t3 ?a1) ?F ?N ?st ?d ?u ?h ?o ?sp ?ne ?_; (case F => k_asm); (case N => k_asm); (case o => walk_at "m_own"); (case sp => walk_at "m_spl"); (case ne => walk_at "m_all"); (case st => assumption); (case d => walk_at "m_lvl"); (case u => walk_at "m_lvl"); (case h => assumption); (try (case G => assumption)); (all_goals (try (case t1 => first | omega | decide | assumption))); (all_goals (try (case t2 => first | omega | decide | assumption))); (all_goals (try (case t3 => first | omega | decide | assumption))); (all_goals (try (case t4 => first | omega | decide | assumption))); (all_goals (try (case t5 => first | omega | decide | assumption))); (all_goals (try (case a1 => assumption))); (all_goals (try (case a2 => assumption))); (all_goals (try (case a3 => assumption))); k_whole)); intro t2' h' tk' F' N'; (try dsimp only); (try k_sweep))
  k_with "M call ref" => (k_here; (with_reducible show wpAny _ _ (call (Value.ref 155) _) _ _ _); (k_dflt (refine' use00 (takesF_con ?G _ _ _ _ _ _ _ _ _ _ ?t1 ?t2 ?t3 ?a1) ?F ?N ?st ?d ?u ?h ?o ?_; (case F => k_asm); (case N => k_asm); (case o => walk_at "m_own"); (case st => assumption); (case d => walk_at "m_lvl"); (case u => walk_at "m_lvl"); (case h => assumption); (try (case G => assumption)); (all_goals (try (case t1 => first | omega | decide | assumption))); (all_goals (try (case t2 => first | omega | decide | assumption))); (all_goals (try (case t3 => first | omega | decide | assumption))); (all_goals (try (case t4 => first | omega | decide | assumption))); (all_goals (try (case t5 => first | omega | decide | assumption))); (all_goals (try (case a1 => assumption))); (all_goals (try (case a2 => assumption))); (all_goals (try (case a3 => assumption))); k_whole)); intro h' tk' F' N'; (try dsimp only); (try k_sweep))
  trivial
theorem sub_at {text : Str} {pl : Nat} {a r : List Nat} (h : text.cps.toList.drop pl = a ++ r) : sub text pl (pl + a.length) = ⟨a.toArray⟩ := by
  unfold sub
  rw [h, Nat.add_sub_cancel_left, List.take_left]
theorem pl_le {text : Str} {pl : Nat} {a r : List Nat} (h : text.cps.toList.drop pl = a ++ r) (ha : a ≠ []) : pl + a.length ≤ text.length := by
  have := congrArg List.length h
  rw [List.length_drop, List.length_append] at this
  have e : text.cps.toList.length = text.length := rfl
  have : 0 < a.length := List.length_pos_iff.mpr ha
  walk_at "om"
noncomputable abbrev pcO (k t h : Str) (tk tt th : Tok) : Obj := tupO [.str k tk, .str t tt, .str h th]
section
variable {prog : Program} {w : World} {mean : ExcName → Option Value} {mg mb : Str → Option Value} {B : Heap} (G : Gd w mean mg mb B)
include G
theorem read_name_con (x dx T : Nat) (text h : Str) (pl : Nat) (r : List Nat) (k1 k2 t1 t2 tk tt th : Tok) (hlen : text.length < 1000000) (hne : dx < x) (hasc : ∀ c ∈ text.cps.toList, c < 128)
    (hd' : text.cps.toList.drop pl = h.cps.toList ++ r) (h0 : (h.cps.toList.head?.map nsB).getD false = true) (hn : ∀ c ∈ h.cps.toList, ncB c = true) (hr : ∀ c, r.head? = some c → ncB c = false) (hT1 : @Ne Nat T x) (hT2 : @Ne Nat T dx) :
    Con prog w B 48 (.ref 265) [.ref x, .ref T] [(x, instObj 221 dx), (dx, scD w text pl k1 k2 t1 t2), (T, pcO (Str.ofString "name") h h tk tt th)] [dx]
      (fun v new => ∃ t2' tv, new = [(dx, scD w text ((pl + h.cps.toList.length : Nat) : Int) k1 k2 t1 t2')] ∧ v = .str h tv) := by
  have hc : cntB ncB (text.cps.toList.drop pl) = h.cps.toList.length := by rw [hd']; exact cnt_app hn hr
  have hne0 : h.cps.toList ≠ [] := by intro e; rw [e] at h0; cases h0
  have hs : ((text.cps.toList[pl]?).map nsB).getD false = true := by rw [at_drop, hd', head_app hne0]; exact h0
  have hpos : 0 < cntB ncB (text.cps.toList.drop pl) := by rw [hc]; exact List.length_pos_iff.mpr hne0
  have he := sub_at hd'
  intro A s R hA hu hh hB hown k
  obtain ⟨ah, ad, af, ag, au⟩ := A
  obtain rfl : ah = none := hh
  have hh : (Around.mk none ad af ag au).handled = none := rfl
  replace hA : ad ≤ _ := hA
  replace hu : au ≤ _ := hu
  refine' enter G (binds := [("scanner", Value.ref x), ("piece", Value.ref T)]) (rb := [("piece", Value.ref T), ("scanner", Value.ref x)]) _ hB hown (Nat.le_trans hA (by decide)) ?ho ?hcd ?hb ?hl rfl ?k ?c1 ?c2 ?c3 ?c4
  case ho => k_is
  case hcd => k_is
  case hb => first | exact BindsTo.of_eq rfl | exact binds_K (G.X.keeps hB) rfl (by k_is) rfl rfl rfl
  case hl => exact locs rfl
  case c1 => rfl
  case c2 => rfl
  case c3 => rfl
  case c4 => decide
  case k =>
    intro g L' h₁ m Q tk hg hL hm hQ hQn F N X' T' st
    subst hm
    k_steps
    refine hQ _ _ ?_
    exact (con_end (s := s) [(dx, _)] k hg (fun q hq => (hown q hq).1) (by assumption) (by assumption) (by walk_at "m_same") (by walk_at "m_new") ⟨_, _, by rw [hc], congrArg (Value.str · _) (by rw [hc, he])⟩)
theorem read_token_con (x dx T : Nat) (text h : Str) (pl : Nat) (r : List Nat) (k1 k2 t1 t2 tk tt th : Tok) (hlen : text.length < 1000000) (hne : dx < x) (hasc : ∀ c ∈ text.cps.toList, c < 128)
    (hd' : text.cps.toList.drop pl = h.cps.toList ++ r) (hne0 : h.cps.toList ≠ []) (hn : ∀ c ∈ h.cps.toList, ncB c = true) (hr : ∀ c, r.head? = some c → ncB c = false) (hT1 : @Ne Nat T x) (hT2 : @Ne Nat T dx) :
    Con prog w B 48 (.ref 265) [.ref x, .ref T] [(x, instObj 221 dx), (dx, scD w text pl k1 k2 t1 t2), (T, pcO (Str.ofString "token") h h tk tt th)] [dx]
      (fun v new => ∃ t2' tv, new = [(dx, scD w text ((pl + h.cps.toList.length : Nat) : Int) k1 k2 t1 t2')] ∧ v = .str h tv) := by
  have hc : cntB ncB (text.cps.toList.drop pl) = h.cps.toList.length := by rw [hd']; exact cnt_app hn hr
  have hpos : 0 < cntB ncB (text.cps.toList.drop pl) := by rw [hc]; exact List.length_pos_iff.mpr hne0
  have he := sub_at hd'
  intro A s R hA hu hh hB hown k
  obtain ⟨ah, ad, af, ag, au⟩ := A
  obtain rfl : ah = none := hh
  have hh : (Around.mk none ad af ag au).handled = none := rfl
  replace hA : ad ≤ _ := hA
  replace hu : au ≤ _ := hu
  refine' enter G (binds := [("scanner", Value.ref x), ("piece", Value.ref T)]) (rb := [("piece", Value.ref T), ("scanner", Value.ref x)]) _ hB hown (Nat.le_trans hA (by decide)) ?ho ?hcd ?hb ?hl rfl ?k ?c1 ?c2 ?c3 ?c4
  case ho => k_is
  case hcd => k_is
  case hb => first | exact BindsTo.of_eq rfl | exact binds_K (G.X.keeps hB) rfl (by k_is) rfl rfl rfl
  case hl => exact locs rfl
  case c1 => rfl
  case c2 => rfl
  case c3 => rfl
  case c4 => decide
  case k =>
    intro g L' h₁ m Q tk hg hL hm hQ hQn F N X' T' st
    subst hm
    k_steps
    refine hQ _ _ ?_
    exact (con_end (s := s) [(dx, _)] k hg (fun q hq => (hown q hq).1) (by assumption) (by assumption) (by walk_at "m_same") (by walk_at "m_new") ⟨_, _, by rw [hc], congrArg (Value.str · _) (by rw [hc, he])⟩)
theorem read_spaces_con (x dx T : Nat) (text h : Str) (pl : Nat) (r : List Nat) (k1 k2 t1 t2 tk tt th : Tok) (hlen : text.length < 1000000) (hne : dx < x)
    (hd' : text.cps.toList.drop pl = h.cps.toList ++ r) (hn : ∀ c ∈ h.cps.toList, spB c = true) (hr : ∀ c, r.head? = some c → spB c = false) (hl : h.length ≤ 20) (hT1 : @Ne Nat T x) (hT2 : @Ne Nat T dx) :
    Con prog w B 48 (.ref 265) [.ref x, .ref T] [(x, instObj 221 dx), (dx, scD w text pl k1 k2 t1 t2), (T, pcO (Str.ofString "spaces") h h tk tt th)] [dx]
      (fun v new => ∃ t2' tv, new = [(dx, scD w text ((pl + h.cps.toList.length : Nat) : Int) k1 k2 t1 t2')] ∧ v = .str h tv) := by
  have hc : cntB spB (text.cps.toList.drop pl) = h.cps.toList.length := by rw [hd']; exact cnt_app hn hr
  have hc2 : cntB spB (text.cps.toList.drop pl) = h.length := hc
  intro A s R hA hu hh hB hown k
  obtain ⟨ah, ad, af, ag, au⟩ := A
  obtain rfl : ah = none := hh
  have hh : (Around.mk none ad af ag au).handled = none := rfl
  replace hA : ad ≤ _ := hA
  replace hu : au ≤ _ := hu
  refine' enter G (binds := [("scanner", Value.ref x), ("piece", Value.ref T)]) (rb := [("piece", Value.ref T), ("scanner", Value.ref x)]) _ hB hown (Nat.le_trans hA (by decide)) ?ho ?hcd ?hb ?hl rfl ?k ?c1 ?c2 ?c3 ?c4
  case ho => k_is
  case hcd => k_is
  case hb => first | exact BindsTo.of_eq rfl | exact binds_K (G.X.keeps hB) rfl (by k_is) rfl rfl rfl
  case hl => exact locs rfl
  case c1 => rfl
  case c2 => rfl
  case c3 => rfl
  case c4 => decide
  case k =>
    intro g L' h₁ m Q tk hg hL hm hQ hQn F N X' T' st
    subst hm
    k_steps
    · refine hQ _ _ ?_
      exact (con_end (s := s) [(dx, _)] k hg (fun q hq => (hown q hq).1) (by assumption) (by assumption) (by walk_at "m_same") (by walk_at "m_new") ⟨_, _, by rw [hc], rfl⟩)
    · exfalso; walk_at "om"
theorem read_word_con (x dx T : Nat) (text h : Str) (pl : Nat) (r : List Nat) (k1 k2 t1 t2 tk tt th : Tok) (hlen : text.length < 1000000) (hne : dx < x)
    (hd' : text.cps.toList.drop pl = h.cps.toList ++ r) (hne0 : h.cps.toList ≠ []) (hl : h.length ≤ 20) (hT1 : @Ne Nat T x) (hT2 : @Ne Nat T dx) :
    Con prog w B 48 (.ref 265) [.ref x, .ref T] [(x, instObj 221 dx), (dx, scD w text pl k1 k2 t1 t2), (T, pcO (Str.ofString "word") h h tk tt th)] [dx]
      (fun v new => ∃ t2' tv, new = [(dx, scD w text ((pl + h.cps.toList.length : Nat) : Int) k1 k2 t1 t2')] ∧ v = .str h tv) := by
  have hp := pl_le hd' hne0
  have hs : Txt.startswith3 text h pl = true := by
    rw [sw_eq text h pl (by walk_at "om"), hd', pre_take]; simp
  have hll : h.length = h.cps.toList.length := rfl
  intro A s R hA hu hh hB hown k
  obtain ⟨ah, ad, af, ag, au⟩ := A
  obtain rfl : ah = none := hh
  have hh : (Around.mk none ad af ag au).handled = none := rfl
  replace hA : ad ≤ _ := hA
  replace hu : au ≤ _ := hu
  refine' enter G (binds := [("scanner", Value.ref x), ("piece", Value.ref T)]) (rb := [("piece", Value.ref T), ("scanner", Value.ref x)]) _ hB hown (Nat.le_trans hA (by decide)) ?ho ?hcd ?hb ?hl rfl ?k ?c1 ?c2 ?c3 ?c4
  case ho => k_is
  case hcd => k_is
  case hb => first | exact BindsTo.of_eq rfl | exact binds_K (G.X.keeps hB) rfl (by k_is) rfl rfl rfl
  case hl => exact locs rfl
  case c1 => rfl
  case c2 => rfl
  case c3 => rfl
  case c4 => decide
  case k =>
    intro g L' h₁ m Q tk hg hL hm hQ hQn F N X' T' st
    subst hm
    k_steps
    refine hQ _ _ ?_
    exact (con_end (s := s) [(dx, _)] k hg (fun q hq => (hown q hq).1) (by assumption) (by assumption) (by walk_at "m_same") (by walk_at "m_new") ⟨_, _, by rw [hll], rfl⟩)
theorem read_until_con (x dx T : Nat) (text h p : Str) (pl : Nat) (r : List Nat) (k1 k2 t1 t2 tk tt th : Tok) (hlen : text.length < 1000000) (hne : dx < x)
    (hd' : text.cps.toList.drop pl = h.cps.toList ++ 63 :: ([62] ++ r)) (h63 : 63 ∉ h.cps.toList) (hT1 : @Ne Nat T x) (hT2 : @Ne Nat T dx) :
    Con prog w B 48 (.ref 265) [.ref x, .ref T] [(x, instObj 221 dx), (dx, scD w text pl k1 k2 t1 t2), (T, pcO (Str.ofString "until") p h tk tt th)] [dx]
      (fun v new => ∃ t2' tv, new = [(dx, scD w text ((pl + h.cps.toList.length + 2 : Nat) : Int) k1 k2 t1 t2')] ∧ v = .str h tv) := by
  have hp := pl_le (a := h.cps.toList ++ 63 :: [62]) (r := r) (by rw [hd']; simp) (by simp)
  simp only [List.length_append, List.length_cons, List.length_nil] at hp
  have hw : (Str.ofString "?>").cps.toList = [63, 62] := by decide
  have hwl : (Str.ofString "?>").length = 2 := by decide
  have hf : Txt.find3 text (Str.ofString "?>") pl = ((pl + h.cps.toList.length : Nat) : Int) := by
    rw [find_eq text _ pl (by walk_at "om"), hd', hw, fnd_at h.cps.toList r h63]
  have he := sub_at hd'
  have h1 : pl ≤ pl + h.cps.toList.length := by walk_at "om"
  have h2 : pl + h.cps.toList.length ≤ text.length := by walk_at "om"
  intro A s R hA hu hh hB hown k
  obtain ⟨ah, ad, af, ag, au⟩ := A
  obtain rfl : ah = none := hh
  have hh : (Around.mk none ad af ag au).handled = none := rfl
  replace hA : ad ≤ _ := hA
  replace hu : au ≤ _ := hu
  refine' enter G (binds := [("scanner", Value.ref x), ("piece", Value.ref T)]) (rb := [("piece", Value.ref T), ("scanner", Value.ref x)]) _ hB hown (Nat.le_trans hA (by decide)) ?ho ?hcd ?hb ?hl rfl ?k ?c1 ?c2 ?c3 ?c4
  case ho => k_is
  case hcd => k_is
  case hb => first | exact BindsTo.of_eq rfl | exact binds_K (G.X.keeps hB) rfl (by k_is) rfl rfl rfl
  case hl => exact locs rfl
  case c1 => rfl
  case c2 => rfl
  case c3 => rfl
  case c4 => decide
  case k =>
    intro g L' h₁ m Q tk hg hL hm hQ hQn F N X' T' st
    subst hm
    k_steps
    refine hQ _ _ ?_
    exact (con_end (s := s) [(dx, _)] k hg (fun q hq => (hown q hq).1) (by assumption) (by assumption) (by walk_at "m_same") (by walk_at "m_new") ⟨_, _, by rw [hwl], congrArg (Value.str · _) he⟩)
theorem read_q1_con (x dx T : Nat) (text h p : Str) (pl : Nat) (r : List Nat) (k1 k2 t1 t2 tk tt th : Tok) (hlen : text.length < 1000000) (hne : dx < x)
    (hd' : text.cps.toList.drop pl = 34 :: (h.cps.toList ++ 34 :: r)) (hq : 34 ∉ h.cps.toList) (hT1 : @Ne Nat T x) (hT2 : @Ne Nat T dx) :
    Con prog w B 48 (.ref 265) [.ref x, .ref T] [(x, instObj 221 dx), (dx, scD w text pl k1 k2 t1 t2), (T, pcO (Str.ofString "quoted") p h tk tt th)] [dx]
      (fun v new => ∃ t2' tv, new = [(dx, scD w text ((pl + h.cps.toList.length + 2 : Nat) : Int) k1 k2 t1 t2')] ∧ v = .str h tv) := by
  have hp := pl_le (a := 34 :: (h.cps.toList ++ [34])) (r := r) (by rw [hd']; simp) (by simp)
  simp only [List.length_append, List.length_cons, List.length_nil] at hp
  have hw : (Str.ofString "\"").cps.toList = [34] := by decide
  have hwl : (Str.ofString "\"").length = 1 := by decide
  have hd2 : text.cps.toList.drop (pl + 1) = h.cps.toList ++ 34 :: r := by rw [← List.drop_drop, hd']; rfl
  have hs : Txt.startswith3 text (Str.ofString "\"") pl = true := by
    rw [sw_eq text _ pl (by walk_at "om"), hd', hw]; simp [List.isPrefixOf]
  have hf : Txt.find3 text (Str.ofString "\"") ((pl + (Str.ofString "\"").length : Nat) : Int) = ((pl + 1 + h.cps.toList.length : Nat) : Int) := by
    rw [hwl, find_eq text _ (pl + 1) (by walk_at "om"), hd2, hw]
    have := fnd_at (w := []) (a := 34) h.cps.toList r hq
    rw [List.nil_append] at this
    rw [this]
  have h1 : pl + 1 ≤ pl + 1 + h.cps.toList.length := by walk_at "om"
  have h2 : pl + 1 + h.cps.toList.length ≤ text.length := by walk_at "om"
  have he := sub_at hd2
  intro A s R hA hu hh hB hown k
  obtain ⟨ah, ad, af, ag, au⟩ := A
  obtain rfl : ah = none := hh
  have hh : (Around.mk none ad af ag au).handled = none := rfl
  replace hA : ad ≤ _ := hA
  replace hu : au ≤ _ := hu
  refine' enter G (binds := [("scanner", Value.ref x), ("piece", Value.ref T)]) (rb := [("piece", Value.ref T), ("scanner", Value.ref x)]) _ hB hown (Nat.le_trans hA (by decide)) ?ho ?hcd ?hb ?hl rfl ?k ?c1 ?c2 ?c3 ?c4
  case ho => k_is
  case hcd => k_is
  case hb => first | exact BindsTo.of_eq rfl | exact binds_K (G.X.keeps hB) rfl (by k_is) rfl rfl rfl
  case hl => exact locs rfl
  case c1 => rfl
  case c2 => rfl
  case c3 => rfl
  case c4 => decide
  case k =>
    intro g L' h₁ m Q tk hg hL hm hQ hQn F N X' T' st
    subst hm
    k_steps
    refine hQ _ _ ?_
    exact (con_end (s := s) [(dx, _)] k hg (fun q hq => (hown q hq).1) (by assumption) (by assumption) (by walk_at "m_same") (by walk_at "m_new") ⟨_, _, by rw [show pl + 1 + h.cps.toList.length + 1 = pl + h.cps.toList.length + 2 by walk_at "om"], congrArg (Value.str · _) he⟩)
theorem read_q2_con (x dx T : Nat) (text h p : Str) (pl : Nat) (r : List Nat) (k1 k2 t1 t2 tk tt th : Tok) (hlen : text.length < 1000000) (hne : dx < x)
    (hd' : text.cps.toList.drop pl = 39 :: (h.cps.toList ++ 39 :: r)) (hq : 39 ∉ h.cps.toList) (hT1 : @Ne Nat T x) (hT2 : @Ne Nat T dx) :
    Con prog w B 48 (.ref 265) [.ref x, .ref T] [(x, instObj 221 dx), (dx, scD w text pl k1 k2 t1 t2), (T, pcO (Str.ofString "quoted") p h tk tt th)] [dx]
      (fun v new => ∃ t2' tv, new = [(dx, scD w text ((pl + h.cps.toList.length + 2 : Nat) : Int) k1 k2 t1 t2')] ∧ v = .str h tv) := by
  have hp := pl_le (a := 39 :: (h.cps.toList ++ [39])) (r := r) (by rw [hd']; simp) (by simp)
  simp only [List.length_append, List.length_cons, List.length_nil] at hp
  have hw0 : (Str.ofString "\"").cps.toList = [34] := by decide
  have hw : (Str.ofString "'").cps.toList = [39] := by decide
  have hwl : (Str.ofString "'").length = 1 := by decide
  have hd2 : text.cps.toList.drop (pl + 1) = h.cps.toList ++ 39 :: r := by rw [← List.drop_drop, hd']; rfl
  have hs : Txt.startswith3 text (Str.ofString "\"") pl = false := by
    rw [sw_eq text _ pl (by walk_at "om"), hd', hw0]; simp [List.isPrefixOf]
  have hs' : Txt.startswith3 text (Str.ofString "'") pl = true := by
    rw [sw_eq text _ pl (by walk_at "om"), hd', hw]; simp [List.isPrefixOf]
  have hf : Txt.find3 text (Str.ofString "'") ((pl + (Str.ofString "'").length : Nat) : Int) = ((pl + 1 + h.cps.toList.length : Nat) : Int) := by
    rw [hwl, find_eq text _ (pl + 1) (by walk_at "om"), hd2, hw]
    have := fnd_at (w := []) (a := 39) h.cps.toList r hq
    rw [List.nil_append] at this
    rw [this]
  have h1 : pl + 1 ≤ pl + 1 + h.cps.toList.length := by walk_at "om"
  have h2 : pl + 1 + h.cps.toList.length ≤ text.length := by walk_at "om"
  have he := sub_at hd2
  intro A s R hA hu hh hB hown k
  obtain ⟨ah, ad, af, ag, au⟩ := A
  obtain rfl : ah = none := hh
  have hh : (Around.mk none ad af ag au).handled = none := rfl
  replace hA : ad ≤ _ := hA
  replace hu : au ≤ _ := hu
  refine' enter G (binds := [("scanner", Value.ref x), ("piece", Value.ref T)]) (rb := [("piece", Value.ref T), ("scanner", Value.ref x)]) _ hB hown (Nat.le_trans hA (by decide)) ?ho ?hcd ?hb ?hl rfl ?k ?c1 ?c2 ?c3 ?c4
  case ho => k_is
  case hcd => k_is
  case hb => first | exact BindsTo.of_eq rfl | exact binds_K (G.X.keeps hB) rfl (by k_is) rfl rfl rfl
  case hl => exact locs rfl
  case c1 => rfl
  case c2 => rfl
  case c3 => rfl
  case c4 => decide
  case k =>
    intro g L' h₁ m Q tk hg hL hm hQ hQn F N X' T' st
    subst hm
    k_steps
    refine hQ _ _ ?_
    exact (con_end (s := s) [(dx, _)] k hg (fun q hq => (hown q hq).1) (by assumption) (by assumption) (by walk_at "m_same") (by walk_at "m_new") ⟨_, _, by rw [show pl + 1 + h.cps.toList.length + 1 = pl + h.cps.toList.length + 2 by walk_at "om"], congrArg (Value.str · _) he⟩)
end
set_option maxRecDepth 100000
set_option maxHeartbeats 8000000
theorem ln25 : True := by
  k_with_none
  k_with "M subscriptTail Name Constant ref int" => (k_here; (with_reducible show wpAny _ _ (subscriptTail _ _ (Value.ref _) (Value.int _ _)) _ _ _); k_dflt (refine' Mine.item_N ?k0 ?k1 ?k2 ?k3 ?k4 ?_ ?k6; (case k0 => k_asm); (case k1 => k_mem); (case k2 => decide); (case k3 => decide); (case k4 => rfl); (case k6 => with_unfolding_all rfl); k_whole))
  k_with "M m_new" => first | exact List.forall_mem_nil _ | (refine' List.forall_mem_cons.mpr ⟨And.intro ?mzA ?mzB, ?mzC⟩; (case mzA => k_mem); (case mzB => (try dsimp only); first | exact Or.inl (by k_mem) | exact Or.inr (by walk_at "m_all")); (case mzC => walk_at "m_new"))
  k_with "M m_spl" => first | exact Mine.Spl.head | exact (Mine.Spl.tail Mine.Spl.head) | exact (Mine.Spl.tail (Mine.Spl.tail Mine.Spl.head)) | exact (Mine.Spl.tail (Mine.Spl.tail (Mine.Spl.tail Mine.Spl.head))) | exact (Mine.Spl.tail (Mine.Spl.tail (Mine.Spl.tail (Mine.Spl.tail Mine.Spl.head)))) | exact (Mine.Spl.tail (Mine.Spl.tail (Mine.Spl.tail (Mine.Spl.tail (Mine.Spl.tail Mine.Spl.head))))) | exact (Mine.Spl.tail (Mine.Spl.tail (Mine.Spl.tail (Mine.Spl.tail (Mine.Spl.tail (Mine.Spl.tail Mine.Spl.head)))))) | exact (Mine.Spl.tail (Mine.Spl.tail (Mine.Spl.tail (Mine.Spl.tail (Mine.Spl.tail (Mine.Spl.tail (Mine.Spl.tail Mine.Spl.head))))))) | exact (Mine.Spl.tail (Mine.Spl.tail (Mine.Spl.tail (Mine.Spl.tail (Mine.Spl.tail (Mine.Spl.tail (Mine.Spl.tail (Mine.Spl.tail Mine.Spl.head)))))))) | exact (Mine.Spl.tail (Mine.Spl.tail (Mine.Spl.tail (Mine.Spl.tail (Mine.Spl.tail (Mine.Spl.tail (Mine.Spl.tail (Mine.Spl.tail (Mine.Spl.tail Mine.Spl.head))))))))) | exact (Mine.Spl.tail (Mine.Spl.tail (Mine.Spl.tail (Mine.Spl.tail (Mine.Spl.tail (Mine.Spl.tail (Mine.Spl.tail (Mine.Spl.tail (Mine.Spl.tail (Mine.Spl.tail Mine.Spl.head)))))))))) | exact (Mine.Spl.tail (Mine.Spl.tail (Mine.Spl.tail (Mine.Spl.tail (Mine.Spl.tail (Mine.Spl.tail (Mine.Spl.tail (Mine.Spl.tail (Mine.Spl.tail (Mine.Spl.tail (Mine.Spl.tail Mine.Spl.head))))))))))) | exact (Mine.Spl.tail (Mine.Spl.tail (Mine.Spl.tail (Mine.Spl.tail (Mine.Spl.tail (Mine.Spl.tail (Mine.Spl.tail (Mine.Spl.tail (Mine.Spl.tail (Mine.Spl.tail (Mine.Spl.tail (Mine.Spl.tail Mine.Spl.head)))))))))))) | exact (Mine.Spl.tail (Mine.Spl.tail (Mine.Spl.tail (Mine.Spl.tail (Mine.Spl.tail (Mine.Spl.tail (Mine.Spl.tail (Mine.Spl.tail (Mine.Spl.tail (Mine.Spl.tail (Mine.Spl.tail (Mine.Spl.tail (Mine.Spl.tail Mine.Spl.head)))))))))))))
  k_with "M m_own" => first | exact List.forall_mem_nil _ | (refine' List.forall_mem_cons.mpr ⟨?mzA, ?mzB⟩; (case mzA => k_mem); (case mzB => walk_at "m_own"))
  k_with "M m_lvl" => first | exact lv_le 3 rfl (by assumption) rfl | exact lv_le 1 rfl (by assumption) rfl | exact lv_le 0 rfl (by assumption) rfl | exact lv_le 2 rfl (by assumption) rfl | ((try simp only [depth_under_make, depth_under_kw, depth_in1, depth_deeper, units_in1, units_deeper, units_under_make, Around.mark_units]); (try dsimp only); omega)
  k_with "M call builtin:len" => (k_here; (with_reducible show wpAny _ _ (call (Value.builtin "len") [Value.ref _]) _ _ _); k_dflt (refine' Mine.len_N ?k0 ?k1 ?k2 ?_; (case k0 => k_asm); (case k1 => k_mem); (case k2 => (try simp only [List.length_cons, List.length_nil]); omega); k_whole))
  k_with "M m_ne0" => (replace l1 := ne0_of l1; (try simp only [NewNe0, AllNe, and_true, and_assoc] at l1); (repeat (have := And.left l1; replace l1 := And.right l1)))
  k_with "M m_ne1" => (replace l1 := ne1_of l1; (try simp only [NewNe1, AllNe, and_true, true_or, true_and, and_assoc] at l1); (repeat (have := And.left l1; replace l1 := And.right l1)))
  k_with "M exec Raise some none" => (k_here; k_dflt (refine' Mine.raise_stmt ?hh ?_; (case hh => first | rfl | assumption)))
  k_with "M pyIter ref" => ((with_reducible show wpAny _ _ _ (fun it s₂ => UnrAt _ _ _ _ _ _ _ _ _ it s₂) _ _); (k_dflt (refine' Iter_tuple_unr ?hh ?ht ?F ?N ?htL ?_; (case F => k_asm); (case N => k_asm); (case hh => assumption); (case ht => exact News.isTup (by assumption) (by k_mem)); (case htL => exact News.ne_locals (by assumption) (by k_mem)))))
  k_with "M eval Name" => (k_here; (with_reducible show wpAny _ _ (eval (Expr.Name _ _) (envOfC _ _ _ _ _)) _ _ _); k_dflt (refine' nameX_L ?nxF ?nxV ?_; (case nxF => k_asm); (case nxV => rfl); k_whole))
  k_with "M m_sub" => first | exact List.forall_mem_nil _ | (refine' List.forall_mem_cons.mpr ⟨?mzA, ?mzB⟩; (case mzA => k_mem); (case mzB => walk_at "m_sub")) | (intro mzp mzh; k_mem)
  k_with "M m_off" => first | exact True.intro | assumption | (refine And.intro ⟨by k_ne, by k_ne, by k_ne⟩ ?_; walk_at "m_off")
  k_with "M m_same" => first | exact List.forall_mem_nil _ | (refine' List.forall_mem_cons.mpr ⟨?mzA, ?mzB⟩; (case mzA => (try dsimp only); first | exact Or.inl (by k_mem) | exact Or.inr (by k_mem)); (case mzB => walk_at "m_same")) | simp
  k_with "M m_all" => first | exact List.forall_mem_nil _ | (refine' List.forall_mem_cons.mpr ⟨?mzA, ?mzB⟩; (case mzA => k_ne); (case mzB => walk_at "m_all")) | assumption
  k_with "M om" => first | ((repeat (with_reducible rename (_ ≠ _) => hz9; clear hz9)); omega) | omega
  k_with "M m_ltp" => first | with_reducible assumption | (with_reducible rename (_ < _ ∧ _) => hq9; first | with_reducible exact hq9.1 | with_reducible exact hq9.2.1 | with_reducible exact hq9.2.2.1 | with_reducible exact hq9.2.2.2.1 | with_reducible exact hq9.2.2.2.2.1 | with_reducible exact hq9.2.2.2.2.2.1 | with_reducible exact hq9.2 | with_reducible exact hq9.2.2 | with_reducible exact hq9.2.2.2 | with_reducible exact hq9.2.2.2.2 | with_reducible exact hq9.2.2.2.2.2 | (clear hq9; walk_at "m_ltp"))
  k_with "M m_nel" => first | exact Nat.ne_of_lt (by walk_at "m_ltp") | exact Nat.ne_of_gt (by walk_at "m_ltp") | exact ne_lt_k 1 rfl (by walk_at "m_ltp") | exact ne_lt_k 2 rfl (by walk_at "m_ltp") | exact ne_lt_k 3 rfl (by walk_at "m_ltp") | exact ne_lt_k 4 rfl (by walk_at "m_ltp") | exact ne_gt_k 1 rfl (by walk_at "m_ltp") | exact ne_gt_k 2 rfl (by walk_at "m_ltp") | exact ne_gt_k 3 rfl (by walk_at "m_ltp") | exact ne_gt_k 4 rfl (by walk_at "m_ltp")
  k_with "M execs cons" => (k_here; (try k_gentoks); (with_reducible refine wpAny_execs_cons ?_); (try k_fold); (try dsimp only))
  trivial
noncomputable abbrev lamSc : Scope := { kind := .function, names := [(Str.ofString "scanner", .free)], isGenerator := false, isCoroutine := false, more := [] }
noncomputable abbrev lamAr : Arguments := { posonlyargs := [], args := [], vararg := none, kwonlyargs := [], kw_defaults := [], kwarg := none, defaults := [] }
noncomputable abbrev lamQ : Str := Str.ofString "_law_others_refused.<locals>.<lambda>"
noncomputable abbrev lamB (m : Str) (args : List PySem.Expr) (p1 p2 p3 : Pos) : PySem.Expr := .Call (.Attribute (.Name (Str.ofString "scanner") p1) m p2) args [] p3
noncomputable abbrev lamO (ca : Addr) (m : Str) (args : List PySem.Expr) (p1 p2 p3 : Pos) (pm : Value) (c' : Addr) (ctv : Value) : Obj := kla_obj "<lambda>" lamQ lamAr (lamB m args p1 p2 p3) lamSc [(Str.ofString "scanner", ca)] pm c' ctv
noncomputable abbrev lamE (L f ca c' : Addr) : Env := envX lamQ lamSc L f (.ref c') [(Str.ofString "scanner", ca)]
section
variable {prog : Program} {w : World} {mean : ExcName → Option Value} {mg mb : Str → Option Value} {B : Heap} {A : Around} {s : Shared} {R : Result → Shared → Prop} {outer : List Env} {own : List (Addr × Obj)} {lvl : Nat}
theorem enterL {ca c' f : Addr} {m : Str} {args : List PySem.Expr} {p1 p2 p3 : Pos} {pm ctv : Value} {oc : Obj} {ocs : Array Value} {tq : Tok}
    (G : Gd w mean mg mb B) (C : Cal B lvl own A s outer) (hl : lvl ≤ 690) (hf : (f, lamO ca m args p1 p2 p3 pm c' ctv) ∈ own) (hcm : (c', oc) ∈ own) (hcd : oc.data = .fields ocs) (hcq : ocs[1]? = some (.str lamQ tq))
    (h : ∀ g L' h₁ Q E tk, GR s.heap (own.map (·.1)) (frs outer) g → (∀ v s', R (.ok (.ret v)) s' → Q v s') →
      (∀ e s', wpAny (model prog w) (A.deeper (lamE L' f ca c')) (leaving (lamE L' f ca c') e) (fun _ s'' => R (.error e) s'') (fun e' s'' => R (.error e') s'') s' → E e s') →
      Fr g L' h₁ (fun _ => none) → News g L' h₁ own → (kfr w.params).In g → Top topProg LOO mean mg mb g → B.StaysIn g → g.FunFrames B outer →
      wpAny (model prog w) (A.deeper (lamE L' f ca c')) (eval (lamB m args p1 p2 p3) (lamE L' f ca c')) Q E { s with heap := h₁, toks := tk }) : codeAny (model prog w) A (.call (.ref f) ⟨[], []⟩) R s := by
  have hroom : A.depth < recursionLimit := Nat.lt_of_le_of_lt (Nat.le_trans C.lv (Nat.add_le_add_left hl 300)) (by decide)
  obtain ⟨gr, st, ff⟩ := gr_hide (h₀ := s.heap) C
  have TS := G.T.keeps C.st
  refine kla_callFunE hroom (C.ow _ hf).1 rfl rfl rfl rfl ⟨c', oc, ocs, tq, rfl, (C.ow _ hcm).1, hcd, hcq⟩ ?_
  refine wpAny_of_eq (a := ([] : List (Str × Value))) rfl ?_
  refine wpAny_newFunctionEnv (show ∀ x ∈ lamSc.names, x.2 ≠ .cell by decide) (by intro y hy; cases hy) (fun h₁ hns hsb => ⟨(TS.nolimit).fresh _ hsb, ?_⟩) rfl
  have hk₁ : ∀ b o, s.heap.get? b = some o → h₁.get? b = some o := fun b o e => hsb.extBut b o (Nat.ne_of_lt (Heap.lt_size e)) (Heap.get?_push_of_some _ e)
  refine kla_codeExpr (h _ s.heap.objs.size h₁ _ _ _ gr (fun v s' x => x) (fun e s' x => x) ⟨hns, fun b o e => hk₁ b o (of_hideAll _ e), Nat.le_of_eq (hideAll_size _ _)⟩
    (fun q hq => ⟨hk₁ _ _ (C.ow q hq).1, Nat.ne_of_lt (Heap.lt_size (C.ow q hq).1), hideAll_none _ (List.mem_map_of_mem hq)⟩) (G.X.keeps st) (G.T.keeps st) st ff)
end
section
variable {prog : Program} {w : World} {mean : ExcName → Option Value} {mg mb : Str → Option Value} {B : Heap} (G : Gd w mean mg mb B)
include G
theorem lam_expect_con (x dx f ca c' : Nat) (text : Str) (pl : Nat) (k1 k2 t1 t2 : Tok) (pm ctv : Value) (oc oca : Obj) (ocs : Array Value) (tq : Tok) (hcd : oc.data = .fields ocs) (hcq : ocs[1]? = some (.str lamQ tq)) (hca : oca.data = .cell (some (.ref x)))
    (hlen : text.length < 1000000) (hne : dx < x) (hs : Txt.startswith3 text (Str.ofString "never") pl = false) :
    ConR prog w B 50 (.ref f) [] [(f, lamO ca (Str.ofString "expect") [.Constant (.str (Str.ofString "never")) 0 ⟨195, 23, 195, 30⟩] ⟨195, 8, 195, 15⟩ ⟨195, 8, 195, 22⟩ ⟨195, 8, 195, 31⟩ pm c' ctv), (c', oc), (ca, oca), (x, instObj 221 dx), (dx, scD w text pl k1 k2 t1 t2)] [] pl := by
  intro A s R outer C k
  obtain ⟨ah, ad, af, ag, au⟩ := A
  obtain rfl : ah = none := C.ha
  refine' enterL G C (by decide) (.head _) (.tail _ (.head _)) hcd hcq ?_
  intro g L' h₁ Q E tk gr hQ hE F N X' T' st ff
  have hA : ad ≤ _ := C.lv
  have hu : au ≤ _ := C.un
  have hh := C.ha
  have hfr : af = some outer := C.fr
  dsimp only [lamB, lamE]
  refine MethodCall_ ?_
  refine nameX_F (c := ca) N rfl (by k_mem) hca ?_
  repeat ((fail_if_success (with_reducible show wpAny _ _ (call (Value.ref _) _) _ _ _)); walk1)
  refine' con_useR (expectR_con G _ _ _ _ _ _ _ _ _ _ hlen (by decide) hne hs) (by assumption) (by assumption) gr st ff (Around.frames_deeper hfr) rfl (fun z => nomatch z) (by walk_at "m_lvl") (by walk_at "m_lvl") (by rfl) (by walk_at "m_own") (fun q hq => nomatch hq) (rest := _) (fun q hq => ⟨hq, fun z => nomatch z⟩) ?_
  intro g' e1 d1 vs1 msg1 k0 t0 k1 t1 h' tk' F' N' gr st ff hT1 hsz1 hn1 hn2 hne1
  replace hn1 := allNe_of hn1
  replace hn2 := allNe_of hn2
  simp only [AllNe, and_true] at hn1 hn2
  repeat (have := And.left hn1; replace hn1 := And.right hn1)
  repeat (have := And.left hn2; replace hn2 := And.right hn2)
  refine hE _ _ ?_
  refine' raise_end (s := s) (e := e1) (dx := d1) (vs := vs1) (msg := msg1) (k0 := k0) (t0 := t0) (k1 := k1) (t1 := t1) ?zk C gr F' N' st ff ?z1 ?z2 ?z3 ?z4 hne1 hsz1 (.inr hT1) ?z5 ?z6 ?z7
  case z3 => k_mem
  case z4 => k_mem
  case zk => exact k
  case z1 => rfl
  case z2 => exact fun z => nomatch z
  case z5 => walk_at "m_all"
  case z6 => walk_at "m_all"
  case z7 => walk_at "m_same"
theorem lam_until_con (x dx f ca c' : Nat) (text : Str) (pl : Nat) (k1 k2 t1 t2 : Tok) (pm ctv : Value) (oc oca : Obj) (ocs : Array Value) (tq : Tok) (hcd : oc.data = .fields ocs) (hcq : ocs[1]? = some (.str lamQ tq)) (hca : oca.data = .cell (some (.ref x)))
    (hlen : text.length < 1000000) (hne : dx < x) (hs : Txt.find3 text (Str.ofString "never") pl = -1) :
    ConR prog w B 50 (.ref f) [] [(f, lamO ca (Str.ofString "until") [.Constant (.str (Str.ofString "never")) 0 ⟨196, 22, 196, 29⟩] ⟨196, 8, 196, 15⟩ ⟨196, 8, 196, 21⟩ ⟨196, 8, 196, 30⟩ pm c' ctv), (c', oc), (ca, oca), (x, instObj 221 dx), (dx, scD w text pl k1 k2 t1 t2)] [] pl := by
  intro A s R outer C k
  obtain ⟨ah, ad, af, ag, au⟩ := A
  obtain rfl : ah = none := C.ha
  refine' enterL G C (by decide) (.head _) (.tail _ (.head _)) hcd hcq ?_
  intro g L' h₁ Q E tk gr hQ hE F N X' T' st ff
  have hA : ad ≤ _ := C.lv
  have hu : au ≤ _ := C.un
  have hh := C.ha
  have hfr : af = some outer := C.fr
  dsimp only [lamB, lamE]
  refine MethodCall_ ?_
  refine nameX_F (c := ca) N rfl (by k_mem) hca ?_
  repeat ((fail_if_success (with_reducible show wpAny _ _ (call (Value.ref _) _) _ _ _)); walk1)
  refine' con_useR (untilR_con G _ _ _ _ _ _ _ _ _ _ hlen (by decide) hne hs) (by assumption) (by assumption) gr st ff (Around.frames_deeper hfr) rfl (fun z => nomatch z) (by walk_at "m_lvl") (by walk_at "m_lvl") (by rfl) (by walk_at "m_own") (fun q hq => nomatch hq) (rest := _) (fun q hq => ⟨hq, fun z => nomatch z⟩) ?_
  intro g' e1 d1 vs1 msg1 k0 t0 k1 t1 h' tk' F' N' gr st ff hT1 hsz1 hn1 hn2 hne1
  replace hn1 := allNe_of hn1
  replace hn2 := allNe_of hn2
  simp only [AllNe, and_true] at hn1 hn2
  repeat (have := And.left hn1; replace hn1 := And.right hn1)
  repeat (have := And.left hn2; replace hn2 := And.right hn2)
  refine hE _ _ ?_
  refine' raise_end (s := s) (e := e1) (dx := d1) (vs := vs1) (msg := msg1) (k0 := k0) (t0 := t0) (k1 := k1) (t1 := t1) ?zk C gr F' N' st ff ?z1 ?z2 ?z3 ?z4 hne1 hsz1 (.inr hT1) ?z5 ?z6 ?z7
  case z3 => k_mem
  case z4 => k_mem
  case zk => exact k
  case z1 => rfl
  case z2 => exact fun z => nomatch z
  case z5 => walk_at "m_all"
  case z6 => walk_at "m_all"
  case z7 => walk_at "m_same"
theorem lam_name_con (x dx f ca c' : Nat) (text : Str) (pl : Nat) (k1 k2 t1 t2 : Tok) (pm ctv : Value) (oc oca : Obj) (ocs : Array Value) (tq : Tok) (hcd : oc.data = .fields ocs) (hcq : ocs[1]? = some (.str lamQ tq)) (hca : oca.data = .cell (some (.ref x)))
    (hlen : text.length < 1000000) (hne : dx < x) (hasc : ∀ c ∈ text.cps.toList, c < 128) (hs : ((text.cps.toList[pl]?).map nsB).getD false = false) :
    ConR prog w B 50 (.ref f) [] [(f, lamO ca (Str.ofString "name") [] ⟨199, 8, 199, 15⟩ ⟨199, 8, 199, 20⟩ ⟨199, 8, 199, 22⟩ pm c' ctv), (c', oc), (ca, oca), (x, instObj 221 dx), (dx, scD w text pl k1 k2 t1 t2)] [] pl := by
  intro A s R outer C k
  obtain ⟨ah, ad, af, ag, au⟩ := A
  obtain rfl : ah = none := C.ha
  refine' enterL G C (by decide) (.head _) (.tail _ (.head _)) hcd hcq ?_
  intro g L' h₁ Q E tk gr hQ hE F N X' T' st ff
  have hA : ad ≤ _ := C.lv
  have hu : au ≤ _ := C.un
  have hh := C.ha
  have hfr : af = some outer := C.fr
  dsimp only [lamB, lamE]
  refine MethodCall_ ?_
  refine nameX_F (c := ca) N rfl (by k_mem) hca ?_
  repeat ((fail_if_success (with_reducible show wpAny _ _ (call (Value.ref _) _) _ _ _)); walk1)
  refine' con_useR (nameR_con G _ _ _ _ _ _ _ _ hlen hne hasc hs) (by assumption) (by assumption) gr st ff (Around.frames_deeper hfr) rfl (fun z => nomatch z) (by walk_at "m_lvl") (by walk_at "m_lvl") (by rfl) (by walk_at "m_own") (fun q hq => nomatch hq) (rest := _) (fun q hq => ⟨hq, fun z => nomatch z⟩) ?_
  intro g' e1 d1 vs1 msg1 k0 t0 k1 t1 h' tk' F' N' gr st ff hT1 hsz1 hn1 hn2 hne1
  replace hn1 := allNe_of hn1
  replace hn2 := allNe_of hn2
  simp only [AllNe, and_true] at hn1 hn2
  repeat (have := And.left hn1; replace hn1 := And.right hn1)
  repeat (have := And.left hn2; replace hn2 := And.right hn2)
  refine hE _ _ ?_
  refine' raise_end (s := s) (e := e1) (dx := d1) (vs := vs1) (msg := msg1) (k0 := k0) (t0 := t0) (k1 := k1) (t1 := t1) ?zk C gr F' N' st ff ?z1 ?z2 ?z3 ?z4 hne1 hsz1 (.inr hT1) ?z5 ?z6 ?z7
  case z3 => k_mem
  case z4 => k_mem
  case zk => exact k
  case z1 => rfl
  case z2 => exact fun z => nomatch z
  case z5 => walk_at "m_all"
  case z6 => walk_at "m_all"
  case z7 => walk_at "m_same"
theorem lam_token_con (x dx f ca c' : Nat) (text : Str) (pl : Nat) (k1 k2 t1 t2 : Tok) (pm ctv : Value) (oc oca : Obj) (ocs : Array Value) (tq : Tok) (hcd : oc.data = .fields ocs) (hcq : ocs[1]? = some (.str lamQ tq)) (hca : oca.data = .cell (some (.ref x)))
    (hlen : text.length < 1000000) (hne : dx < x) (hasc : ∀ c ∈ text.cps.toList, c < 128) (hs : ((text.cps.toList[pl]?).map ncB).getD false = false) :
    ConR prog w B 50 (.ref f) [] [(f, lamO ca (Str.ofString "token") [] ⟨202, 8, 202, 15⟩ ⟨202, 8, 202, 21⟩ ⟨202, 8, 202, 23⟩ pm c' ctv), (c', oc), (ca, oca), (x, instObj 221 dx), (dx, scD w text pl k1 k2 t1 t2)] [] pl := by
  intro A s R outer C k
  obtain ⟨ah, ad, af, ag, au⟩ := A
  obtain rfl : ah = none := C.ha
  refine' enterL G C (by decide) (.head _) (.tail _ (.head _)) hcd hcq ?_
  intro g L' h₁ Q E tk gr hQ hE F N X' T' st ff
  have hA : ad ≤ _ := C.lv
  have hu : au ≤ _ := C.un
  have hh := C.ha
  have hfr : af = some outer := C.fr
  dsimp only [lamB, lamE]
  refine MethodCall_ ?_
  refine nameX_F (c := ca) N rfl (by k_mem) hca ?_
  repeat ((fail_if_success (with_reducible show wpAny _ _ (call (Value.ref _) _) _ _ _)); walk1)
  refine' con_useR (tokenR_con G _ _ _ _ _ _ _ _ hlen hne hasc hs) (by assumption) (by assumption) gr st ff (Around.frames_deeper hfr) rfl (fun z => nomatch z) (by walk_at "m_lvl") (by walk_at "m_lvl") (by rfl) (by walk_at "m_own") (fun q hq => nomatch hq) (rest := _) (fun q hq => ⟨hq, fun z => nomatch z⟩) ?_
  intro g' e1 d1 vs1 msg1 k0 t0 k1 t1 h' tk' F' N' gr st ff hT1 hsz1 hn1 hn2 hne1
  replace hn1 := allNe_of hn1
  replace hn2 := allNe_of hn2
  simp only [AllNe, and_true] at hn1 hn2
  repeat (have := And.left hn1; replace hn1 := And.right hn1)
  repeat (have := And.left hn2; replace hn2 := And.right hn2)
  refine hE _ _ ?_
  refine' raise_end (s := s) (e := e1) (dx := d1) (vs := vs1) (msg := msg1) (k0 := k0) (t0 := t0) (k1 := k1) (t1 := t1) ?zk C gr F' N' st ff ?z1 ?z2 ?z3 ?z4 hne1 hsz1 (.inr hT1) ?z5 ?z6 ?z7
  case z3 => k_mem
  case z4 => k_mem
  case zk => exact k
  case z1 => rfl
  case z2 => exact fun z => nomatch z
  case z5 => walk_at "m_all"
  case z6 => walk_at "m_all"
  case z7 => walk_at "m_same"
theorem lam_need_spaces_con (x dx f ca c' : Nat) (text : Str) (pl : Nat) (k1 k2 t1 t2 : Tok) (pm ctv : Value) (oc oca : Obj) (ocs : Array Value) (tq : Tok) (hcd : oc.data = .fields ocs) (hcq : ocs[1]? = some (.str lamQ tq)) (hca : oca.data = .cell (some (.ref x)))
    (hlen : text.length < 1000000) (hne : dx < x) (hs : ((text.cps.toList[pl]?).map spB).getD false = false) :
    ConR prog w B 50 (.ref f) [] [(f, lamO ca (Str.ofString "need_spaces") [] ⟨205, 8, 205, 15⟩ ⟨205, 8, 205, 27⟩ ⟨205, 8, 205, 29⟩ pm c' ctv), (c', oc), (ca, oca), (x, instObj 221 dx), (dx, scD w text pl k1 k2 t1 t2)] [] pl := by
  intro A s R outer C k
  obtain ⟨ah, ad, af, ag, au⟩ := A
  obtain rfl : ah = none := C.ha
  refine' enterL G C (by decide) (.head _) (.tail _ (.head _)) hcd hcq ?_
  intro g L' h₁ Q E tk gr hQ hE F N X' T' st ff
  have hA : ad ≤ _ := C.lv
  have hu : au ≤ _ := C.un
  have hh := C.ha
  have hfr : af = some outer := C.fr
  dsimp only [lamB, lamE]
  refine MethodCall_ ?_
  refine nameX_F (c := ca) N rfl (by k_mem) hca ?_
  repeat ((fail_if_success (with_reducible show wpAny _ _ (call (Value.ref _) _) _ _ _)); walk1)
  refine' con_useR (needR_con G _ _ _ _ _ _ _ _ hlen hne hs) (by assumption) (by assumption) gr st ff (Around.frames_deeper hfr) rfl (fun z => nomatch z) (by walk_at "m_lvl") (by walk_at "m_lvl") (by rfl) (by walk_at "m_own") (fun q hq => nomatch hq) (rest := _) (fun q hq => ⟨hq, fun z => nomatch z⟩) ?_
  intro g' e1 d1 vs1 msg1 k0 t0 k1 t1 h' tk' F' N' gr st ff hT1 hsz1 hn1 hn2 hne1
  replace hn1 := allNe_of hn1
  replace hn2 := allNe_of hn2
  simp only [AllNe, and_true] at hn1 hn2
  repeat (have := And.left hn1; replace hn1 := And.right hn1)
  repeat (have := And.left hn2; replace hn2 := And.right hn2)
  refine hE _ _ ?_
  refine' raise_end (s := s) (e := e1) (dx := d1) (vs := vs1) (msg := msg1) (k0 := k0) (t0 := t0) (k1 := k1) (t1 := t1) ?zk C gr F' N' st ff ?z1 ?z2 ?z3 ?z4 hne1 hsz1 (.inr hT1) ?z5 ?z6 ?z7
  case z3 => k_mem
  case z4 => k_mem
  case zk => exact k
  case z1 => rfl
  case z2 => exact fun z => nomatch z
  case z5 => walk_at "m_all"
  case z6 => walk_at "m_all"
  case z7 => walk_at "m_same"
theorem lam_quoted_con (x dx f ca c' : Nat) (text : Str) (pl : Nat) (k1 k2 t1 t2 : Tok) (pm ctv : Value) (oc oca : Obj) (ocs : Array Value) (tq : Tok) (hcd : oc.data = .fields ocs) (hcq : ocs[1]? = some (.str lamQ tq)) (hca : oca.data = .cell (some (.ref x)))
    (hlen : text.length < 1000000) (hne : dx < x) (hs : Txt.startswith3 text (Str.ofString "\"") pl = false) (hs2 : Txt.startswith3 text (Str.ofString "'") pl = false) :
    ConR prog w B 50 (.ref f) [] [(f, lamO ca (Str.ofString "quoted") [] ⟨208, 8, 208, 15⟩ ⟨208, 8, 208, 22⟩ ⟨208, 8, 208, 24⟩ pm c' ctv), (c', oc), (ca, oca), (x, instObj 221 dx), (dx, scD w text pl k1 k2 t1 t2)] [] pl := by
  intro A s R outer C k
  obtain ⟨ah, ad, af, ag, au⟩ := A
  obtain rfl : ah = none := C.ha
  refine' enterL G C (by decide) (.head _) (.tail _ (.head _)) hcd hcq ?_
  intro g L' h₁ Q E tk gr hQ hE F N X' T' st ff
  have hA : ad ≤ _ := C.lv
  have hu : au ≤ _ := C.un
  have hh := C.ha
  have hfr : af = some outer := C.fr
  dsimp only [lamB, lamE]
  refine MethodCall_ ?_
  refine nameX_F (c := ca) N rfl (by k_mem) hca ?_
  repeat ((fail_if_success (with_reducible show wpAny _ _ (call (Value.ref _) _) _ _ _)); walk1)
  refine' con_useR (quotedR_con G _ _ _ _ _ _ _ _ hlen hne hs hs2) (by assumption) (by assumption) gr st ff (Around.frames_deeper hfr) rfl (fun z => nomatch z) (by walk_at "m_lvl") (by walk_at "m_lvl") (by rfl) (by walk_at "m_own") (fun q hq => nomatch hq) (rest := _) (fun q hq => ⟨hq, fun z => nomatch z⟩) ?_
  intro g' e1 d1 vs1 msg1 k0 t0 k1 t1 h' tk' F' N' gr st ff hT1 hsz1 hn1 hn2 hne1
  replace hn1 := allNe_of hn1
  replace hn2 := allNe_of hn2
  simp only [AllNe, and_true] at hn1 hn2
  repeat (have := And.left hn1; replace hn1 := And.right hn1)
  repeat (have := And.left hn2; replace hn2 := And.right hn2)
  refine hE _ _ ?_
  refine' raise_end (s := s) (e := e1) (dx := d1) (vs := vs1) (msg := msg1) (k0 := k0) (t0 := t0) (k1 := k1) (t1 := t1) ?zk C gr F' N' st ff ?z1 ?z2 ?z3 ?z4 hne1 hsz1 (.inr hT1) ?z5 ?z6 ?z7
  case z3 => k_mem
  case z4 => k_mem
  case zk => exact k
  case z1 => rfl
  case z2 => exact fun z => nomatch z
  case z5 => walk_at "m_all"
  case z6 => walk_at "m_all"
  case z7 => walk_at "m_same"
end
set_option maxRecDepth 100000
set_option maxHeartbeats 8000000
theorem ln26 : True := by
  k_with_none
  k_with "M subscriptTail Name Constant ref int" => (k_here; (with_reducible show wpAny _ _ (subscriptTail _ _ (Value.ref _) (Value.int _ _)) _ _ _); k_dflt (refine' Mine.item_N ?k0 ?k1 ?k2 ?k3 ?k4 ?_ ?k6; (case k0 => k_asm); (case k1 => k_mem); (case k2 => decide); (case k3 => decide); (case k4 => rfl); (case k6 => with_unfolding_all rfl); k_whole))
  k_with "M m_new" => first | exact List.forall_mem_nil _ | (refine' List.forall_mem_cons.mpr ⟨And.intro ?mzA ?mzB, ?mzC⟩; (case mzA => k_mem); (case mzB => (try dsimp only); first | exact Or.inl (by k_mem) | exact Or.inr (by walk_at "m_all")); (case mzC => walk_at "m_new"))
  k_with "M m_spl" => first | exact Mine.Spl.head | exact (Mine.Spl.tail Mine.Spl.head) | exact (Mine.Spl.tail (Mine.Spl.tail Mine.Spl.head)) | exact (Mine.Spl.tail (Mine.Spl.tail (Mine.Spl.tail Mine.Spl.head))) | exact (Mine.Spl.tail (Mine.Spl.tail (Mine.Spl.tail (Mine.Spl.tail Mine.Spl.head)))) | exact (Mine.Spl.tail (Mine.Spl.tail (Mine.Spl.tail (Mine.Spl.tail (Mine.Spl.tail Mine.Spl.head))))) | exact (Mine.Spl.tail (Mine.Spl.tail (Mine.Spl.tail (Mine.Spl.tail (Mine.Spl.tail (Mine.Spl.tail Mine.Spl.head)))))) | exact (Mine.Spl.tail (Mine.Spl.tail (Mine.Spl.tail (Mine.Spl.tail (Mine.Spl.tail (Mine.Spl.tail (Mine.Spl.tail Mine.Spl.head))))))) | exact (Mine.Spl.tail (Mine.Spl.tail (Mine.Spl.tail (Mine.Spl.tail (Mine.Spl.tail (Mine.Spl.tail (Mine.Spl.tail (Mine.Spl.tail Mine.Spl.head)))))))) | exact (Mine.Spl.tail (Mine.Spl.tail (Mine.Spl.tail (Mine.Spl.tail (Mine.Spl.tail (Mine.Spl.tail (Mine.Spl.tail (Mine.Spl.tail (Mine.Spl.tail Mine.Spl.head))))))))) | exact (Mine.Spl.tail (Mine.Spl.tail (Mine.Spl.tail (Mine.Spl.tail (Mine.Spl.tail (Mine.Spl.tail (Mine.Spl.tail (Mine.Spl.tail (Mine.Spl.tail (Mine.Spl.tail Mine.Spl.head)))))))))) | exact (Mine.Spl.tail (Mine.Spl.tail (Mine.Spl.tail (Mine.Spl.tail (Mine.Spl.tail (Mine.Spl.tail (Mine.Spl.tail (Mine.Spl.tail (Mine.Spl.tail (Mine.Spl.tail (Mine.Spl.tail Mine.Spl.head))))))))))) | exact (Mine.Spl.tail (Mine.Spl.tail (Mine.Spl.tail (Mine.Spl.tail (Mine.Spl.tail (Mine.Spl.tail (Mine.Spl.tail (Mine.Spl.tail (Mine.Spl.tail (Mine.Spl.tail (Mine.Spl.tail (Mine.Spl.tail Mine.Spl.head)))))))))))) | exact (Mine.Spl.tail (Mine.Spl.tail (Mine.Spl.tail (Mine.Spl.tail (Mine.Spl.tail (Mine.Spl.tail (Mine.Spl.tail (Mine.Spl.tail (Mine.Spl.tail (Mine.Spl.tail (Mine.Spl.tail (Mine.Spl.tail (Mine.Spl.tail Mine.Spl.head)))))))))))))
  k_with "M m_own" => first | exact List.forall_mem_nil _ | (refine' List.forall_mem_cons.mpr ⟨?mzA, ?mzB⟩; (case mzA => k_mem); (case mzB => walk_at "m_own"))
  k_with "M m_lvl" => first | exact lv_le 3 rfl (by assumption) rfl | exact lv_le 1 rfl (by assumption) rfl | exact lv_le 0 rfl (by assumption) rfl | exact lv_le 2 rfl (by assumption) rfl | ((try simp only [depth_under_make, depth_under_kw, depth_in1, depth_deeper, units_in1, units_deeper, units_under_make, Around.mark_units]); (try dsimp only); omega)
  k_with "M call builtin:len" => (k_here; (with_reducible show wpAny _ _ (call (Value.builtin "len") [Value.ref _]) _ _ _); k_dflt (refine' Mine.len_N ?k0 ?k1 ?k2 ?_; (case k0 => k_asm); (case k1 => k_mem); (case k2 => (try simp only [List.length_cons, List.length_nil]); omega); k_whole))
  k_with "M m_ne0" => (replace l1 := ne0_of l1; (try simp only [NewNe0, AllNe, and_true, and_assoc] at l1); (repeat (have := And.left l1; replace l1 := And.right l1)))
  k_with "M m_ne1" => (replace l1 := ne1_of l1; (try simp only [NewNe1, AllNe, and_true, true_or, true_and, and_assoc] at l1); (repeat (have := And.left l1; replace l1 := And.right l1)))
  k_with "M exec Raise some none" => (k_here; k_dflt (refine' Mine.raise_stmt ?hh ?_; (case hh => first | rfl | assumption)))
  k_with "M pyIter ref" => ((with_reducible show wpAny _ _ _ (fun it s₂ => UnrAt _ _ _ _ _ _ _ _ _ it s₂) _ _); (k_dflt (refine' Iter_tuple_unr ?hh ?ht ?F ?N ?htL ?_; (case F => k_asm); (case N => k_asm); (case hh => assumption); (case ht => exact News.isTup (by assumption) (by k_mem)); (case htL => exact News.ne_locals (by assumption) (by k_mem)))))
  k_with "M eval Name" => (k_here; (with_reducible show wpAny _ _ (eval (Expr.Name _ _) (envOfC _ _ _ _ _)) _ _ _); k_dflt (refine' nameX_L ?nxF ?nxV ?_; (case nxF => k_asm); (case nxV => rfl); k_whole))
  k_with "M m_sub" => first | exact List.forall_mem_nil _ | (refine' List.forall_mem_cons.mpr ⟨?mzA, ?mzB⟩; (case mzA => k_mem); (case mzB => walk_at "m_sub")) | (intro mzp mzh; k_mem)
  k_with "M m_off" => first | exact True.intro | assumption | (refine And.intro ⟨by k_ne, by k_ne, by k_ne⟩ ?_; walk_at "m_off")
  k_with "M m_same" => first | exact List.forall_mem_nil _ | (refine' List.forall_mem_cons.mpr ⟨?mzA, ?mzB⟩; (case mzA => (try dsimp only); first | exact Or.inl (by k_mem) | exact Or.inr (by k_mem)); (case mzB => walk_at "m_same")) | simp
  k_with "M m_all" => first | exact List.forall_mem_nil _ | (refine' List.forall_mem_cons.mpr ⟨?mzA, ?mzB⟩; (case mzA => k_ne); (case mzB => walk_at "m_all")) | assumption
  k_with "M om" => first | ((repeat (with_reducible rename (_ ≠ _) => hz9; clear hz9)); omega) | omega
  k_with "M m_ltp" => first | with_reducible assumption | (with_reducible rename (_ < _ ∧ _) => hq9; first | with_reducible exact hq9.1 | with_reducible exact hq9.2.1 | with_reducible exact hq9.2.2.1 | with_reducible exact hq9.2.2.2.1 | with_reducible exact hq9.2.2.2.2.1 | with_reducible exact hq9.2.2.2.2.2.1 | with_reducible exact hq9.2 | with_reducible exact hq9.2.2 | with_reducible exact hq9.2.2.2 | with_reducible exact hq9.2.2.2.2 | with_reducible exact hq9.2.2.2.2.2 | (clear hq9; walk_at "m_ltp"))
  k_with "M m_nel" => first | exact Nat.ne_of_lt (by walk_at "m_ltp") | exact Nat.ne_of_gt (by walk_at "m_ltp") | exact ne_lt_k 1 rfl (by walk_at "m_ltp") | exact ne_lt_k 2 rfl (by walk_at "m_ltp") | exact ne_lt_k 3 rfl (by walk_at "m_ltp") | exact ne_lt_k 4 rfl (by walk_at "m_ltp") | exact ne_gt_k 1 rfl (by walk_at "m_ltp") | exact ne_gt_k 2 rfl (by walk_at "m_ltp") | exact ne_gt_k 3 rfl (by walk_at "m_ltp") | exact ne_gt_k 4 rfl (by walk_at "m_ltp")
  k_with "M execs cons" => (k_here; (try k_gentoks); (with_reducible refine wpAny_execs_cons ?_); (try k_fold); (try dsimp only))
  trivial
section
variable {prog : Program} {w : World} {mean : ExcName → Option Value} {mg mb : Str → Option Value} {B : Heap} (G : Gd w mean mg mb B)
include G
theorem refused_con (x dx f : Nat) (text : Str) (pl : Nat) (k1 k2 t1 t2 : Tok) (own : List (Addr × Obj)) (hxo : (x, instObj 221 dx) ∈ own) (hdo : (dx, scD w text pl k1 k2 t1 t2) ∈ own) (hpl : pl < 1000000) (fc : Value) (fdi : Option Addr) (fd : FuncData) (fsl : Array (Option Value)) (hfo : (f, (⟨fc, fdi, .func fd, fsl⟩ : Obj)) ∈ own)
    (K : ConR prog w B 50 (.ref f) [] own [] pl) :
    ConF prog w B 48 (.ref 272) [.ref x, .ref f] own [] (fun v new => new = [] ∧ v = .bool true) := by
  intro A s R outer C k
  obtain ⟨ah, ad, af, ag, au⟩ := A
  obtain rfl : ah = none := C.ha
  refine' enterF G C (by decide) (binds := [("scanner", Value.ref x), ("call", Value.ref f)]) (rb := [("call", Value.ref f), ("scanner", Value.ref x)]) ?ho ?hcd ?hb ?hl rfl ?k ?c1 ?c2 ?c3 ?c4
  case ho => k_is
  case hcd => k_is
  case hb => first | exact BindsTo.of_eq rfl | exact binds_K (G.X.keeps C.st) rfl (by k_is) rfl rfl rfl
  case hl => exact locs rfl
  case c1 => rfl
  case c2 => rfl
  case c3 => rfl
  case c4 => decide
  case k =>
    intro g L' h₁ m Q E tk gr hm hQ hQn hE hP F N X' T' st ff
    subst hm
    have hA : ad ≤ _ := C.lv
    have hu : au ≤ _ := C.un
    have hh := C.ha
    have hfr : af = some outer := C.fr
    repeat ((fail_if_success (with_reducible show wpAny _ _ (exec (Stmt.Try _ _ _ _ _) _) _ _ _)); walk1)
    repeat ((fail_if_success (with_reducible show wpAny _ _ (callWith _ (Value.ref _) _ _ _) _ _ _)); walk1)
    refine callWith_F0 (FnAt.of ‹News g L' _ _› hfo) ?_
    dsimp only [List.nil_append]
    refine' con_useR K (by assumption) (by assumption) gr st ff (Around.frames_deeper hfr) rfl (fun z => nomatch z) (by walk_at "m_lvl") (by walk_at "m_lvl") (by rfl) (fun q hq => hq) (fun q hq => nomatch hq) (rest := own) (fun q hq => ⟨hq, fun z => nomatch z⟩) ?_
    intro g' e1 d1 vs1 msg1 k0 t0 k1' t1' h' tk' F' N' gr st ff hT1 hsz1 hn1 hn2 hne1
    refine caught G F' N' gr st ff hfr hT1 hsz1 hn1 hne1 rfl rfl ?_
    clear F' N' gr st ff
    intro g2 vs2 h2 F2 N2 gr st ff
    have X' := G.X.keeps st
    have T' := G.T.keeps st
    dsimp only [SuiteK]
    k_steps
    refine exc_place ((G.X.keeps st).keeps (Fr.keep ‹Fr g2 L' _ _›)) (‹News g2 L' _ _› _ (.head _)).1 (‹News g2 L' _ _› _ (.tail _ (.head _))).1 ?_
    (try dsimp only)
    k_steps
    all_goals exact hQ _ _ (con_endF (s := s) [] k C gr (by assumption) (by assumption) (fun q hq => .inr (.tail _ (.tail _ hq))) (by walk_at "m_new") ⟨rfl, congrArg Value.bool (by simp)⟩)
end
set_option maxRecDepth 100000
set_option maxHeartbeats 8000000
/-- the table of code objects of the lambdas: what it holds stands in the ledger -/
noncomputable def TabOk (cs : List (Addr × Obj)) (ps : Array Value) : Prop :=
  TriplesOk ps.toList ∧ ∀ pos cv, codeAmong pos ps.toList = some cv → ∃ c' oc vs t, cv = .ref c' ∧ (c', oc) ∈ cs ∧ oc.data = .fields vs ∧ vs[1]? = some (.str lamQ t)
theorem tabOk_nil : TabOk [] #[] := ⟨trivial, fun _ _ h => nomatch h⟩
theorem among_snoc {pos : Pos} {a b : Int} {c cv : Value} (l : List Value) (h : TriplesOk l) : codeAmong pos (l ++ [rawInt a, rawInt b, c]) = some cv → codeAmong pos l = some cv ∨ cv = c := by
  fun_induction TriplesOk l with
  | case1 =>
    intro e
    simp only [List.nil_append, codeAmong, rawInt] at e
    split at e
    · cases e; exact .inr rfl
    · cases e
  | case2 a' t b' u x rest ih =>
    intro e
    simp only [List.cons_append, codeAmong] at e ⊢
    split at e
    · rename_i z; rw [if_pos z]; exact .inl e
    · rename_i z; rw [if_neg z]; exact ih h e
  | case3 => exact absurd h (by simp)
theorem TabOk.mono {cs cs' : List (Addr × Obj)} {ps : Array Value} (h : TabOk cs ps) (s : ∀ q ∈ cs, q ∈ cs') : TabOk cs' ps :=
  ⟨h.1, fun pos cv e => let ⟨c', oc, vs, t, a, b, r⟩ := h.2 pos cv e; ⟨c', oc, vs, t, a, s _ b, r⟩⟩
theorem TabOk.snoc {cs : List (Addr × Obj)} {ps : Array Value} {a b : Int} {c' : Addr} {oc : Obj} {vs : Array Value} {t : Tok} (h : TabOk cs ps) (hd : oc.data = .fields vs) (hv : vs[1]? = some (.str lamQ t)) :
    TabOk ((c', oc) :: cs) (ps ++ #[rawInt a, rawInt b, .ref c']) := by
  have hl : (ps ++ #[rawInt a, rawInt b, Value.ref c']).toList = ps.toList ++ [rawInt a, rawInt b, .ref c'] := by simp
  refine ⟨by rw [hl]; exact TriplesOk_snoc _ _ _ _ h.1, fun pos cv e => ?_⟩
  rw [hl] at e
  rcases among_snoc _ h.1 e with e | e
  · obtain ⟨c'', oc', vs', t', a, b, r⟩ := h.2 pos cv e
    exact ⟨c'', oc', vs', t', a, .tail _ b, r⟩
  · exact ⟨c', oc, vs, t, e, .head _, hd, hv⟩
theorem Spl.cases {a : Addr} {o : Obj} {l r : List (Addr × Obj)} (x : Spl a o l r) : ∀ q ∈ l, q = (a, o) ∨ q ∈ r := by
  induction x with
  | head => exact fun q hq => (List.mem_cons.mp hq).imp id id
  | tail _ ih =>
    intro q hq
    rcases List.mem_cons.mp hq with rfl | hq
    · exact .inr (.head _)
    · exact (ih q hq).imp id fun z => .tail _ z
/-- the sign at a place, or none -/
noncomputable def sgn (text : Str) (pl : Nat) : Str := match text.cps.toList[pl]? with
  | none => Str.ofString ""
  | some c => ⟨#[c]⟩
noncomputable abbrev cbB (text : Str) (pl : Nat) : Bool := ((text.cps.toList[pl]?).map nsB).getD false
noncomputable abbrev cstB (text : Str) (pl : Nat) : Bool := ((text.cps.toList[pl]?).map ncB).getD false
noncomputable abbrev spAt (text : Str) (pl : Nat) : Bool := ((text.cps.toList[pl]?).map spB).getD false
theorem slice_end (x : Str) : Txt.slice x (some (x.length : Int)) (some ((x.length : Int) + 1)) = Txt.slice x (some (x.length : Int)) (some (x.length : Int)) := by
  unfold Txt.slice
  have e : Builtin.Str.strSliceIndices (some (x.length : Int)) (some ((x.length : Int) + 1)) 1 x.length = Builtin.Str.strSliceIndices (some (x.length : Int)) (some (x.length : Int)) 1 x.length := by
    unfold Builtin.Str.strSliceIndices
    have a : ¬ ((x.length : Int) + 1 < 0) := by omega
    have b : ¬ ((x.length : Int) < 0) := by omega
    have c : min ((x.length : Int) + 1) (x.length : Int) = (x.length : Int) := by omega
    simp [a, b, c]
  rw [e]
theorem slice_sgn {text : Str} {pl : Nat} (h : pl ≤ text.length) : Txt.slice text (some (pl : Int)) (some ((pl : Int) + 1)) = sgn text pl := by
  unfold sgn
  cases e : text.cps.toList[pl]? with
  | some c =>
    have hl : pl < text.cps.toList.length := (List.getElem?_eq_some_iff.mp e).1
    have hl' : pl + 1 ≤ text.length := hl
    have := slice_sub text (i := pl) (j := pl + 1) (by omega) hl'
    rw [Int.natCast_add] at this
    refine this.trans ?_
    unfold sub
    rw [Nat.add_sub_cancel_left, List.drop_eq_getElem_cons hl]
    have ec := (List.getElem?_eq_some_iff.mp e).2
    simp [ec]
  | none =>
    have hl : text.cps.toList.length ≤ pl := List.getElem?_eq_none_iff.mp e
    have hp : pl = text.length := by
      have : text.cps.toList.length = text.length := rfl
      omega
    subst hp
    rw [slice_end, slice_sub text (Nat.le_refl _) (Nat.le_refl _)]
    unfold sub
    rw [Nat.sub_self, List.take_zero]; rfl
theorem sgn_nil {text : Str} {pl : Nat} (h : pl ≤ text.length) : (sgn text pl == Str.ofString "") = decide ((text.length : Int) ≤ (pl : Int)) := by
  unfold sgn
  cases e : text.cps.toList[pl]? with
  | some c =>
    have hl : pl < text.cps.toList.length := (List.getElem?_eq_some_iff.mp e).1
    have hl' : ¬ ((text.length : Int) ≤ (pl : Int)) := by simp [Str.length] at hl ⊢; exact hl
    rw [decide_eq_false hl']
    exact beq_eq_false_iff_ne.mpr fun h => by have := congrArg (fun s : Str => s.cps.size) h; simp at this; exact absurd this (by decide)
  | none =>
    have hl : text.cps.toList.length ≤ pl := List.getElem?_eq_none_iff.mp e
    have hl' : ((text.length : Int) ≤ (pl : Int)) := by simp [Str.length] at hl ⊢; exact hl
    rw [decide_eq_true hl']; exact beq_self_eq_true _
theorem occ_any (x : Str) (l : List Nat) (hl : x.cps.toList = l) (c : Nat) : (Builtin.Str.occurrences x ⟨#[c]⟩ 0 x.length 1).isEmpty = !(l.contains c) := by
  have h := StrLaws.found_one x c
  rw [hl] at h
  rw [← Bool.not_not (Builtin.Str.occurrences x ⟨#[c]⟩ 0 x.length 1).isEmpty, h]
  simp
theorem occ_und (c : Nat) : (Builtin.Str.occurrences (Str.ofString "_:") ⟨#[c]⟩ 0 (Str.ofString "_:").length 1).isEmpty = !([95, 58].contains c) := occ_any _ _ (by decide) c
theorem occ_dig (c : Nat) : (Builtin.Str.occurrences (Str.ofString "0123456789-.") ⟨#[c]⟩ 0 (Str.ofString "0123456789-.").length 1).isEmpty = !([48, 49, 50, 51, 52, 53, 54, 55, 56, 57, 45, 46].contains c) := occ_any _ _ (by decide) c
theorem ns_no {A B C D E F : Prop} (h : ((A ∧ B ∨ C ∧ D) ∨ E) ∨ F) (n : (((¬A ∨ ¬B) ∧ (¬C ∨ ¬D)) ∧ ¬E) ∧ ¬F) : False :=
  h.elim (fun h => h.elim (fun h => h.elim (fun h => n.1.1.1.elim (fun z => z h.1) (fun z => z h.2)) (fun h => n.1.1.2.elim (fun z => z h.1) (fun z => z h.2))) n.1.2) n.2
theorem occ_digR {c : Nat} (h : c < 128) : (Builtin.Str.occurrences (Str.ofString "0123456789-.") ⟨#[c]⟩ 0 (Str.ofString "0123456789-.").length 1).isEmpty = !(decide (48 ≤ c) && decide (c ≤ 57) || c == 45 || c == 46) := by
  rw [occ_dig]
  congr 1
  revert c
  decide
theorem occ_sp (c : Nat) : (Builtin.Str.occurrences (Str.ofString " \n\t\x0d") ⟨#[c]⟩ 0 (Str.ofString " \n\t\x0d").length 1).isEmpty = !([32, 10, 9, 13].contains c) := occ_any _ _ (by decide) c
theorem occ_quo (c : Nat) : (Builtin.Str.occurrences (Str.ofString "'\"") ⟨#[c]⟩ 0 (Str.ofString "'\"").length 1).isEmpty = !([39, 34].contains c) := occ_any _ _ (by decide) c
theorem sgn_some {text : Str} {pl c : Nat} (h : text.cps.toList[pl]? = some c) : sgn text pl = ⟨#[c]⟩ := by unfold sgn; rw [h]
theorem sgn_none {text : Str} {pl : Nat} (h : text.cps.toList[pl]? = none) : sgn text pl = Str.ofString "" := by unfold sgn; rw [h]
theorem nev_cps : (Str.ofString "never").cps.toList = 110 :: [101, 118, 101, 114] := by decide
theorem sw_never {text : Str} {pl : Nat} (hp : pl ≤ text.length) (hn : ∀ c ∈ text.cps.toList, c ≠ 110) : Txt.startswith3 text (Str.ofString "never") (pl : Int) = false := by
  rw [sw_eq _ _ _ hp, nev_cps]
  exact no_never fun c hc => hn c (List.mem_of_mem_drop hc)
theorem find_never {text : Str} {pl : Nat} (hp : pl ≤ text.length) (hn : ∀ c ∈ text.cps.toList, c ≠ 110) : Txt.find3 text (Str.ofString "never") (pl : Int) = -1 := by
  rw [find_eq _ _ _ hp, nev_cps, no_fnd fun c hc => hn c (List.mem_of_mem_drop hc)]
section
variable {M : Model} {A : Around} {E : Value → Shared → Prop} {s : Shared} {h₀ : Heap} {L a c P : Addr} {m mg mb : Str → Option Value} {cn : Str} {csc : Scope} {cl : List (Str × Addr)} {news rest cs : List (Addr × Obj)}
  {p : Program} {loose : List Str} {mean : ExcName → Option Value} {params : Arguments} {body : PySem.Expr} {scope : Scope} {ps : Array Value} {pos : Pos} {clos : List (Str × Addr)}
/-- a lambda is made: its code object is a new one, or that of an earlier turn -/
theorem lam_make {Q : Value → Shared → Prop} (F : Fr h₀ L s.heap m) (N : News h₀ L s.heap news) (T : Top p loose mean mg mb h₀) (C : CodeHd h₀ c P) (sp : Spl P (tabObj ps) news rest) (hne : ∀ q ∈ rest, q.1 ≠ P) (ht : TabOk cs ps) (hcs : ∀ q ∈ cs, q ∈ news)
    (hdef : defaultsOf params (envX cn csc L a (.ref c) cl) = ([], [])) (hcl : closureFor scope (envX cn csc L a (.ref c) cl) = pure clos) (hq : (envX cn csc L a (.ref c) cl).qual ++ "<lambda>" = lamQ)
    (h : ∀ f c' oc vs t ctv h' tk new ps', Fr h₀ L h' m → News h₀ L h' ((f, kla_obj "<lambda>" lamQ params body scope clos ((mg "__name__").getD .none) c' ctv) :: (P, tabObj ps') :: (new ++ rest)) → TabOk (new ++ cs) ps' → (c', oc) ∈ new ++ cs → oc.data = .fields vs → vs[1]? = some (.str lamQ t) →
      (∀ q ∈ new, ∀ p ∈ news, p.1 ≠ q.1) → (∀ p ∈ news, p.1 ≠ f) → (∀ q ∈ new, q.1 ≠ f) → Q (.ref f) { s with heap := h', toks := tk }) :
    wpAny M A (eval (.Lambda params body scope pos) (envX cn csc L a (.ref c) cl)) Q E s := by
  refine kla_eval hdef ?_
  rw [hq]
  have N' : News h₀ L s.heap ((P, tabObj ps) :: rest) := News.of N fun q hq => (List.mem_cons.mp hq).elim (fun z => z ▸ sp.mem) fun z => sp.sub q z
  cases e : codeAmong pos ps.toList with
  | none =>
    refine kla_nest F N' T C rfl (.head hne) ht.1 e hcl fun f c' oc vs t ctv h' tk F' N'' hd hv l1 l2 => ?_
    have l3 : ∀ q ∈ news, q.1 < c' := fun q hq => (sp.cases q hq).elim (fun z => l1 q (z ▸ .head _)) fun z => l1 q (.tail _ z)
    refine h f c' oc vs t ctv h' tk [(c', oc)] (ps ++ #[rawInt pos.line, rawInt pos.col, .ref c']) F' (News.of N'' fun q hq => ?_) (ht.snoc hd hv) (.head _) hd hv (fun q hq p hp => ?_) (fun p hp => Nat.ne_of_lt (Nat.lt_trans (l3 p hp) l2)) fun q hq => ?_
    · rcases List.mem_cons.mp hq with rfl | hq
      · exact .head _
      · rcases List.mem_cons.mp hq with rfl | hq
        · exact .tail _ (.tail _ (.head _))
        · rcases List.mem_append.mp hq with hq | hq
          · rw [List.mem_singleton.mp hq]; exact .tail _ (.head _)
          · exact .tail _ (.tail _ (.tail _ hq))
    · rw [List.mem_singleton.mp hq]; exact Nat.ne_of_lt (l3 p hp)
    · rw [List.mem_singleton.mp hq]; exact Nat.ne_of_lt l2
  | some cv =>
    obtain ⟨c', oc, vs, t, rfl, hm, hd, hv⟩ := ht.2 _ _ e
    refine kla_hit F N T C rfl sp.mem ht.1 e hcl fun f ctv h' tk F' N'' l1 => ?_
    refine h f c' oc vs t ctv h' tk [] ps F' (News.of N'' fun q hq => ?_) ht hm hd hv (fun q hq => nomatch hq) (fun p hp => Nat.ne_of_lt (l1 p hp)) fun q hq => nomatch hq
    rcases List.mem_cons.mp hq with rfl | hq
    · exact .head _
    · rcases List.mem_cons.mp hq with rfl | hq
      · exact .tail _ sp.mem
      · exact .tail _ (sp.sub q (by simpa using hq))
end
set_option maxRecDepth 100000
set_option maxHeartbeats 8000000
noncomputable abbrev oMap (text : Str) (tt tp : Tok) (pl : Nat) (u1 u2 u3 u4 : Option Value) : Str → Option Value := fun y =>
  if y = Str.ofString "calls" then u4 else if y = Str.ofString "can_stand" then u3 else if y = Str.ofString "can_begin" then u2 else if y = Str.ofString "sign" then u1 else if y = Str.ofString "place" then some (Value.int (pl : Int) tp) else if y = Str.ofString "text" then some (Value.str text tt) else none
set_option autoImplicit false in
inductive LamOk (prog : Program) (w : World) (B : Heap) (x dx : Addr) (text : Str) (pl : Nat) (k1 k2 t1 t2 : Tok) (news : List (Addr × Obj)) (v : Value) : Prop
  | mk (f : _) (fc : _) (fdi : _) (fd : _) (fsl : _) (own : _) (z0 : v = .ref f) (z1 : (∀ q ∈ own, q ∈ news)) (z2 : (x, instObj 221 dx) ∈ own) (z3 : (dx, scD w text pl k1 k2 t1 t2) ∈ own) (z4 : (f, (⟨fc, fdi, .func fd, fsl⟩ : Obj)) ∈ own) (z5 : ConR prog w B 50 (.ref f) [] own [] pl) : LamOk prog w B x dx text pl k1 k2 t1 t2 news v
theorem LamOk.mono {prog : Program} {w : World} {B : Heap} {x dx : Addr} {text : Str} {pl : Nat} {k1 k2 t1 t2 : Tok} {a b : List (Addr × Obj)} {v : Value} (z : LamOk prog w B x dx text pl k1 k2 t1 t2 a v) (h : ∀ q ∈ a, q ∈ b) : LamOk prog w B x dx text pl k1 k2 t1 t2 b v := by
  obtain ⟨f, fc, fdi, fd, fsl, own, e, s, r1, r2, r3, r4⟩ := z
  exact ⟨f, fc, fdi, fd, fsl, own, e, fun q hq => h q (s q hq), r1, r2, r3, r4⟩
theorem Spl.app {a : Addr} {o : Obj} {l r : List (Addr × Obj)} (x : Spl a o l r) : ∀ pre, Spl a o (pre ++ l) (pre ++ r)
  | [] => x
  | _ :: pre => .tail (Spl.app x pre)
/-- the ledger of a walk through _law_others_refused -/
noncomputable abbrev bl (C X D : Addr × Obj) (ps : Array Value) (new cs : List (Addr × Obj)) : List (Addr × Obj) := C :: X :: D :: (274, tabObj ps) :: (new ++ cs)
noncomputable abbrev bl0 (C X D : Addr × Obj) (new cs : List (Addr × Obj)) : List (Addr × Obj) := C :: X :: D :: (new ++ cs)
structure NewOk (C X D : Addr × Obj) (new cs : List (Addr × Obj)) (ps : Array Value) : Prop where
  tab : TabOk (new ++ cs) ps
  nc : ∀ q ∈ new, q.1 ≠ C.1
  nx : ∀ q ∈ new, q.1 ≠ X.1
  nd : ∀ q ∈ new, q.1 ≠ D.1
  nt : ∀ q ∈ new, q.1 ≠ 274
  ns : ∀ q ∈ new, ∀ p ∈ cs, p.1 ≠ q.1
theorem app_ne {a b : List (Addr × Obj)} {d : Addr} (h1 : ∀ q ∈ a, q.1 ≠ d) (h2 : ∀ q ∈ b, q.1 ≠ d) : ∀ q ∈ a ++ b, q.1 ≠ d := fun q hq => (List.mem_append.mp hq).elim (h1 q) (h2 q)
section
variable {M : Model} {A : Around} {E : Value → Shared → Prop} {s : Shared} {h₀ : Heap} {L a c : Addr} {m mg mb : Str → Option Value} {cn : Str} {csc : Scope} {cl : List (Str × Addr)} {pre new cs : List (Addr × Obj)} {Cc Xx Dd : Addr × Obj}
  {p : Program} {loose : List Str} {mean : ExcName → Option Value} {params : Arguments} {body : PySem.Expr} {scope : Scope} {ps : Array Value} {pos : Pos} {clos : List (Str × Addr)}
theorem lam_step {Q : Value → Shared → Prop} (F : Fr h₀ L s.heap m) (N : News h₀ L s.heap (pre ++ bl Cc Xx Dd ps new cs)) (T : Top p loose mean mg mb h₀) (C : CodeHd h₀ c 274) (K : NewOk Cc Xx Dd new cs ps)
    (h1 : Cc.1 ≠ 274) (h2 : Xx.1 ≠ 274) (h3 : Dd.1 ≠ 274) (h4 : ∀ q ∈ cs, q.1 ≠ 274) (h5 : ∀ q ∈ pre, q.1 ≠ 274)
    (h : ∀ f c' oc vs t ctv h' tk new' ps', Fr h₀ L h' m → News h₀ L h' (pre ++ bl Cc Xx Dd ps' new' cs) → NewOk Cc Xx Dd new' cs ps' → (∀ q ∈ new, q ∈ new') → (∀ q ∈ new', q ∈ new ∨ ∀ p ∈ pre, p.1 ≠ q.1) →
      (f, kla_obj "<lambda>" lamQ params body scope clos ((mg "__name__").getD .none) c' ctv) ∈ new' ++ cs → (c', oc) ∈ new' ++ cs → oc.data = .fields vs → vs[1]? = some (.str lamQ t) → Q (.ref f) { s with heap := h', toks := tk })
    (hdef : defaultsOf params (envX cn csc L a (.ref c) cl) = ([], []) := by rfl) (hcl : closureFor scope (envX cn csc L a (.ref c) cl) = pure clos := by rfl) (hq : (envX cn csc L a (.ref c) cl).qual ++ "<lambda>" = lamQ := by rfl) :
    wpAny M A (eval (.Lambda params body scope pos) (envX cn csc L a (.ref c) cl)) Q E s := by
  have sp : Spl 274 (tabObj ps) (pre ++ bl Cc Xx Dd ps new cs) (pre ++ (Cc :: Xx :: Dd :: (new ++ cs))) := Spl.app (.tail (.tail (.tail .head))) _
  have inl : ∀ q ∈ pre, q ∈ pre ++ bl Cc Xx Dd ps new cs := fun q hq => List.mem_append_left _ hq
  have inr : ∀ q ∈ bl Cc Xx Dd ps new cs, q ∈ pre ++ bl Cc Xx Dd ps new cs := fun q hq => List.mem_append_right _ hq
  have inc : ∀ q ∈ new ++ cs, q ∈ pre ++ bl Cc Xx Dd ps new cs := fun q hq => inr _ (.tail _ (.tail _ (.tail _ (.tail _ hq))))
  refine lam_make F N T C sp (app_ne h5 (List.forall_mem_cons.mpr ⟨h1, List.forall_mem_cons.mpr ⟨h2, List.forall_mem_cons.mpr ⟨h3, app_ne K.nt h4⟩⟩⟩)) K.tab inc hdef hcl hq fun f c' oc vs t ctv h' tk n1 ps' F' N' ht hm hd hv l1 l2 l3 => ?_
  have fr : ∀ q ∈ ((f, kla_obj "<lambda>" lamQ params body scope clos ((mg "__name__").getD .none) c' ctv) :: n1), ∀ p ∈ pre ++ bl Cc Xx Dd ps new cs, p.1 ≠ q.1 := fun q hq p hp => by
    rcases List.mem_cons.mp hq with rfl | hq
    · exact l2 p hp
    · exact l1 q hq p hp
  have two : ∀ {P : Addr × Obj → Prop}, (∀ q ∈ (f, kla_obj "<lambda>" lamQ params body scope clos ((mg "__name__").getD .none) c' ctv) :: n1, P q) → (∀ q ∈ new, P q) → ∀ q ∈ ((f, kla_obj "<lambda>" lamQ params body scope clos ((mg "__name__").getD .none) c' ctv) :: n1) ++ new, P q := fun x y q hq => (List.mem_append.mp hq).elim (x q) (y q)
  refine h f c' oc vs t ctv h' tk (((f, kla_obj "<lambda>" lamQ params body scope clos ((mg "__name__").getD .none) c' ctv) :: n1) ++ new) ps' F' (News.of N' fun q hq => ?_)
    ⟨ht.mono fun q hq => ?_, two (fun q hq => (fr q hq Cc (inr _ (.head _))).symm) K.nc, two (fun q hq => (fr q hq Xx (inr _ (.tail _ (.head _)))).symm) K.nx, two (fun q hq => (fr q hq Dd (inr _ (.tail _ (.tail _ (.head _))))).symm) K.nd,
      two (fun q hq => (fr q hq (274, tabObj ps) (inr _ (.tail _ (.tail _ (.tail _ (.head _)))))).symm) K.nt, two (fun q hq p hp => fr q hq p (inc p (List.mem_append_right _ hp))) K.ns⟩
    (fun q hq => List.mem_append_right _ hq) (two (fun q hq => .inr fun p hp => fr q hq p (inl p hp)) fun q hq => .inl hq) (.head _) ?_ hd hv
  · rcases List.mem_append.mp hq with hq | hq
    · exact .tail _ (.tail _ (List.mem_append_right _ (List.mem_append_left _ hq)))
    · rcases List.mem_cons.mp hq with rfl | hq
      · exact .tail _ (.tail _ (List.mem_append_right _ (List.mem_append_right _ (.head _))))
      · rcases List.mem_cons.mp hq with rfl | hq
        · exact .tail _ (.tail _ (List.mem_append_right _ (List.mem_append_right _ (.tail _ (.head _)))))
        · rcases List.mem_cons.mp hq with rfl | hq
          · exact .tail _ (.tail _ (List.mem_append_right _ (List.mem_append_right _ (.tail _ (.tail _ (.head _))))))
          · rcases List.mem_cons.mp hq with rfl | hq
            · exact .tail _ (.head _)
            · rw [List.append_assoc] at hq
              rcases List.mem_append.mp hq with hq | hq
              · rcases List.mem_cons.mp hq with rfl | hq
                · exact .head _
                · exact .tail _ (.tail _ (List.mem_append_left _ hq))
              · exact .tail _ (.tail _ (List.mem_append_right _ (List.mem_append_right _ (.tail _ (.tail _ (.tail _ hq))))))
  · rw [List.append_assoc]
    rcases List.mem_append.mp hq with hq | hq
    · exact List.mem_append_left _ (.tail _ hq)
    · exact List.mem_append_right _ hq
  · rw [List.append_assoc]
    rcases List.mem_append.mp hm with hq | hq
    · exact List.mem_append_left _ (.tail _ hq)
    · exact List.mem_append_right _ hq
end
theorem lamOk_of {prog : Program} {w : World} {B : Heap} {x dx f c' ca : Addr} {text : Str} {pl : Nat} {k1 k2 t1 t2 : Tok} {fc : Value} {fdi : Option Addr} {fd : FuncData} {fsl : Array (Option Value)} {oc c1 : Obj} {new cs : List (Addr × Obj)}
    (hm1 : (f, (⟨fc, fdi, .func fd, fsl⟩ : Obj)) ∈ new ++ cs) (hm2 : (c', oc) ∈ new ++ cs)
    (K : ConR prog w B 50 (.ref f) [] [(f, ⟨fc, fdi, .func fd, fsl⟩), (c', oc), (ca, c1), (x, instObj 221 dx), (dx, scD w text pl k1 k2 t1 t2)] [] pl) :
    LamOk prog w B x dx text pl k1 k2 t1 t2 (bl0 (ca, c1) (x, instObj 221 dx) (dx, scD w text pl k1 k2 t1 t2) new cs) (.ref f) := by
  refine ⟨f, fc, fdi, fd, fsl, _, rfl, fun q hq => ?_, .tail _ (.tail _ (.tail _ (.head _))), .tail _ (.tail _ (.tail _ (.tail _ (.head _)))), .head _, K⟩
  rcases List.mem_cons.mp hq with rfl | hq
  · exact .tail _ (.tail _ (.tail _ hm1))
  · rcases List.mem_cons.mp hq with rfl | hq
    · exact .tail _ (.tail _ (.tail _ hm2))
    · rcases List.mem_cons.mp hq with rfl | hq
      · exact .head _
      · rcases List.mem_cons.mp hq with rfl | hq
        · exact .tail _ (.head _)
        · rw [List.mem_singleton.mp hq]; exact .tail _ (.tail _ (.head _))
theorem mem_up {a b cs : List (Addr × Obj)} {q : Addr × Obj} (h : ∀ q ∈ a, q ∈ b) (hq : q ∈ a ++ cs) : q ∈ b ++ cs :=
  (List.mem_append.mp hq).elim (fun z => List.mem_append_left _ (h q z)) fun z => List.mem_append_right _ z
theorem bl0_up {C X D : Addr × Obj} {a b cs : List (Addr × Obj)} (h : ∀ q ∈ a, q ∈ b) : ∀ q ∈ bl0 C X D a cs, q ∈ bl0 C X D b cs := fun q hq => by
  rcases List.mem_cons.mp hq with rfl | hq
  · exact .head _
  · rcases List.mem_cons.mp hq with rfl | hq
    · exact .tail _ (.head _)
    · rcases List.mem_cons.mp hq with rfl | hq
      · exact .tail _ (.tail _ (.head _))
      · exact .tail _ (.tail _ (.tail _ (mem_up h hq)))
theorem ne_of_allLt {d : Addr} : ∀ {l : List (Addr × Obj)}, AllLt d l → ∀ q ∈ l, q.1 ≠ d
  | [], _, _, h => nomatch h
  | p :: l, h, q, hq => by
    rcases List.mem_cons.mp hq with rfl | hq
    · exact Nat.ne_of_lt h.1
    · exact ne_of_allLt h.2 q hq
set_option autoImplicit false in
inductive CallsAt (prog : Program) (w : World) (B g : Heap) (L x dx : Addr) (text : Str) (pl : Nat) (k1 k2 t1 t2 : Tok) (m : Option Value → Str → Option Value) (c1 : Obj) (cs : List (Addr × Obj)) (s : Shared) (j : Nat) (s' : Shared) : Prop
  | mk (h : _) (tk : _) (D : _) (vs : List Value) (n : _) (ps : Array Value) (new : List (Addr × Obj)) (z0 : s' = { s with heap := h, toks := tk }) (z1 : Fr g L h (m (some (.ref D)))) (z2 : News g L h ((D, listOf vs.toArray n) :: bl (L + 1, c1) (x, instObj 221 dx) (dx, scD w text pl k1 k2 t1 t2) ps new cs)) (z3 : NewOk (L + 1, c1) (x, instObj 221 dx) (dx, scD w text pl k1 k2 t1 t2) new cs ps) (z4 : (∀ v ∈ vs, LamOk prog w B x dx text pl k1 k2 t1 t2 (bl0 (L + 1, c1) (x, instObj 221 dx) (dx, scD w text pl k1 k2 t1 t2) new cs) v)) (z5 : vs.length ≤ 2 + j) (z6 : (∀ q ∈ new, q.1 ≠ D)) (z7 : (∀ q ∈ cs, q.1 ≠ D)) (z8 : @Ne Nat (L + 1) D) (z9 : @Ne Nat x D) (z10 : @Ne Nat dx D) (z11 : @Ne Nat 274 D) : CallsAt prog w B g L x dx text pl k1 k2 t1 t2 m c1 cs s j s'
theorem occ_spB (c : Nat) : (Builtin.Str.occurrences (Str.ofString " \n\t\x0d") ⟨#[c]⟩ 0 (Str.ofString " \n\t\x0d").length 1).isEmpty = !spB c := by
  rw [occ_sp]
  congr 1
  rw [Bool.eq_iff_iff]
  simp only [spB, List.contains_cons, List.contains_nil, Bool.or_false, Bool.or_eq_true, beq_iff_eq]
  omega
noncomputable def quB (c : Nat) : Bool := c == 39 || c == 34
theorem occ_quB (c : Nat) : (Builtin.Str.occurrences (Str.ofString "'\"") ⟨#[c]⟩ 0 (Str.ofString "'\"").length 1).isEmpty = !quB c := by
  rw [occ_quo]
  congr 1
  rw [Bool.eq_iff_iff]
  simp only [quB, List.contains_cons, List.contains_nil, Bool.or_false, Bool.or_eq_true, beq_iff_eq]
theorem sw_quo {text : Str} {pl : Nat} (hp : pl ≤ text.length) (h : ((text.cps.toList[pl]?).map quB).getD false = false) : Txt.startswith3 text (Str.ofString "\"") (pl : Int) = false ∧ Txt.startswith3 text (Str.ofString "'") (pl : Int) = false := by
  have e1 : Str.ofString "\"" = ⟨#[34]⟩ := by decide
  have e2 : Str.ofString "'" = ⟨#[39]⟩ := by decide
  rw [e1, e2, sw_one _ _ _ hp, sw_one _ _ _ hp]
  cases e : text.cps.toList[pl]? with
  | none => simp
  | some c =>
    rw [e] at h
    simp only [Option.map_some, Option.getD_some, quB, Bool.or_eq_false_iff, beq_eq_false_iff_ne] at h
    simp [h.1, h.2]
section
variable {B h₀ g G g0 : Heap} {o₀ : List Addr} {outer : List Env} {fr0 fr fr2 : List (Addr × Obj)}
theorem Bare.st0 (b : Bare B h₀ o₀ outer G g0 fr0) : B.StaysIn g0 := fun a o e => b.to0 (b.st a o e) fun hm => by rw [(b.ff.mem hm).1] at e; cases e
theorem UpS.addr (u : UpS fr0 fr) (u2 : UpS fr0 fr2) : ∀ q ∈ fr2, ∃ q' ∈ fr, q'.1 = q.1 := fun q hq => by
  have : q.1 ∈ fr.map (·.1) := by rw [u.map, ← u2.map]; exact List.mem_map_of_mem hq
  obtain ⟨q', h, e⟩ := List.mem_map.mp this
  exact ⟨q', h, e⟩
theorem Bare.dis (b : Bare B h₀ o₀ outer G g0 fr0) (u : UpS fr0 fr) {a : Addr} (h : ∀ q ∈ fr, q.1 ≠ a) : a ∉ frs outer := fun hm => by
  rw [← b.fr, ← u.map] at hm
  obtain ⟨q, hq, e⟩ := List.mem_map.mp hm
  exact h q hq e
end
theorem off1_mem {D : Addr} : ∀ {l : List (Addr × Obj)}, LCg.Off1 D l → ∀ p ∈ l, p.1 ≠ D
  | [], _, _, h => nomatch h
  | _ :: _, x, p, h => by
    rcases List.mem_cons.mp h with rfl | h
    · exact x.1
    · exact off1_mem x.2 p h
theorem omap_sign {text : Str} {tt tp tg : Tok} {pl : Nat} {u : Option Value} {v b : Str} (h : v = b) : (fun y => if y = Str.ofString "sign" then some (Value.str v tg) else oMap text tt tp pl u none none none y) = oMap text tt tp pl (some (.str b tg)) none none none := by
  subst h
  funext y
  by_cases h0 : y = Str.ofString "calls"
  · subst h0; rfl
  by_cases h1 : y = Str.ofString "can_stand"
  · subst h1; rfl
  by_cases h2 : y = Str.ofString "can_begin"
  · subst h2; rfl
  by_cases h3 : y = Str.ofString "sign"
  · subst h3; rfl
  simp only [if_neg h0, if_neg h1, if_neg h2, if_neg h3]
theorem omap_cb {text : Str} {tt tp : Tok} {pl : Nat} {u1 u : Option Value} {v b : Bool} (h : v = b) : (fun y => if y = Str.ofString "can_begin" then some (Value.bool v) else oMap text tt tp pl u1 u none none y) = oMap text tt tp pl u1 (some (.bool b)) none none := by
  subst h
  funext y
  by_cases h0 : y = Str.ofString "calls"
  · subst h0; rfl
  by_cases h1 : y = Str.ofString "can_stand"
  · subst h1; rfl
  by_cases h2 : y = Str.ofString "can_begin"
  · subst h2; rfl
  simp only [if_neg h0, if_neg h1, if_neg h2]
theorem omap_cst {text : Str} {tt tp : Tok} {pl : Nat} {u1 u2 u : Option Value} {v b : Bool} (h : v = b) : (fun y => if y = Str.ofString "can_stand" then some (Value.bool v) else oMap text tt tp pl u1 u2 u none y) = oMap text tt tp pl u1 u2 (some (.bool b)) none := by
  subst h
  funext y
  by_cases h0 : y = Str.ofString "calls"
  · subst h0; rfl
  by_cases h1 : y = Str.ofString "can_stand"
  · subst h1; rfl
  simp only [if_neg h0, if_neg h1]
theorem omap_calls {text : Str} {tt tp : Tok} {pl : Nat} {u1 u2 u3 u v : Option Value} : (fun y => if y = Str.ofString "calls" then v else oMap text tt tp pl u1 u2 u3 u y) = oMap text tt tp pl u1 u2 u3 v := by
  funext y
  by_cases h0 : y = Str.ofString "calls"
  · subst h0; rfl
  simp only [if_neg h0]
theorem scz : Str.ofString "a" = ⟨#[97]⟩ ∧ Str.ofString "z" = ⟨#[122]⟩ := by decide
theorem one_ne (c : Nat) : ((⟨#[c]⟩ : Str) != Str.ofString "") = true := bne_iff_ne.mpr fun h => by have := congrArg (fun s : Str => s.cps.size) h; simp at this; exact absurd this (by decide)
theorem one_eq (c : Nat) : ((⟨#[c]⟩ : Str) == Str.ofString "") = false := beq_eq_false_iff_ne.mpr fun h => by have := congrArg (fun s : Str => s.cps.size) h; simp at this; exact absurd this (by decide)
set_option maxRecDepth 100000
set_option maxHeartbeats 8000000
theorem ln27 : True := by
  k_with_none
  k_with "M subscriptTail Name Constant ref int" => (k_here; (with_reducible show wpAny _ _ (subscriptTail _ _ (Value.ref _) (Value.int _ _)) _ _ _); k_dflt (refine' Mine.item_N ?k0 ?k1 ?k2 ?k3 ?k4 ?_ ?k6; (case k0 => k_asm); (case k1 => k_mem); (case k2 => decide); (case k3 => decide); (case k4 => rfl); (case k6 => with_unfolding_all rfl); k_whole))
  k_with "M m_new" => first | exact List.forall_mem_nil _ | (refine' List.forall_mem_cons.mpr ⟨And.intro ?mzA ?mzB, ?mzC⟩; (case mzA => k_mem); (case mzB => (try dsimp only); first | exact Or.inl (by k_mem) | exact Or.inr (by walk_at "m_all")); (case mzC => walk_at "m_new"))
  k_with "M m_spl" => first | exact Mine.Spl.head | exact (Mine.Spl.tail Mine.Spl.head) | exact (Mine.Spl.tail (Mine.Spl.tail Mine.Spl.head)) | exact (Mine.Spl.tail (Mine.Spl.tail (Mine.Spl.tail Mine.Spl.head))) | exact (Mine.Spl.tail (Mine.Spl.tail (Mine.Spl.tail (Mine.Spl.tail Mine.Spl.head)))) | exact (Mine.Spl.tail (Mine.Spl.tail (Mine.Spl.tail (Mine.Spl.tail (Mine.Spl.tail Mine.Spl.head))))) | exact (Mine.Spl.tail (Mine.Spl.tail (Mine.Spl.tail (Mine.Spl.tail (Mine.Spl.tail (Mine.Spl.tail Mine.Spl.head)))))) | exact (Mine.Spl.tail (Mine.Spl.tail (Mine.Spl.tail (Mine.Spl.tail (Mine.Spl.tail (Mine.Spl.tail (Mine.Spl.tail Mine.Spl.head))))))) | exact (Mine.Spl.tail (Mine.Spl.tail (Mine.Spl.tail (Mine.Spl.tail (Mine.Spl.tail (Mine.Spl.tail (Mine.Spl.tail (Mine.Spl.tail Mine.Spl.head)))))))) | exact (Mine.Spl.tail (Mine.Spl.tail (Mine.Spl.tail (Mine.Spl.tail (Mine.Spl.tail (Mine.Spl.tail (Mine.Spl.tail (Mine.Spl.tail (Mine.Spl.tail Mine.Spl.head))))))))) | exact (Mine.Spl.tail (Mine.Spl.tail (Mine.Spl.tail (Mine.Spl.tail (Mine.Spl.tail (Mine.Spl.tail (Mine.Spl.tail (Mine.Spl.tail (Mine.Spl.tail (Mine.Spl.tail Mine.Spl.head)))))))))) | exact (Mine.Spl.tail (Mine.Spl.tail (Mine.Spl.tail (Mine.Spl.tail (Mine.Spl.tail (Mine.Spl.tail (Mine.Spl.tail (Mine.Spl.tail (Mine.Spl.tail (Mine.Spl.tail (Mine.Spl.tail Mine.Spl.head))))))))))) | exact (Mine.Spl.tail (Mine.Spl.tail (Mine.Spl.tail (Mine.Spl.tail (Mine.Spl.tail (Mine.Spl.tail (Mine.Spl.tail (Mine.Spl.tail (Mine.Spl.tail (Mine.Spl.tail (Mine.Spl.tail (Mine.Spl.tail Mine.Spl.head)))))))))))) | exact (Mine.Spl.tail (Mine.Spl.tail (Mine.Spl.tail (Mine.Spl.tail (Mine.Spl.tail (Mine.Spl.tail (Mine.Spl.tail (Mine.Spl.tail (Mine.Spl.tail (Mine.Spl.tail (Mine.Spl.tail (Mine.Spl.tail (Mine.Spl.tail Mine.Spl.head)))))))))))))
  k_with "M m_own" => first | exact List.forall_mem_nil _ | (refine' List.forall_mem_cons.mpr ⟨?mzA, ?mzB⟩; (case mzA => k_mem); (case mzB => walk_at "m_own"))
  k_with "M m_lvl" => first | exact lv_le 3 rfl (by assumption) rfl | exact lv_le 1 rfl (by assumption) rfl | exact lv_le 0 rfl (by assumption) rfl | exact lv_le 2 rfl (by assumption) rfl | ((try simp only [depth_under_make, depth_under_kw, depth_in1, depth_deeper, units_in1, units_deeper, units_under_make, Around.mark_units]); (try dsimp only); omega)
  k_with "M call builtin:len" => (k_here; (with_reducible show wpAny _ _ (call (Value.builtin "len") [Value.ref _]) _ _ _); k_dflt (refine' Mine.len_N ?k0 ?k1 ?k2 ?_; (case k0 => k_asm); (case k1 => k_mem); (case k2 => (try simp only [List.length_cons, List.length_nil]); omega); k_whole))
  k_with "M m_ne0" => (replace l1 := ne0_of l1; (try simp only [NewNe0, AllNe, and_true, and_assoc] at l1); (repeat (have := And.left l1; replace l1 := And.right l1)))
  k_with "M m_ne1" => (replace l1 := ne1_of l1; (try simp only [NewNe1, AllNe, and_true, true_or, true_and, and_assoc] at l1); (repeat (have := And.left l1; replace l1 := And.right l1)))
  k_with "M exec Raise some none" => (k_here; k_dflt (refine' Mine.raise_stmt ?hh ?_; (case hh => first | rfl | assumption)))
  k_with "M pyIter ref" => ((with_reducible show wpAny _ _ _ (fun it s₂ => UnrAt _ _ _ _ _ _ _ _ _ it s₂) _ _); (k_dflt (refine' Iter_tuple_unr ?hh ?ht ?F ?N ?htL ?_; (case F => k_asm); (case N => k_asm); (case hh => assumption); (case ht => exact News.isTup (by assumption) (by k_mem)); (case htL => exact News.ne_locals (by assumption) (by k_mem)))))
  k_with "M eval Name" => (k_here; (with_reducible show wpAny _ _ (eval (Expr.Name _ _) (envOfC _ _ _ _ _)) _ _ _); k_dflt (refine' nameX_L ?nxF ?nxV ?_; (case nxF => k_asm); (case nxV => rfl); k_whole))
  k_with "M m_sub" => first | exact List.forall_mem_nil _ | (refine' List.forall_mem_cons.mpr ⟨?mzA, ?mzB⟩; (case mzA => k_mem); (case mzB => walk_at "m_sub")) | (intro mzp mzh; k_mem)
  k_with "M m_off" => first | exact True.intro | assumption | (refine And.intro ⟨by k_ne, by k_ne, by k_ne⟩ ?_; walk_at "m_off")
  k_with "M m_same" => first | exact List.forall_mem_nil _ | (refine' List.forall_mem_cons.mpr ⟨?mzA, ?mzB⟩; (case mzA => (try dsimp only); first | exact Or.inl (by k_mem) | exact Or.inr (by k_mem)); (case mzB => walk_at "m_same")) | simp
  k_with "M m_all" => first | exact List.forall_mem_nil _ | (refine' List.forall_mem_cons.mpr ⟨?mzA, ?mzB⟩; (case mzA => k_ne); (case mzB => walk_at "m_all")) | assumption
  k_with "M om" => first | ((repeat (with_reducible rename (_ ≠ _) => hz9; clear hz9)); omega) | omega
  k_with "M m_ltp" => first | with_reducible assumption | (with_reducible rename (_ < _ ∧ _) => hq9; first | with_reducible exact hq9.1 | with_reducible exact hq9.2.1 | with_reducible exact hq9.2.2.1 | with_reducible exact hq9.2.2.2.1 | with_reducible exact hq9.2.2.2.2.1 | with_reducible exact hq9.2.2.2.2.2.1 | with_reducible exact hq9.2 | with_reducible exact hq9.2.2 | with_reducible exact hq9.2.2.2 | with_reducible exact hq9.2.2.2.2 | with_reducible exact hq9.2.2.2.2.2 | (clear hq9; walk_at "m_ltp"))
  k_with "M m_nel" => first | exact Nat.ne_of_lt (by walk_at "m_ltp") | exact Nat.ne_of_gt (by walk_at "m_ltp") | exact ne_lt_k 1 rfl (by walk_at "m_ltp") | exact ne_lt_k 2 rfl (by walk_at "m_ltp") | exact ne_lt_k 3 rfl (by walk_at "m_ltp") | exact ne_lt_k 4 rfl (by walk_at "m_ltp") | exact ne_gt_k 1 rfl (by walk_at "m_ltp") | exact ne_gt_k 2 rfl (by walk_at "m_ltp") | exact ne_gt_k 3 rfl (by walk_at "m_ltp") | exact ne_gt_k 4 rfl (by walk_at "m_ltp")
  k_with "M execs cons" => (k_here; (try k_gentoks); (with_reducible refine wpAny_execs_cons ?_); (try k_fold); (try dsimp only))
  k_with "M call ref" => (k_here; (with_reducible show wpAny _ _ (call (Value.ref 183) _) _ _ _); (k_dflt (refine' use00 (looks_at_name_con ?G _ _ _ _ _ _ _ _ ?t1 ?a1) ?F ?N ?st ?d ?u ?h ?o ?_; (case F => k_asm); (case N => k_asm); (case o => walk_at "m_own"); (case st => assumption); (case d => walk_at "m_lvl"); (case u => walk_at "m_lvl"); (case h => assumption); (try (case G => assumption)); (all_goals (try (case t1 => first | omega | decide | assumption))); (all_goals (try (case t2 => first | omega | decide | assumption))); (all_goals (try (case t3 => first | omega | decide | assumption))); (all_goals (try (case t4 => first | omega | decide | assumption))); (all_goals (try (case t5 => first | omega | decide | assumption))); (all_goals (try (case a1 => assumption))); (all_goals (try (case a2 => assumption))); (all_goals (try (case a3 => assumption))); k_whole)); intro h' tk' F' N'; (try dsimp only); (try k_sweep))
  k_with "M call ref" => (k_here; (with_reducible show wpAny _ _ (call (Value.ref 141) _) _ _ _); (k_dflt (refine' use00 (is_over_con ?G _ _ _ _ _ _ _ _ ?t1) ?F ?N ?st ?d ?u ?h ?o ?_; (case F => k_asm); (case N => k_asm); (case o => walk_at "m_own"); (case st => assumption); (case d => walk_at "m_lvl"); (case u => walk_at "m_lvl"); (case h => assumption); (try (case G => assumption)); (all_goals (try (case t1 => first | omega | decide | assumption))); (all_goals (try (case t2 => first | omega | decide | assumption))); (all_goals (try (case t3 => first | omega | decide | assumption))); (all_goals (try (case t4 => first | omega | decide | assumption))); (all_goals (try (case t5 => first | omega | decide | assumption))); (all_goals (try (case a1 => assumption))); (all_goals (try (case a2 => assumption))); (all_goals (try (case a3 => assumption))); k_whole)); intro h' tk' F' N'; (try dsimp only); (try k_sweep))
  k_with "M call ref" => (k_here; (with_reducible show wpAny _ _ (call (Value.ref 148) _) _ _ _); (k_dflt (refine' use00 (looks_con ?G _ _ _ _ _ _ _ _ _ _ ?t1) ?F ?N ?st ?d ?u ?h ?o ?_; (case F => k_asm); (case N => k_asm); (case o => walk_at "m_own"); (case st => assumption); (case d => walk_at "m_lvl"); (case u => walk_at "m_lvl"); (case h => assumption); (try (case G => assumption)); (all_goals (try (case t1 => first | omega | decide | assumption))); (all_goals (try (case t2 => first | omega | decide | assumption))); (all_goals (try (case t3 => first | omega | decide | assumption))); (all_goals (try (case t4 => first | omega | decide | assumption))); (all_goals (try (case t5 => first | omega | decide | assumption))); (all_goals (try (case a1 => assumption))); (all_goals (try (case a2 => assumption))); (all_goals (try (case a3 => assumption))); k_whole)); intro h' tk' F' N'; (try dsimp only); (try k_sweep))
  k_with "M call ref" => (k_here; (with_reducible show wpAny _ _ (call (Value.ref 155) _) _ _ _); (k_dflt (refine' use00 (takesF_con ?G _ _ _ _ _ _ _ _ _ _ ?t1 ?t2 ?t3 ?a1) ?F ?N ?st ?d ?u ?h ?o ?_; (case F => k_asm); (case N => k_asm); (case o => walk_at "m_own"); (case st => assumption); (case d => walk_at "m_lvl"); (case u => walk_at "m_lvl"); (case h => assumption); (try (case G => assumption)); (all_goals (try (case t1 => first | omega | decide | assumption))); (all_goals (try (case t2 => first | omega | decide | assumption))); (all_goals (try (case t3 => first | omega | decide | assumption))); (all_goals (try (case t4 => first | omega | decide | assumption))); (all_goals (try (case t5 => first | omega | decide | assumption))); (all_goals (try (case a1 => assumption))); (all_goals (try (case a2 => assumption))); (all_goals (try (case a3 => assumption))); k_whole)); intro h' tk' F' N'; (try dsimp only); (try k_sweep))
  trivial
set_option autoImplicit false in
inductive OtJ (led fr0 : List (Addr × Obj)) (zs : List Value) (news : List (Addr × Obj)) : Prop
  | mk (fr : _) (z0 : zs = []) (z1 : news = led ++ fr) (z2 : UpS fr0 fr) : OtJ led fr0 zs news
section
variable {prog : Program} {w : World} {mean : ExcName → Option Value} {mg mb : Str → Option Value} {B : Heap} (G : Gd w mean mg mb B)
include G
theorem others_con (x dx : Nat) (text : Str) (pl : Nat) (k1 k2 t1 t2 tt tp : Tok) (ps : Array Value) (cs : List (Addr × Obj)) (hlen : text.length < 1000000) (hne : dx < x) (hasc : ∀ c ∈ text.cps.toList, c < 128) (hnn : ∀ c ∈ text.cps.toList, c ≠ 110) (hpl : pl ≤ text.length) (hc1 : ∀ q ∈ cs, q.1 ≠ x) (hc2 : ∀ q ∈ cs, q.1 ≠ dx) (hc3 : ∀ q ∈ cs, q.1 ≠ 274) (hx3 : x ≠ 274) (hd3 : dx ≠ 274) (htab : TabOk cs ps) (hC0 : CodeHd B 276 274) :
    ConF prog w B 45 (.ref 277) [.ref x, .str text tt, .int (pl : Int) tp] ((x, instObj 221 dx) :: (dx, scD w text pl k1 k2 t1 t2) :: (274, tabObj ps) :: cs) [274]
      (fun v new => ∃ ps' tp', v = .bool true ∧ new = (274, tabObj ps') :: tp' ∧ TabOk (tp' ++ cs) ps' ∧ (∀ q ∈ tp', q.1 ≠ 274)) := by
  intro A s R outer C k
  obtain ⟨ah, ad, af, ag, au⟩ := A
  obtain rfl : ah = none := C.ha
  refine' enterFC G C (by decide) (binds := [("scanner", Value.ref x), ("text", Value.str text tt), ("place", Value.int (pl : Int) tp)]) ?ho ?hcd ?hb ?hl ?hnd ?k ?c1 ?c2 ?c3
  case ho => k_is
  case hcd => k_is
  case hb => first | exact BindsTo.of_eq rfl | exact binds_K (G.X.keeps C.st) rfl (by k_is) rfl rfl rfl
  case hl => exact rfl
  case hnd => decide +kernel
  case c1 => rfl
  case c2 => rfl
  case c3 => rfl
  case k =>
    intro g L' h₁ cells Q E tk gr hQ hQn hE hP F N Y X' T' st ff l1
    (try k_lt l1)
    k_cells Y
    (try simp only [List.cons_append, List.nil_append] at N)
    have hA : ad ≤ _ := C.lv
    have hu : au ≤ _ := C.un
    have hh := C.ha
    have hfr : af = some outer := C.fr
    rename_i c1 d1
    replace F : Fr g L' h₁ (fun y => if y = Str.ofString "place" then some (Value.int (pl : Int) tp) else if y = Str.ofString "text" then some (Value.str text tt) else none) := F
    replace F : Fr g L' h₁ (oMap text tt tp pl none none none none) := by
      refine Fr.cg F ?_

      funext y
      by_cases h0 : y = Str.ofString "calls"
      · subst h0; rfl
      by_cases h1 : y = Str.ofString "can_stand"
      · subst h1; rfl
      by_cases h2 : y = Str.ofString "can_begin"
      · subst h2; rfl
      by_cases h3 : y = Str.ofString "sign"
      · subst h3; rfl
      by_cases h4 : y = Str.ofString "place"
      · subst h4; rfl
      by_cases h5 : y = Str.ofString "text"
      · subst h5; rfl
      simp only [if_neg h0, if_neg h1, if_neg h2, if_neg h3, if_neg h4, if_neg h5]
    replace d1 : c1.data = Data.cell (some (.ref x)) := d1
    have hsw := sw_never hpl hnn
    refine wpAny_execs_cons ?_
    with_reducible refine' cutP (fun s' => StAtT s g L' (fun tg => oMap text tt tp pl (some (.str (sgn text pl) tg)) none none none) ((L' + 1, c1) :: (x, instObj 221 dx) :: (dx, scD w text pl k1 k2 t1 t2) :: (274, tabObj ps) :: cs) s') ?first ?second
    rotate_left 1; (try dsimp only); rotate_right 1
    case' first => (try k_fold)
    case first =>
      repeat ((fail_if_success (with_reducible show CutEnd _ _ _)); first | (k_unfold; (try dsimp only)) | walk1 | (dsimp only; walk1))
      exact ⟨rfl, ⟨_, _, _, rfl, Fr.cg (by assumption) (omap_sign (slice_sgn hpl)), by assumption⟩⟩
    case second =>
      rintro _ ⟨h, tk, tg, rfl, F, N⟩
      (try dsimp only)
      have hc4 : @Ne Nat (L' + 1) 274 := by walk_at "om"
      clear l1
      refine wpAny_execs_cons ?_
      with_reducible refine' cutP (fun s' => StAt s g L' (oMap text tt tp pl (some (.str (sgn text pl) tg)) (some (.bool (cbB text pl))) none none) ((L' + 1, c1) :: (x, instObj 221 dx) :: (dx, scD w text pl k1 k2 t1 t2) :: (274, tabObj ps) :: cs) s') ?first ?second
      rotate_left 1; (try dsimp only); rotate_right 1
      case' first => (try k_fold)
      case first =>
        cases hc : text.cps.toList[pl]? with
        | none =>
          rw [sgn_none hc] at *
          k_steps
          (try (k_unfold; (try dsimp only))); (try rw [sgn_none hc])
          exact ⟨rfl, ⟨_, _, rfl, Fr.cg (by assumption) (omap_cb (by unfold cbB; rw [hc]; rfl)), by assumption⟩⟩
        | some c =>
          rw [sgn_some hc] at *
          have h128 : c < 128 := hasc c (List.mem_of_getElem? hc)
          k_steps
          all_goals (try rw [sgn_some hc])
          all_goals refine ⟨rfl, ⟨_, _, rfl, Fr.cg (by assumption) (omap_cb ?_), by assumption⟩⟩
          all_goals (have hcb : cbB text pl = nsB c := by unfold cbB; rw [hc]; rfl)
          all_goals rw [hcb]
          all_goals rw [Bool.eq_iff_iff]
          all_goals clear k hQ hQn hE hP X' T' st ff gr C hcb hasc hnn
          all_goals simp only [reduceCtorEq, sc0, scz, one_ne, one_eq, eq1, lt1, nsB, smB, ncB, occ_und, occ_digR h128, List.contains_cons, List.contains_nil, Bool.or_false, Bool.not_not, Bool.or_eq_true, Bool.and_eq_true, Bool.or_eq_false_iff, Bool.and_eq_false_iff, decide_eq_true_eq, decide_eq_false_iff_not, beq_iff_eq, beq_eq_false_iff_ne, ne_eq, Bool.not_eq_true', Bool.not_eq_false', Bool.false_eq_true, iff_true, iff_false, true_iff, false_iff] at *
          all_goals walk_at "om"
      case second =>
        rintro _ ⟨h, tk, rfl, F, N⟩
        (try dsimp only)
        refine wpAny_execs_cons ?_
        with_reducible refine' cutP (fun s' => StAt s g L' (oMap text tt tp pl (some (.str (sgn text pl) tg)) (some (.bool (cbB text pl))) (some (.bool (cstB text pl))) none) ((L' + 1, c1) :: (x, instObj 221 dx) :: (dx, scD w text pl k1 k2 t1 t2) :: (274, tabObj ps) :: cs) s') ?first ?second
        rotate_left 1; (try dsimp only); rotate_right 1
        case' first => (try k_fold)
        case first =>
          cases hc : text.cps.toList[pl]? with
          | none =>
            rw [sgn_none hc] at *
            k_steps
            all_goals (try rw [sgn_none hc])
            all_goals refine ⟨rfl, ⟨_, _, rfl, Fr.cg (by assumption) (omap_cst ?_), by assumption⟩⟩
            all_goals (have hcs : cstB text pl = false := by unfold cstB; rw [hc]; rfl)
            all_goals (have hcb : cbB text pl = false := by unfold cbB; rw [hc]; rfl)
            all_goals simp_all
          | some c =>
            rw [sgn_some hc] at *
            have h128 : c < 128 := hasc c (List.mem_of_getElem? hc)
            k_steps
            all_goals (try rw [sgn_some hc])
            all_goals refine ⟨rfl, ⟨_, _, rfl, Fr.cg (by assumption) (omap_cst ?_), by assumption⟩⟩
            all_goals (have hcs : cstB text pl = ncB c := by unfold cstB; rw [hc]; rfl)
            all_goals (have hcb : cbB text pl = nsB c := by unfold cbB; rw [hc]; rfl)
            all_goals rw [hcs]
            all_goals simp only [cbB, hc, Option.map_some, Option.getD_some] at *
            all_goals rw [Bool.eq_iff_iff]
            all_goals clear k hQ hQn hE hP X' T' st ff gr C hcs hcb hasc hnn
            all_goals simp only [reduceCtorEq, sc0, scz, one_ne, one_eq, eq1, lt1, nsB, smB, ncB, occ_und, occ_digR h128, List.contains_cons, List.contains_nil, Bool.or_false, Bool.not_not, Bool.or_eq_true, Bool.and_eq_true, Bool.or_eq_false_iff, Bool.and_eq_false_iff, decide_eq_true_eq, decide_eq_false_iff_not, beq_iff_eq, beq_eq_false_iff_ne, ne_eq, Bool.not_eq_true', Bool.not_eq_false', Bool.false_eq_true, iff_true, iff_false, true_iff, false_iff] at *
            all_goals first | exact ⟨fun h => .inl (.inl (.inl h)), fun _ => by assumption⟩ | exact ⟨fun h => h.elim (fun h => h.elim (fun h => .inl (.inl (.inr h))) fun h => .inl (.inr h)) .inr, fun h => h.elim (fun h => h.elim (fun h => h.elim (fun h => (ns_no h (by assumption)).elim) fun h => .inl (.inl h)) fun h => .inl (.inr h)) .inr⟩ | walk_at "om"
        case second =>
          rintro _ ⟨h, tk, rfl, F, N⟩
          (try dsimp only)
          with_reducible refine' cut2 (fun s' => StAt s g L' (oMap text tt tp pl (some (.str (sgn text pl) tg)) (some (.bool (cbB text pl))) (some (.bool (cstB text pl))) none) ((L' + 1, c1) :: (x, instObj 221 dx) :: (dx, scD w text pl k1 k2 t1 t2) :: (274, tabObj ps) :: cs) s') ?first ?second
          case' first => (try k_fold)
          case first =>
            have hsn := sgn_nil (text := text) hpl
            k_steps
            all_goals first
              | exact ⟨rfl, ⟨_, _, rfl, by assumption, by assumption⟩⟩
              | (exfalso; clear k hQ hQn hE hP X' T' st ff gr C hasc hnn; simp [hsn, cbB] at *; done)
          case second =>
            rintro _ ⟨h, tk, rfl, F, N⟩
            (try dsimp only)
            have hCH := hC0.keeps st
            refine wpAny_execs_cons ?_
            with_reducible refine' cutP (fun s' => CallsAt prog w B g L' x dx text pl k1 k2 t1 t2 (oMap text tt tp pl (some (.str (sgn text pl) tg)) (some (.bool (cbB text pl))) (some (.bool (cstB text pl)))) c1 cs s 0 s') ?first ?second
            rotate_left 1; (try dsimp only); rotate_right 1
            case' first => (try k_fold)
            case first =>
              repeat ((fail_if_success (with_reducible show wpAny _ _ (eval (Expr.Lambda _ _ _ _) _) _ _ _)); walk1)
              refine lam_step (pre := []) (new := []) ‹Fr g L' _ _› ‹News g L' _ _› T' hCH ⟨htab, (fun _ h => nomatch h), (fun _ h => nomatch h), (fun _ h => nomatch h), (fun _ h => nomatch h), (fun _ h => nomatch h)⟩ hc4 hx3 hd3 hc3 (fun _ h => nomatch h) ?_
              intro f c' oc vs t ctv h' tk' new' ps' F N K hs1 _ hm1 hm2 hd1 hv1
              replace N : News g L' h' (bl (L' + 1, c1) (x, instObj 221 dx) (dx, scD w text pl k1 k2 t1 t2) ps' new' cs) := N
              (try dsimp only)
              repeat ((fail_if_success (with_reducible show wpAny _ _ (eval (Expr.Lambda _ _ _ _) _) _ _ _)); walk1)
              refine lam_step (pre := []) ‹Fr g L' _ _› ‹News g L' _ _› T' hCH K hc4 hx3 hd3 hc3 (fun _ h => nomatch h) ?_
              clear F N
              intro f2 c2' oc2 vs2 tq2 ctv2 h2 tk2 new2 ps2 F N K2 hs2 _ hm3 hm4 hd2 hv2
              replace N : News g L' h2 (bl (L' + 1, c1) (x, instObj 221 dx) (dx, scD w text pl k1 k2 t1 t2) ps2 new2 cs) := N
              (try dsimp only)
              repeat ((fail_if_success (with_reducible show CutEnd _ _ _)); first | (k_unfold; (try dsimp only)) | walk1 | (dsimp only; walk1))
              rename (_ ∧ _ ∧ _ ∧ _ ∧ AllLt _ _) => l1
              obtain ⟨e1, e2, e3, e4, e5⟩ := l1
              have e6 := ne_of_allLt e5
              refine ⟨rfl, ⟨_, _, _, [.ref f, .ref f2], 0, ps2, new2, rfl, Fr.cg ‹Fr g L' _ _› omap_calls, ‹News g L' _ _›, K2, fun v hv => ?_, Nat.le_refl 2, fun q hq => e6 q (List.mem_append_left _ hq), fun q hq => e6 q (List.mem_append_right _ hq), by walk_at "om", by walk_at "om", by walk_at "om", by walk_at "om"⟩⟩
              rcases List.mem_cons.mp hv with rfl | hv
              · exact lamOk_of (mem_up hs2 hm1) (mem_up hs2 hm2) (lam_expect_con G x dx f (L' + 1) c' text pl k1 k2 t1 t2 _ _ _ _ _ _ hd1 hv1 d1 hlen hne hsw)
              · rw [List.mem_singleton.mp hv]
                exact lamOk_of hm3 hm4 (lam_until_con G x dx f2 (L' + 1) c2' text pl k1 k2 t1 t2 _ _ _ _ _ _ hd2 hv2 d1 hlen hne (find_never hpl hnn))
            case second =>
              rintro s' ⟨h, tk, D, vs, n, ps', new, rfl, F, N, K, hl, hvl, nD, nC, e1, e2, e3, e4⟩
              (try dsimp only)
              refine wpAny_execs_cons ?_
              with_reducible refine' cutP (fun s' => CallsAt prog w B g L' x dx text pl k1 k2 t1 t2 (oMap text tt tp pl (some (.str (sgn text pl) tg)) (some (.bool (cbB text pl))) (some (.bool (cstB text pl)))) c1 cs s 1 s') ?first ?second
              rotate_left 1; (try dsimp only); rotate_right 1
              case' first => (try k_fold)
              case first =>
                cases hcb : cbB text pl with
                | false =>
                  rw [hcb] at F
                  repeat ((fail_if_success (with_reducible show wpAny _ _ (eval (Expr.Lambda _ _ _ _) _) _ _ _)); walk1)
                  refine lam_step (pre := [(D, _)]) ‹Fr g L' _ _› ‹News g L' _ _› T' hCH K hc4 hx3 hd3 hc3 (fun q hq => by rw [List.mem_singleton.mp hq]; exact Ne.symm e4) ?_
                  intro f c' oc vs2 t ctv h' tk' new' ps2 F N K2 hs1 hs2 hm1 hm2 hd1 hv1
                  replace N : News g L' h' ((D, listOf vs.toArray n) :: bl (L' + 1, c1) (x, instObj 221 dx) (dx, scD w text pl k1 k2 t1 t2) ps2 new' cs) := N
                  (try dsimp only)
                  have nD2 : ∀ q ∈ new' ++ cs, q.1 ≠ D := app_ne (fun q hq => (hs2 q hq).elim (nD q) fun z => (z _ (.head _)).symm) nC
                  repeat ((fail_if_success (with_reducible show CutEnd _ _ _)); first | (k_unfold; (try dsimp only)) | walk1 | (dsimp only; walk1))
                  (try (k_unfold; (try dsimp only))); (try rw [hcb])
                  exact ⟨rfl, ⟨_, _, D, vs ++ [.ref f], n + 1, ps2, new', rfl, ‹Fr g L' _ _›, by rw [← List.push_toArray]; assumption, K2, fun v hv => (List.mem_append.mp hv).elim (fun z => (hl v z).mono (bl0_up hs1)) (fun z => by rw [List.mem_singleton.mp z]; exact lamOk_of hm1 hm2 (lam_name_con G x dx f (L' + 1) c' text pl k1 k2 t1 t2 _ _ _ _ _ _ hd1 hv1 d1 hlen hne hasc hcb)), by rw [List.length_append]; simp only [List.length_singleton]; walk_at "om", fun q hq => nD2 q (List.mem_append_left _ hq), nC, e1, e2, e3, e4⟩⟩
                | true =>
                  rw [hcb] at F
                  repeat ((fail_if_success (with_reducible show CutEnd _ _ _)); first | (k_unfold; (try dsimp only)) | walk1 | (dsimp only; walk1))
                  (try (k_unfold; (try dsimp only))); (try rw [hcb])
                  exact ⟨rfl, ⟨_, _, D, vs, n, ps', new, rfl, ‹Fr g L' _ _›, ‹News g L' _ _›, K, hl, by walk_at "om", nD, nC, e1, e2, e3, e4⟩⟩
              case second =>
                rintro s' ⟨h, tk, D, vs, n, ps', new, rfl, F, N, K, hl, hvl, nD, nC, e1, e2, e3, e4⟩
                (try dsimp only)
                refine wpAny_execs_cons ?_
                with_reducible refine' cutP (fun s' => CallsAt prog w B g L' x dx text pl k1 k2 t1 t2 (oMap text tt tp pl (some (.str (sgn text pl) tg)) (some (.bool (cbB text pl))) (some (.bool (cstB text pl)))) c1 cs s 2 s') ?first ?second
                rotate_left 1; (try dsimp only); rotate_right 1
                case' first => (try k_fold)
                case first =>
                  cases hcb : cstB text pl with
                  | false =>
                    rw [hcb] at F
                    repeat ((fail_if_success (with_reducible show wpAny _ _ (eval (Expr.Lambda _ _ _ _) _) _ _ _)); walk1)
                    refine lam_step (pre := [(D, _)]) ‹Fr g L' _ _› ‹News g L' _ _› T' hCH K hc4 hx3 hd3 hc3 (fun q hq => by rw [List.mem_singleton.mp hq]; exact Ne.symm e4) ?_
                    intro f c' oc vs2 t ctv h' tk' new' ps2 F N K2 hs1 hs2 hm1 hm2 hd1 hv1
                    replace N : News g L' h' ((D, listOf vs.toArray n) :: bl (L' + 1, c1) (x, instObj 221 dx) (dx, scD w text pl k1 k2 t1 t2) ps2 new' cs) := N
                    (try dsimp only)
                    have nD2 : ∀ q ∈ new' ++ cs, q.1 ≠ D := app_ne (fun q hq => (hs2 q hq).elim (nD q) fun z => (z _ (.head _)).symm) nC
                    repeat ((fail_if_success (with_reducible show CutEnd _ _ _)); first | (k_unfold; (try dsimp only)) | walk1 | (dsimp only; walk1))
                    (try (k_unfold; (try dsimp only))); (try rw [hcb])
                    exact ⟨rfl, ⟨_, _, D, vs ++ [.ref f], n + 1, ps2, new', rfl, ‹Fr g L' _ _›, by rw [← List.push_toArray]; assumption, K2, fun v hv => (List.mem_append.mp hv).elim (fun z => (hl v z).mono (bl0_up hs1)) (fun z => by rw [List.mem_singleton.mp z]; exact lamOk_of hm1 hm2 (lam_token_con G x dx f (L' + 1) c' text pl k1 k2 t1 t2 _ _ _ _ _ _ hd1 hv1 d1 hlen hne hasc hcb)), by rw [List.length_append]; simp only [List.length_singleton]; walk_at "om", fun q hq => nD2 q (List.mem_append_left _ hq), nC, e1, e2, e3, e4⟩⟩
                  | true =>
                    rw [hcb] at F
                    repeat ((fail_if_success (with_reducible show CutEnd _ _ _)); first | (k_unfold; (try dsimp only)) | walk1 | (dsimp only; walk1))
                    (try (k_unfold; (try dsimp only))); (try rw [hcb])
                    exact ⟨rfl, ⟨_, _, D, vs, n, ps', new, rfl, ‹Fr g L' _ _›, ‹News g L' _ _›, K, hl, by walk_at "om", nD, nC, e1, e2, e3, e4⟩⟩
                case second =>
                  rintro s' ⟨h, tk, D, vs, n, ps', new, rfl, F, N, K, hl, hvl, nD, nC, e1, e2, e3, e4⟩
                  (try dsimp only)
                  refine wpAny_execs_cons ?_
                  with_reducible refine' cutP (fun s' => CallsAt prog w B g L' x dx text pl k1 k2 t1 t2 (oMap text tt tp pl (some (.str (sgn text pl) tg)) (some (.bool (cbB text pl))) (some (.bool (cstB text pl)))) c1 cs s 3 s') ?first ?second
                  rotate_left 1; (try dsimp only); rotate_right 1
                  case' first => (try k_fold)
                  case first =>
                    cases hc : text.cps.toList[pl]? with
                    | none =>
                      rw [sgn_none hc] at *
                      have hcb : ((text.cps.toList[pl]?).map spB).getD false = false := by rw [hc]; rfl
                      repeat ((fail_if_success (with_reducible show wpAny _ _ (eval (Expr.Lambda _ _ _ _) _) _ _ _)); walk1)
                      refine lam_step (pre := [(D, _)]) ‹Fr g L' _ _› ‹News g L' _ _› T' hCH K hc4 hx3 hd3 hc3 (fun q hq => by rw [List.mem_singleton.mp hq]; exact Ne.symm e4) ?_
                      intro f c' oc vs2 t ctv h' tk' new' ps2 F N K2 hs1 hs2 hm1 hm2 hd1 hv1
                      replace N : News g L' h' ((D, listOf vs.toArray n) :: bl (L' + 1, c1) (x, instObj 221 dx) (dx, scD w text pl k1 k2 t1 t2) ps2 new' cs) := N
                      (try dsimp only)
                      have nD2 : ∀ q ∈ new' ++ cs, q.1 ≠ D := app_ne (fun q hq => (hs2 q hq).elim (nD q) fun z => (z _ (.head _)).symm) nC
                      repeat ((fail_if_success (with_reducible show CutEnd _ _ _)); first | (k_unfold; (try dsimp only)) | walk1 | (dsimp only; walk1))
                      (try (k_unfold; (try dsimp only))); (try rw [sgn_none hc])
                      exact ⟨rfl, ⟨_, _, D, vs ++ [.ref f], n + 1, ps2, new', rfl, ‹Fr g L' _ _›, by rw [← List.push_toArray]; assumption, K2, fun v hv => (List.mem_append.mp hv).elim (fun z => (hl v z).mono (bl0_up hs1)) (fun z => by rw [List.mem_singleton.mp z]; exact lamOk_of hm1 hm2 (lam_need_spaces_con G x dx f (L' + 1) c' text pl k1 k2 t1 t2 _ _ _ _ _ _ hd1 hv1 d1 hlen hne hcb)), by rw [List.length_append]; simp only [List.length_singleton]; walk_at "om", fun q hq => nD2 q (List.mem_append_left _ hq), nC, e1, e2, e3, e4⟩⟩
                    | some c =>
                      rw [sgn_some hc] at *
                      have hoc := occ_spB c
                      have hon := one_eq c
                      cases hb : spB c with
                      | false =>
                        rw [hb] at hoc; simp only [Bool.not_false, Bool.not_true] at hoc
                        have hcb : ((text.cps.toList[pl]?).map spB).getD false = false := by rw [hc]; exact hb
                        repeat ((fail_if_success (with_reducible show wpAny _ _ (eval (Expr.Lambda _ _ _ _) _) _ _ _)); walk1)
                        refine lam_step (pre := [(D, _)]) ‹Fr g L' _ _› ‹News g L' _ _› T' hCH K hc4 hx3 hd3 hc3 (fun q hq => by rw [List.mem_singleton.mp hq]; exact Ne.symm e4) ?_
                        intro f c' oc vs2 t ctv h' tk' new' ps2 F N K2 hs1 hs2 hm1 hm2 hd1 hv1
                        replace N : News g L' h' ((D, listOf vs.toArray n) :: bl (L' + 1, c1) (x, instObj 221 dx) (dx, scD w text pl k1 k2 t1 t2) ps2 new' cs) := N
                        (try dsimp only)
                        have nD2 : ∀ q ∈ new' ++ cs, q.1 ≠ D := app_ne (fun q hq => (hs2 q hq).elim (nD q) fun z => (z _ (.head _)).symm) nC
                        repeat ((fail_if_success (with_reducible show CutEnd _ _ _)); first | (k_unfold; (try dsimp only)) | walk1 | (dsimp only; walk1))
                        (try (k_unfold; (try dsimp only))); (try rw [sgn_some hc])
                        exact ⟨rfl, ⟨_, _, D, vs ++ [.ref f], n + 1, ps2, new', rfl, ‹Fr g L' _ _›, by rw [← List.push_toArray]; assumption, K2, fun v hv => (List.mem_append.mp hv).elim (fun z => (hl v z).mono (bl0_up hs1)) (fun z => by rw [List.mem_singleton.mp z]; exact lamOk_of hm1 hm2 (lam_need_spaces_con G x dx f (L' + 1) c' text pl k1 k2 t1 t2 _ _ _ _ _ _ hd1 hv1 d1 hlen hne hcb)), by rw [List.length_append]; simp only [List.length_singleton]; walk_at "om", fun q hq => nD2 q (List.mem_append_left _ hq), nC, e1, e2, e3, e4⟩⟩
                      | true =>
                        rw [hb] at hoc; simp only [Bool.not_false, Bool.not_true] at hoc
                        repeat ((fail_if_success (with_reducible show CutEnd _ _ _)); first | (k_unfold; (try dsimp only)) | walk1 | (dsimp only; walk1))
                        (try (k_unfold; (try dsimp only))); (try rw [sgn_some hc])
                        exact ⟨rfl, ⟨_, _, D, vs, n, ps', new, rfl, ‹Fr g L' _ _›, ‹News g L' _ _›, K, hl, by walk_at "om", nD, nC, e1, e2, e3, e4⟩⟩
                  case second =>
                    rintro s' ⟨h, tk, D, vs, n, ps', new, rfl, F, N, K, hl, hvl, nD, nC, e1, e2, e3, e4⟩
                    (try dsimp only)
                    refine wpAny_execs_cons ?_
                    with_reducible refine' cutP (fun s' => CallsAt prog w B g L' x dx text pl k1 k2 t1 t2 (oMap text tt tp pl (some (.str (sgn text pl) tg)) (some (.bool (cbB text pl))) (some (.bool (cstB text pl)))) c1 cs s 4 s') ?first ?second
                    rotate_left 1; (try dsimp only); rotate_right 1
                    case' first => (try k_fold)
                    case first =>
                      cases hc : text.cps.toList[pl]? with
                      | none =>
                        rw [sgn_none hc] at *
                        have hcb : ((text.cps.toList[pl]?).map quB).getD false = false := by rw [hc]; rfl
                        repeat ((fail_if_success (with_reducible show wpAny _ _ (eval (Expr.Lambda _ _ _ _) _) _ _ _)); walk1)
                        refine lam_step (pre := [(D, _)]) ‹Fr g L' _ _› ‹News g L' _ _› T' hCH K hc4 hx3 hd3 hc3 (fun q hq => by rw [List.mem_singleton.mp hq]; exact Ne.symm e4) ?_
                        intro f c' oc vs2 t ctv h' tk' new' ps2 F N K2 hs1 hs2 hm1 hm2 hd1 hv1
                        replace N : News g L' h' ((D, listOf vs.toArray n) :: bl (L' + 1, c1) (x, instObj 221 dx) (dx, scD w text pl k1 k2 t1 t2) ps2 new' cs) := N
                        (try dsimp only)
                        have nD2 : ∀ q ∈ new' ++ cs, q.1 ≠ D := app_ne (fun q hq => (hs2 q hq).elim (nD q) fun z => (z _ (.head _)).symm) nC
                        repeat ((fail_if_success (with_reducible show CutEnd _ _ _)); first | (k_unfold; (try dsimp only)) | walk1 | (dsimp only; walk1))
                        (try (k_unfold; (try dsimp only))); (try rw [sgn_none hc])
                        exact ⟨rfl, ⟨_, _, D, vs ++ [.ref f], n + 1, ps2, new', rfl, ‹Fr g L' _ _›, by rw [← List.push_toArray]; assumption, K2, fun v hv => (List.mem_append.mp hv).elim (fun z => (hl v z).mono (bl0_up hs1)) (fun z => by rw [List.mem_singleton.mp z]; exact lamOk_of hm1 hm2 (lam_quoted_con G x dx f (L' + 1) c' text pl k1 k2 t1 t2 _ _ _ _ _ _ hd1 hv1 d1 hlen hne (sw_quo hpl hcb).1 (sw_quo hpl hcb).2)), by rw [List.length_append]; simp only [List.length_singleton]; walk_at "om", fun q hq => nD2 q (List.mem_append_left _ hq), nC, e1, e2, e3, e4⟩⟩
                      | some c =>
                        rw [sgn_some hc] at *
                        have hoc := occ_quB c
                        have hon := one_eq c
                        cases hb : quB c with
                        | false =>
                          rw [hb] at hoc; simp only [Bool.not_false, Bool.not_true] at hoc
                          have hcb : ((text.cps.toList[pl]?).map quB).getD false = false := by rw [hc]; exact hb
                          repeat ((fail_if_success (with_reducible show wpAny _ _ (eval (Expr.Lambda _ _ _ _) _) _ _ _)); walk1)
                          refine lam_step (pre := [(D, _)]) ‹Fr g L' _ _› ‹News g L' _ _› T' hCH K hc4 hx3 hd3 hc3 (fun q hq => by rw [List.mem_singleton.mp hq]; exact Ne.symm e4) ?_
                          intro f c' oc vs2 t ctv h' tk' new' ps2 F N K2 hs1 hs2 hm1 hm2 hd1 hv1
                          replace N : News g L' h' ((D, listOf vs.toArray n) :: bl (L' + 1, c1) (x, instObj 221 dx) (dx, scD w text pl k1 k2 t1 t2) ps2 new' cs) := N
                          (try dsimp only)
                          have nD2 : ∀ q ∈ new' ++ cs, q.1 ≠ D := app_ne (fun q hq => (hs2 q hq).elim (nD q) fun z => (z _ (.head _)).symm) nC
                          repeat ((fail_if_success (with_reducible show CutEnd _ _ _)); first | (k_unfold; (try dsimp only)) | walk1 | (dsimp only; walk1))
                          (try (k_unfold; (try dsimp only))); (try rw [sgn_some hc])
                          exact ⟨rfl, ⟨_, _, D, vs ++ [.ref f], n + 1, ps2, new', rfl, ‹Fr g L' _ _›, by rw [← List.push_toArray]; assumption, K2, fun v hv => (List.mem_append.mp hv).elim (fun z => (hl v z).mono (bl0_up hs1)) (fun z => by rw [List.mem_singleton.mp z]; exact lamOk_of hm1 hm2 (lam_quoted_con G x dx f (L' + 1) c' text pl k1 k2 t1 t2 _ _ _ _ _ _ hd1 hv1 d1 hlen hne (sw_quo hpl hcb).1 (sw_quo hpl hcb).2)), by rw [List.length_append]; simp only [List.length_singleton]; walk_at "om", fun q hq => nD2 q (List.mem_append_left _ hq), nC, e1, e2, e3, e4⟩⟩
                        | true =>
                          rw [hb] at hoc; simp only [Bool.not_false, Bool.not_true] at hoc
                          repeat ((fail_if_success (with_reducible show CutEnd _ _ _)); first | (k_unfold; (try dsimp only)) | walk1 | (dsimp only; walk1))
                          (try (k_unfold; (try dsimp only))); (try rw [sgn_some hc])
                          exact ⟨rfl, ⟨_, _, D, vs, n, ps', new, rfl, ‹Fr g L' _ _›, ‹News g L' _ _›, K, hl, by walk_at "om", nD, nC, e1, e2, e3, e4⟩⟩
                    case second =>
                      rintro s' ⟨h, tk, D, vs, n, ps', new, rfl, F, N, K, hl, hvl, nD, nC, e1, e2, e3, e4⟩
                      (try dsimp only)
                      obtain ⟨g0, fr0, bare, F0, N0, dis, up0⟩ := loop_in F N gr st ff
                      have st0 := bare.st0
                      have X0 := G.X.keeps st0
                      have T0 := G.T.keeps st0
                      have hgL : g0.objs.size ≤ L' := F0.above
                      obtain ⟨led, hled⟩ : ∃ led, led = (D, listOf vs.toArray n) :: bl (L' + 1, c1) (x, instObj 221 dx) (dx, scD w text pl k1 k2 t1 t2) ps' new cs := ⟨_, rfl⟩
                      rw [← hled] at N0 dis
                      clear F N X' T'
                      repeat ((fail_if_success (with_reducible show wpAny _ _ (eval (Expr.ListComp _ _ _ _) _) _ _ _)); walk1)
                      refine' LCt.ListComp_T (F₀ := by k_asm) (by with_unfolding_all rfl) (by decide) (by rfl) (by decide) (by rfl) ?_
                      repeat ((fail_if_success (with_reducible show LCt.CompSrcT _ _ _ _ _ _ _ _ _ _ _ _ _ _ _)); walk1)
                      refine' LCt.CompSrcT.ledger (its := vs.toArray) (k := n) ?hh (by k_asm) ‹News g0 L' _ _› (by rw [hled]; exact .head _) ?hz ?_
                      case hh => assumption
                      case hz => rw [sizeLine_eq]; simp; walk_at "om"
                      intro g3
                      refine' comp_invT (fun i zs news => OtJ led fr0 zs news) ?step ?fin _ _ _ _ (Nat.zero_add _) ?start
                      case start => exact ⟨fr0, rfl, rfl, up0⟩
                      case step =>
                        rintro i zs news v I oI Ca oC Dn m₂ h tk E' hi ⟨fr, rfl, rfl, up⟩ hv hC hx F N off ne
                        have hvm : v ∈ vs := by
                          rw [List.getElem?_toArray] at hv
                          exact List.mem_of_getElem? hv
                        obtain ⟨f, fc, fdi, fd, fsl, own, rfl, ho, hox, hod, hof, KR⟩ := hl v hvm
                        have offm := LCg.Off3.mem off
                        have dis' : ∀ p ∈ (I, oI) :: (Ca, oC) :: (Dn, LCg.lst []) :: led, p.1 ∉ frs outer := List.forall_mem_cons.mpr ⟨bare.dis up fun q hq => (offm q (List.mem_append_right _ hq)).1, List.forall_mem_cons.mpr ⟨bare.dis up fun q hq => (offm q (List.mem_append_right _ hq)).2.1, List.forall_mem_cons.mpr ⟨bare.dis up fun q hq => (offm q (List.mem_append_right _ hq)).2.2, dis⟩⟩⟩
                        obtain ⟨g1, F1, N1, gr1, grg, st1, ff1, k0, kf⟩ := body_in (news := (I, oI) :: (Ca, oC) :: (Dn, LCg.lst []) :: led) bare up F N dis'
                        clear F N
                        have X1 := G.X.keeps st1
                        have T1 := G.T.keeps st1
                        clear X0 T0
                        rw [hled] at N1
                        repeat ((fail_if_success (with_reducible show wpAny _ _ (call (Value.ref _) _) _ _ _)); walk1)
                        refine' con_useF0 (refused_con G x dx f text pl k1 k2 t1 t2 own hox hod (by walk_at "om") fc fdi fd fsl hof KR) ‹Fr g1 L' _ _› ‹News g1 L' _ _› grg st1 ff1 (Around.frames_deeper hfr) rfl (fun z => nomatch z) (by walk_at "m_lvl") (by walk_at "m_lvl") (by rfl) (fun q hq => ?ho) ?_
                        case ho =>
                          have := ho q hq
                          rcases List.mem_cons.mp this with rfl | this
                          · exact .tail _ (.tail _ (.tail _ (.tail _ (.head _))))
                          · rcases List.mem_cons.mp this with rfl | this
                            · exact .tail _ (.tail _ (.tail _ (.tail _ (.tail _ (.head _)))))
                            · rcases List.mem_cons.mp this with rfl | this
                              · exact .tail _ (.tail _ (.tail _ (.tail _ (.tail _ (.tail _ (.head _))))))
                              · exact .tail _ (.tail _ (.tail _ (.tail _ (.tail _ (.tail _ (.tail _ (.tail _ this)))))))
                        rintro v1 new1 g2 h2 tk2 ⟨rfl, rfl⟩ F2 N2 gr2 st2 ff2 -
                        (try dsimp only)
                        rw [← hled] at N2
                        repeat ((fail_if_success (with_reducible show LCg.CompEnd _ _ _ _ _ _ _ _ _ _ _ _ _ _)); first | (k_unfold; (try dsimp only)) | walk1 | (dsimp only; walk1))
                        obtain ⟨fr2, up2, F3, N3, dis3⟩ := body_out bare up k0 kf gr2 hgL ‹Fr g2 L' _ _› ‹News g2 L' _ _›
                        refine LCg.CompEnd.intro F3 N3 (led ++ fr2) (fun p hp => hp) (LCg.Off3.of fun p hp => ?_) (.inr ⟨_, List.mem_append_left _ (by rw [hled]; exact .head _), rfl, _, rfl⟩) ⟨fr2, rfl, rfl, up2⟩
                        rcases List.mem_append.mp hp with hp | hp
                        · exact offm p (List.mem_append_left _ hp)
                        · obtain ⟨q', h1, h2⟩ := up.addr up2 p hp
                          rw [← h2]; exact offm q' (List.mem_append_right _ h1)
                      case fin =>
                        rintro zs news ⟨fr, rfl, rfl, up⟩ D3 h tk F N o2
                        have om := off1_mem o2
                        have dis' : ∀ p ∈ (D3, LCg.lst []) :: led, p.1 ∉ frs outer := List.forall_mem_cons.mpr ⟨bare.dis up fun q hq => om q (List.mem_append_right _ hq), dis⟩
                        obtain ⟨g1, F1, N1, gr1, grg, st1, ff1, k0, kf⟩ := body_in (news := (D3, LCg.lst []) :: led) bare up F N dis'
                        clear F N X0 T0
                        have X1 := G.X.keeps st1
                        have T1 := G.T.keeps st1
                        rw [hled] at N1
                        (try dsimp only)
                        repeat ((fail_if_success (with_reducible show wpAny _ _ (compareOp _ _ _) _ _ _)); walk1)
                        refine' eq_nilP_N (ps := []) (tp := []) (vs := []) ‹News g1 L' _ _› (by k_mem) (by k_mem) .nil (fun _ h => nomatch h) (fun _ h => nomatch h) (by walk_at "m_lvl") ?_
                        k_steps
                        have hsame : ∀ q ∈ (x, instObj 221 dx) :: (dx, scD w text pl k1 k2 t1 t2) :: (274, tabObj ps) :: cs, q.1 ∈ [274] ∨ q ∈ (x, instObj 221 dx) :: (dx, scD w text pl k1 k2 t1 t2) :: (274, tabObj ps') :: (new ++ cs) :=
                          List.forall_mem_cons.mpr ⟨.inr (.head _), List.forall_mem_cons.mpr ⟨.inr (.tail _ (.head _)), List.forall_mem_cons.mpr ⟨.inl (.head _), fun q hq => .inr (.tail _ (.tail _ (.tail _ (List.mem_append_right _ hq))))⟩⟩⟩
                        have hnew : ∀ q ∈ (274, tabObj ps') :: new, q ∈ (x, instObj 221 dx) :: (dx, scD w text pl k1 k2 t1 t2) :: (274, tabObj ps') :: (new ++ cs) ∧ (q.1 ∈ [274] ∨ ∀ p ∈ (x, instObj 221 dx) :: (dx, scD w text pl k1 k2 t1 t2) :: (274, tabObj ps) :: cs, p.1 ≠ q.1) :=
                          List.forall_mem_cons.mpr ⟨⟨.tail _ (.tail _ (.head _)), .inl (.head _)⟩, fun q hq => ⟨.tail _ (.tail _ (.tail _ (List.mem_append_left _ hq))), .inr (List.forall_mem_cons.mpr ⟨(K.nx q hq).symm, List.forall_mem_cons.mpr ⟨(K.nd q hq).symm, List.forall_mem_cons.mpr ⟨(K.nt q hq).symm, K.ns q hq⟩⟩⟩)⟩⟩
                        exact hQ _ _ (con_endF (s := s) ((274, tabObj ps') :: new) k C gr1 ‹Fr g1 L' _ _› (News.of ‹News g1 L' _ _› fun q hq => .tail _ (.tail _ (.tail _ (.tail _ hq)))) hsame hnew ⟨ps', new, rfl, rfl, K.tab, K.nt⟩)
end
set_option maxRecDepth 100000
set_option maxHeartbeats 8000000
section
variable {prog : Program} {w : World} {A : Around} {E : Value → Shared → Prop} {s : Shared} {env : Env} {h₀ : Heap} {x : Str} {body : List Stmt} {Q : Flow → Shared → Prop}
theorem list_inv {I : Addr} {lp : Addr × Obj} {vs : List Value} (J : Nat → (Str → Option Value) → List (Addr × Obj) → Prop)
    (step : ∀ i v m news it h tk, vs[i]? = some v → J i m news → it.cls = .type "list_iterator" → Fr h₀ env.locals h (fun y => if y = x then some v else m y) → News h₀ env.locals h ((I, it) :: news) →
      wpAny (model prog w) A (execs body env) (UnrPost h₀ env.locals { s with heap := h, toks := tk } I it (fun m' n' => lp ∈ n' ∧ J (i + 1) m' n') Q) E { s with heap := h, toks := tk })
    (fin : ∀ m news h tk, J vs.length m news → Fr h₀ env.locals h m → News h₀ env.locals h news → Q .next { s with heap := h, toks := tk }) :
    ∀ k i m news, i + k = vs.length → J i m news → ListRest prog w A E h₀ env x body Q s I lp (vs.drop i) m news
  | 0, i, m, news, hi, hJ => by
    obtain rfl : i = vs.length := by omega
    rw [List.drop_length]
    exact ListRest.zero fun h tk F N => fin m news h tk hJ F N
  | k + 1, i, m, news, hi, hJ => by
    have hl : i < vs.length := by omega
    rw [List.drop_eq_getElem_cons hl]
    exact ListRest.succ fun it h tk hit F N =>
      wpAny_mono (step i _ m news it h tk (List.getElem?_eq_getElem hl) hJ hit F N) (fun f s₂ y => UnrPost.mono (f := f) (s₂ := s₂) (h := fun m' news' z => ⟨z.1, list_inv J step fin k (i + 1) m' news' (by omega) z.2⟩) y) fun _ _ y => y
end
theorem Chain.drop : ∀ {ps : List Pc} (i : Nat), Chain ps → Chain (ps.drop i)
  | _, 0, h => h
  | [], _ + 1, _ => trivial
  | _ :: _, i + 1, h => Chain.drop i h.tail
theorem flat_at {ps : List Pc} {i : Nat} {p : Pc} (h : ps[i]? = some p) : (flatT ps).drop (flatT (ps.take i)).length = p.2.1.cps.toList ++ flatT (ps.drop (i + 1)) ∧ flatT (ps.take (i + 1)) = flatT (ps.take i) ++ p.2.1.cps.toList ∧ ps.drop i = p :: ps.drop (i + 1) := by
  obtain ⟨hl, e⟩ := List.getElem?_eq_some_iff.mp h
  have hd : ps.drop i = p :: ps.drop (i + 1) := by rw [List.drop_eq_getElem_cons hl, e]
  refine ⟨?_, ?_, hd⟩
  · have : flatT ps = flatT (ps.take i) ++ (p.2.1.cps.toList ++ flatT (ps.drop (i + 1))) := by
      have e2 := flatT_app (ps.take i) (ps.drop i)
      rw [List.take_append_drop, hd] at e2
      exact e2
    rw [this, List.drop_left]
  · rw [List.take_succ, h, flatT_app]
    show _ ++ (p.2.1.cps.toList ++ []) = _
    rw [List.append_nil]
/-- the ledger of a walk over the pieces -/
noncomputable abbrev tl (x dx : Addr) (w : World) (text : Str) (pl : Int) (k1 k2 t1 t2 : Tok) (ps : Array Value) (new X : List (Addr × Obj)) : List (Addr × Obj) := (x, instObj 221 dx) :: (dx, scD w text pl k1 k2 t1 t2) :: (274, tabObj ps) :: (new ++ X)
structure NewT (x dx : Addr) (new X cs : List (Addr × Obj)) (ps : Array Value) : Prop where
  tab : TabOk (new ++ cs) ps
  nx : ∀ q ∈ new, q.1 ≠ x
  nd : ∀ q ∈ new, q.1 ≠ dx
  nt : ∀ q ∈ new, q.1 ≠ 274
  ns : ∀ q ∈ new, ∀ p ∈ X, p.1 ≠ q.1
section
variable {prog : Program} {w : World} {mean : ExcName → Option Value} {mg mb : Str → Option Value} {B g h₀ : Heap} {A : Around} {s : Shared} {outer : List Env} {env : Env} {L : Addr} {m : Str → Option Value} {o₀ : List Addr} {E Q : Value → Shared → Prop} {x dx : Addr} {text : Str} {pl : Nat} {k1 k2 t1 t2 tt tp : Tok} {ps : Array Value} {pre new X cs : List (Addr × Obj)}
theorem others_use (G : Gd w mean mg mb B) (F : Fr g L s.heap m) (N : News g L s.heap (pre ++ tl x dx w text pl k1 k2 t1 t2 ps new X)) (K : NewT x dx new X cs ps) (gr : GR h₀ o₀ (frs outer) g) (st : B.StaysIn g) (ff : g.FunFrames B outer) (hfr : A.frames = some (env :: outer)) (hf : env.frame = some L) (hk : env.scope.kind ≠ .module)
    (h1 : A.depth ≤ 300 + 45) (h2 : A.units ≤ 8 * 45) (h3 : A.handled = none) (hX1 : ∀ q ∈ X, q.1 ≠ x) (hX2 : ∀ q ∈ X, q.1 ≠ dx) (hX3 : ∀ q ∈ X, q.1 ≠ 274) (hcX : ∀ q ∈ cs, q ∈ X) (hp : ∀ q ∈ pre, q.1 ≠ 274) (hx3 : x ≠ 274) (hd3 : dx ≠ 274)
    (hlen : text.length < 1000000) (hne : dx < x) (hasc : ∀ c ∈ text.cps.toList, c < 128) (hnn : ∀ c ∈ text.cps.toList, c ≠ 110) (hpl : pl ≤ text.length) (hC0 : CodeHd B 276 274)
    (k : ∀ g' h' tk' ps' new', Fr g' L h' m → News g' L h' (pre ++ tl x dx w text pl k1 k2 t1 t2 ps' new' X) → NewT x dx new' X cs ps' → (∀ q ∈ new', q ∈ new ∨ ∀ p ∈ pre, p.1 ≠ q.1) → GR h₀ o₀ (frs outer) g' → B.StaysIn g' → g'.FunFrames B outer → Q (.bool true) { s with heap := h', toks := tk' }) :
    wpAny (model prog w) A (call (.ref 277) [.ref x, .str text tt, .int (pl : Int) tp]) Q E s := by
  have inr : ∀ q ∈ tl x dx w text pl k1 k2 t1 t2 ps new X, q ∈ pre ++ tl x dx w text pl k1 k2 t1 t2 ps new X := fun q hq => List.mem_append_right _ hq
  have inc : ∀ q ∈ new ++ cs, q ∈ new ++ X := fun q hq => (List.mem_append.mp hq).elim (fun z => List.mem_append_left _ z) fun z => List.mem_append_right _ (hcX q z)
  refine con_useF (rest := pre ++ (x, instObj 221 dx) :: (dx, scD w text pl k1 k2 t1 t2) :: (new ++ X)) (others_con G x dx text pl k1 k2 t1 t2 tt tp ps (new ++ cs) hlen hne hasc hnn hpl (app_ne K.nx fun q hq => hX1 q (hcX q hq)) (app_ne K.nd fun q hq => hX2 q (hcX q hq)) (app_ne K.nt fun q hq => hX3 q (hcX q hq)) hx3 hd3 K.tab hC0)
    F N gr st ff hfr hf hk h1 h2 h3 (fun q hq => ?_) (fun a ha => ⟨tabObj ps, by rw [List.mem_singleton.mp ha]; exact inr _ (.tail _ (.tail _ (.head _)))⟩) (fun q hq => ?_) fun v new1 g' h' tk' hV F' N' gr' st' ff' l1 => ?_
  · refine inr q ?_
    rcases List.mem_cons.mp hq with rfl | hq
    · exact .head _
    · rcases List.mem_cons.mp hq with rfl | hq
      · exact .tail _ (.head _)
      · rcases List.mem_cons.mp hq with rfl | hq
        · exact .tail _ (.tail _ (.head _))
        · exact .tail _ (.tail _ (.tail _ (inc q hq)))
  · have ne : ∀ {a : Addr}, a ≠ 274 → a ∉ [274] := fun n z => n (List.mem_singleton.mp z)
    rcases List.mem_append.mp hq with hq | hq
    · exact ⟨List.mem_append_left _ hq, ne (hp q hq)⟩
    · rcases List.mem_cons.mp hq with rfl | hq
      · exact ⟨inr _ (.head _), ne hx3⟩
      · rcases List.mem_cons.mp hq with rfl | hq
        · exact ⟨inr _ (.tail _ (.head _)), ne hd3⟩
        · exact ⟨inr _ (.tail _ (.tail _ (.tail _ hq))), ne (app_ne K.nt hX3 q hq)⟩
  · obtain ⟨ps', tp', rfl, rfl, htab, hnt⟩ := hV
    have fr : ∀ q ∈ tp', ∀ p ∈ pre ++ tl x dx w text pl k1 k2 t1 t2 ps new X, p.1 ≠ q.1 := fun q hq => (l1 q (.tail _ hq)).resolve_left fun z => hnt q hq (List.mem_singleton.mp z)
    have two : ∀ {P : Addr × Obj → Prop}, (∀ q ∈ tp', P q) → (∀ q ∈ new, P q) → ∀ q ∈ tp' ++ new, P q := fun a b q hq => (List.mem_append.mp hq).elim (a q) (b q)
    refine k g' h' tk' ps' (tp' ++ new) F' (News.of N' fun q hq => ?_) ⟨by rw [List.append_assoc]; exact htab, two (fun q hq => (fr q hq _ (inr _ (.head _))).symm) K.nx, two (fun q hq => (fr q hq _ (inr _ (.tail _ (.head _)))).symm) K.nd, two hnt K.nt, two (fun q hq p hp => fr q hq p (inr _ (.tail _ (.tail _ (.tail _ (List.mem_append_right _ hp)))))) K.ns⟩
      (two (fun q hq => .inr fun p hp => fr q hq p (List.mem_append_left _ hp)) fun q hq => .inl hq) gr' st' ff'
    rcases List.mem_append.mp hq with hq | hq
    · exact List.mem_append_right _ (List.mem_append_left _ hq)
    · rcases List.mem_cons.mp hq with rfl | hq
      · exact List.mem_append_right _ (List.mem_append_right _ (.head _))
      · rcases List.mem_cons.mp hq with rfl | hq
        · exact List.mem_append_right _ (List.mem_append_right _ (.tail _ (.head _)))
        · rcases List.mem_cons.mp hq with rfl | hq
          · exact List.mem_append_left _ (.head _)
          · rw [List.append_assoc] at hq
            rcases List.mem_append.mp hq with hq | hq
            · exact List.mem_append_left _ (.tail _ hq)
            · exact List.mem_append_right _ (List.mem_append_right _ (.tail _ (.tail _ hq)))
end
section
variable {prog : Program} {w : World} {mean : ExcName → Option Value} {mg mb : Str → Option Value} {B : Heap} (G : Gd w mean mg mb B)
include G
/-- _law_read, whatever the kind -/
theorem read_any_con (x dx T : Nat) (text : Str) (p : Pc) (pl : Nat) (r : List Nat) (k1 k2 t1 t2 tk tt th : Tok) (hlen : text.length < 1000000) (hne : dx < x) (hasc : ∀ c ∈ text.cps.toList, c < 128)
    (hd' : text.cps.toList.drop pl = p.2.1.cps.toList ++ r) (hB : pieceB p = true) (hnc : p.1 = Str.ofString "name" ∨ p.1 = Str.ofString "token" → ∀ c, r.head? = some c → ncB c = false) (hsp : p.1 = Str.ofString "spaces" → ∀ c, r.head? = some c → spB c = false) (hT1 : @Ne Nat T x) (hT2 : @Ne Nat T dx) :
    Con prog w B 48 (.ref 265) [.ref x, .ref T] [(x, instObj 221 dx), (dx, scD w text pl k1 k2 t1 t2), (T, tupO [.str p.1 tk, .str p.2.1 tt, .str p.2.2 th])] [dx]
      (fun v new => ∃ t2' tv, new = [(dx, scD w text ((pl : Int) + ((p.2.1.length : Nat) : Int)) k1 k2 t1 t2')] ∧ v = .str p.2.2 tv) := by
  obtain ⟨kd, tx, h⟩ := p
  have hb := hB
  unfold pieceB at hb
  dsimp only at hb hd' hnc hsp ⊢
  have hlx : tx.cps.toList.length = tx.length := rfl
  rw [← Int.natCast_add]
  by_cases k1' : kd = Str.ofString "name"
  · rw [if_pos k1'] at hb
    simp only [Bool.and_eq_true, decide_eq_true_eq, beq_iff_eq, List.all_eq_true] at hb
    obtain ⟨⟨_, ⟨e, h0⟩, hn⟩, _⟩ := hb
    subst e k1'
    exact read_name_con G x dx T text tx pl r k1 k2 t1 t2 tk tt th hlen hne hasc hd' h0 hn (hnc (.inl rfl)) hT1 hT2
  rw [if_neg k1'] at hb
  by_cases k2' : kd = Str.ofString "token"
  · rw [if_pos k2'] at hb
    simp only [Bool.and_eq_true, decide_eq_true_eq, beq_iff_eq, List.all_eq_true, Bool.not_eq_true', List.isEmpty_eq_false_iff] at hb
    obtain ⟨⟨⟨_, h0⟩, e, hn⟩, _⟩ := hb
    subst e k2'
    exact read_token_con G x dx T text tx pl r k1 k2 t1 t2 tk tt th hlen hne hasc hd' h0 hn (hnc (.inr rfl)) hT1 hT2
  rw [if_neg k2'] at hb
  by_cases k3' : kd = Str.ofString "spaces"
  · rw [if_pos k3'] at hb
    simp only [Bool.and_eq_true, decide_eq_true_eq, beq_iff_eq, List.all_eq_true, Bool.not_eq_true', List.isEmpty_eq_false_iff] at hb
    obtain ⟨⟨⟨⟨⟨hl, _⟩, _⟩, h0⟩, ⟨e, hn⟩, _⟩, _⟩ := hb
    subst e k3'
    exact read_spaces_con G x dx T text tx pl r k1 k2 t1 t2 tk tt th hlen hne hd' hn (hsp rfl) hl hT1 hT2
  rw [if_neg k3'] at hb
  by_cases k4' : kd = Str.ofString "word"
  · rw [if_pos k4'] at hb
    simp only [Bool.and_eq_true, decide_eq_true_eq, beq_iff_eq, List.all_eq_true, Bool.not_eq_true', List.isEmpty_eq_false_iff] at hb
    obtain ⟨⟨⟨⟨⟨hl, _⟩, _⟩, h0⟩, ⟨e, _⟩, _⟩, _⟩ := hb
    subst e k4'
    exact read_word_con G x dx T text tx pl r k1 k2 t1 t2 tk tt th hlen hne hd' h0 hl hT1 hT2
  rw [if_neg k4'] at hb
  by_cases k5' : kd = Str.ofString "quoted"
  · rw [if_pos k5'] at hb
    simp only [Bool.and_eq_true, Bool.or_eq_true, beq_iff_eq, Bool.not_eq_true'] at hb
    obtain ⟨⟨_, _, e⟩, _⟩ := hb
    subst k5'
    rcases e with ⟨e, hq⟩ | ⟨e, hq⟩
    · have e1 : (Str.ofString "\"").cps.toList = [34] := by decide
      have et : tx.cps.toList = 34 :: (h.cps.toList ++ [34]) := by rw [e, cl_append, cl_append, e1]; simp
      have el : tx.length = h.cps.toList.length + 2 := by rw [← hlx, et]; simp
      rw [el, ← Nat.add_assoc]
      exact read_q1_con G x dx T text h tx pl r k1 k2 t1 t2 tk tt th hlen hne (by rw [hd', et]; simp) (fun hm => by rw [List.contains_iff_mem.mpr hm] at hq; cases hq) hT1 hT2
    · have e1 : (Str.ofString "'").cps.toList = [39] := by decide
      have et : tx.cps.toList = 39 :: (h.cps.toList ++ [39]) := by rw [e, cl_append, cl_append, e1]; simp
      have el : tx.length = h.cps.toList.length + 2 := by rw [← hlx, et]; simp
      rw [el, ← Nat.add_assoc]
      exact read_q2_con G x dx T text h tx pl r k1 k2 t1 t2 tk tt th hlen hne (by rw [hd', et]; simp) (fun hm => by rw [List.contains_iff_mem.mpr hm] at hq; cases hq) hT1 hT2
  rw [if_neg k5'] at hb
  by_cases k6' : kd = Str.ofString "until"
  · rw [if_pos k6'] at hb
    simp only [Bool.and_eq_true, Bool.or_eq_true, beq_iff_eq, Bool.not_eq_true'] at hb
    obtain ⟨⟨_, ⟨e, hq⟩, _⟩, _⟩ := hb
    subst k6'
    have e1 : (Str.ofString "?>").cps.toList = [63, 62] := by decide
    have et : tx.cps.toList = h.cps.toList ++ [63, 62] := by rw [e, cl_append, e1]
    have el : tx.length = h.cps.toList.length + 2 := by rw [← hlx, et]; simp
    rw [el, ← Nat.add_assoc]
    exact read_until_con G x dx T text h tx pl r k1 k2 t1 t2 tk tt th hlen hne (by rw [hd', et]; simp) (fun hm => by rw [List.contains_iff_mem.mpr hm] at hq; cases hq) hT1 hT2
  rw [if_neg k6'] at hb
  simp at hb
end
set_option maxRecDepth 100000
set_option maxHeartbeats 8000000
theorem ln28 : True := by
  k_with_none
  k_with "M subscriptTail Name Constant ref int" => (k_here; (with_reducible show wpAny _ _ (subscriptTail _ _ (Value.ref _) (Value.int _ _)) _ _ _); k_dflt (refine' Mine.item_N ?k0 ?k1 ?k2 ?k3 ?k4 ?_ ?k6; (case k0 => k_asm); (case k1 => k_mem); (case k2 => decide); (case k3 => decide); (case k4 => rfl); (case k6 => with_unfolding_all rfl); k_whole))
  k_with "M m_new" => first | exact List.forall_mem_nil _ | (refine' List.forall_mem_cons.mpr ⟨And.intro ?mzA ?mzB, ?mzC⟩; (case mzA => k_mem); (case mzB => (try dsimp only); first | exact Or.inl (by k_mem) | exact Or.inr (by walk_at "m_all")); (case mzC => walk_at "m_new"))
  k_with "M m_spl" => first | exact Mine.Spl.head | exact (Mine.Spl.tail Mine.Spl.head) | exact (Mine.Spl.tail (Mine.Spl.tail Mine.Spl.head)) | exact (Mine.Spl.tail (Mine.Spl.tail (Mine.Spl.tail Mine.Spl.head))) | exact (Mine.Spl.tail (Mine.Spl.tail (Mine.Spl.tail (Mine.Spl.tail Mine.Spl.head)))) | exact (Mine.Spl.tail (Mine.Spl.tail (Mine.Spl.tail (Mine.Spl.tail (Mine.Spl.tail Mine.Spl.head))))) | exact (Mine.Spl.tail (Mine.Spl.tail (Mine.Spl.tail (Mine.Spl.tail (Mine.Spl.tail (Mine.Spl.tail Mine.Spl.head)))))) | exact (Mine.Spl.tail (Mine.Spl.tail (Mine.Spl.tail (Mine.Spl.tail (Mine.Spl.tail (Mine.Spl.tail (Mine.Spl.tail Mine.Spl.head))))))) | exact (Mine.Spl.tail (Mine.Spl.tail (Mine.Spl.tail (Mine.Spl.tail (Mine.Spl.tail (Mine.Spl.tail (Mine.Spl.tail (Mine.Spl.tail Mine.Spl.head)))))))) | exact (Mine.Spl.tail (Mine.Spl.tail (Mine.Spl.tail (Mine.Spl.tail (Mine.Spl.tail (Mine.Spl.tail (Mine.Spl.tail (Mine.Spl.tail (Mine.Spl.tail Mine.Spl.head))))))))) | exact (Mine.Spl.tail (Mine.Spl.tail (Mine.Spl.tail (Mine.Spl.tail (Mine.Spl.tail (Mine.Spl.tail (Mine.Spl.tail (Mine.Spl.tail (Mine.Spl.tail (Mine.Spl.tail Mine.Spl.head)))))))))) | exact (Mine.Spl.tail (Mine.Spl.tail (Mine.Spl.tail (Mine.Spl.tail (Mine.Spl.tail (Mine.Spl.tail (Mine.Spl.tail (Mine.Spl.tail (Mine.Spl.tail (Mine.Spl.tail (Mine.Spl.tail Mine.Spl.head))))))))))) | exact (Mine.Spl.tail (Mine.Spl.tail (Mine.Spl.tail (Mine.Spl.tail (Mine.Spl.tail (Mine.Spl.tail (Mine.Spl.tail (Mine.Spl.tail (Mine.Spl.tail (Mine.Spl.tail (Mine.Spl.tail (Mine.Spl.tail Mine.Spl.head)))))))))))) | exact (Mine.Spl.tail (Mine.Spl.tail (Mine.Spl.tail (Mine.Spl.tail (Mine.Spl.tail (Mine.Spl.tail (Mine.Spl.tail (Mine.Spl.tail (Mine.Spl.tail (Mine.Spl.tail (Mine.Spl.tail (Mine.Spl.tail (Mine.Spl.tail Mine.Spl.head)))))))))))))
  k_with "M m_own" => first | exact List.forall_mem_nil _ | (refine' List.forall_mem_cons.mpr ⟨?mzA, ?mzB⟩; (case mzA => k_mem); (case mzB => walk_at "m_own"))
  k_with "M m_lvl" => first | exact lv_le 3 rfl (by assumption) rfl | exact lv_le 1 rfl (by assumption) rfl | exact lv_le 0 rfl (by assumption) rfl | exact lv_le 2 rfl (by assumption) rfl | ((try simp only [depth_under_make, depth_under_kw, depth_in1, depth_deeper, units_in1, units_deeper, units_under_make, Around.mark_units]); (try dsimp only); omega)
  k_with "M call builtin:len" => (k_here; (with_reducible show wpAny _ _ (call (Value.builtin "len") [Value.ref _]) _ _ _); k_dflt (refine' Mine.len_N ?k0 ?k1 ?k2 ?_; (case k0 => k_asm); (case k1 => k_mem); (case k2 => (try simp only [List.length_cons, List.length_nil]); omega); k_whole))
  k_with "M m_ne0" => (replace l1 := ne0_of l1; (try simp only [NewNe0, AllNe, and_true, and_assoc] at l1); (repeat (have := And.left l1; replace l1 := And.right l1)))
  k_with "M m_ne1" => (replace l1 := ne1_of l1; (try simp only [NewNe1, AllNe, and_true, true_or, true_and, and_assoc] at l1); (repeat (have := And.left l1; replace l1 := And.right l1)))
  k_with "M exec Raise some none" => (k_here; k_dflt (refine' Mine.raise_stmt ?hh ?_; (case hh => first | rfl | assumption)))
  k_with "M pyIter ref" => ((with_reducible show wpAny _ _ _ (fun it s₂ => UnrAt _ _ _ _ _ _ _ _ _ it s₂) _ _); (k_dflt (refine' Iter_tuple_unr ?hh ?ht ?F ?N ?htL ?_; (case F => k_asm); (case N => k_asm); (case hh => assumption); (case ht => exact News.isTup (by assumption) (by k_mem)); (case htL => exact News.ne_locals (by assumption) (by k_mem)))))
  k_with "M eval Name" => (k_here; (with_reducible show wpAny _ _ (eval (Expr.Name _ _) (envOfC _ _ _ _ _)) _ _ _); k_dflt (refine' nameX_L ?nxF ?nxV ?_; (case nxF => k_asm); (case nxV => rfl); k_whole))
  k_with "M m_sub" => first | exact List.forall_mem_nil _ | (refine' List.forall_mem_cons.mpr ⟨?mzA, ?mzB⟩; (case mzA => k_mem); (case mzB => walk_at "m_sub")) | (intro mzp mzh; k_mem)
  k_with "M m_off" => first | exact True.intro | assumption | (refine And.intro ⟨by k_ne, by k_ne, by k_ne⟩ ?_; walk_at "m_off")
  k_with "M m_same" => first | exact List.forall_mem_nil _ | (refine' List.forall_mem_cons.mpr ⟨?mzA, ?mzB⟩; (case mzA => (try dsimp only); first | exact Or.inl (by k_mem) | exact Or.inr (by k_mem)); (case mzB => walk_at "m_same")) | simp
  k_with "M m_all" => first | exact List.forall_mem_nil _ | (refine' List.forall_mem_cons.mpr ⟨?mzA, ?mzB⟩; (case mzA => k_ne); (case mzB => walk_at "m_all")) | assumption
  k_with "M om" => first | ((repeat (with_reducible rename (_ ≠ _) => hz9; clear hz9)); omega) | omega
  k_with "M m_ltp" => first | with_reducible assumption | (with_reducible rename (_ < _ ∧ _) => hq9; first | with_reducible exact hq9.1 | with_reducible exact hq9.2.1 | with_reducible exact hq9.2.2.1 | with_reducible exact hq9.2.2.2.1 | with_reducible exact hq9.2.2.2.2.1 | with_reducible exact hq9.2.2.2.2.2.1 | with_reducible exact hq9.2 | with_reducible exact hq9.2.2 | with_reducible exact hq9.2.2.2 | with_reducible exact hq9.2.2.2.2 | with_reducible exact hq9.2.2.2.2.2 | (clear hq9; walk_at "m_ltp"))
  k_with "M m_nel" => first | exact Nat.ne_of_lt (by walk_at "m_ltp") | exact Nat.ne_of_gt (by walk_at "m_ltp") | exact ne_lt_k 1 rfl (by walk_at "m_ltp") | exact ne_lt_k 2 rfl (by walk_at "m_ltp") | exact ne_lt_k 3 rfl (by walk_at "m_ltp") | exact ne_lt_k 4 rfl (by walk_at "m_ltp") | exact ne_gt_k 1 rfl (by walk_at "m_ltp") | exact ne_gt_k 2 rfl (by walk_at "m_ltp") | exact ne_gt_k 3 rfl (by walk_at "m_ltp") | exact ne_gt_k 4 rfl (by walk_at "m_ltp")
  k_with "M execs cons" => (k_here; (try k_gentoks); (with_reducible refine wpAny_execs_cons ?_); (try k_fold); (try dsimp only))
  k_with "M call ref" => (k_here; (with_reducible show wpAny _ _ (call (Value.ref 221) _) _ _ _); (k_dflt (refine' con_use0 (make_con ?G _ _) ?F ?N ?st ?d ?u ?h ?o ?_; (case F => k_asm); (case N => k_asm); (case o => walk_at "m_own"); (case st => assumption); (case d => walk_at "m_lvl"); (case u => walk_at "m_lvl"); (case h => assumption); (try (case G => assumption)); (all_goals (try (case t1 => first | omega | decide | assumption))); (all_goals (try (case t2 => first | omega | decide | assumption))); (all_goals (try (case t3 => first | omega | decide | assumption))); (all_goals (try (case t4 => first | omega | decide | assumption))); (all_goals (try (case t5 => first | omega | decide | assumption))); (all_goals (try (case a1 => assumption))); (all_goals (try (case a2 => assumption))); (all_goals (try (case a3 => assumption))); k_whole)); intro v new h' tk' hV F' N' l1; obtain ⟨x', dx', k1', k2', t2', e', hv', hne'⟩ := hV; subst e'; subst hv'; (try simp only [List.nil_append, List.cons_append] at N'); walk_at "m_ne0"; (try dsimp only); (try k_sweep))
  k_with "M call ref" => (k_here; (with_reducible show wpAny _ _ (call (Value.ref 141) _) _ _ _); (k_dflt (refine' use00 (is_over_con ?G _ _ _ _ _ _ _ _ ?t1) ?F ?N ?st ?d ?u ?h ?o ?_; (case F => k_asm); (case N => k_asm); (case o => walk_at "m_own"); (case st => assumption); (case d => walk_at "m_lvl"); (case u => walk_at "m_lvl"); (case h => assumption); (try (case G => assumption)); (all_goals (try (case t1 => first | omega | decide | assumption))); (all_goals (try (case t2 => first | omega | decide | assumption))); (all_goals (try (case t3 => first | omega | decide | assumption))); (all_goals (try (case t4 => first | omega | decide | assumption))); (all_goals (try (case t5 => first | omega | decide | assumption))); (all_goals (try (case a1 => assumption))); (all_goals (try (case a2 => assumption))); (all_goals (try (case a3 => assumption))); k_whole)); intro h' tk' F' N'; (try dsimp only); (try k_sweep))
  k_with "M call ref" => (k_here; (with_reducible show wpAny _ _ (call (Value.ref 218) _) _ _ _); (k_dflt (refine' use00 (end_con ?G _ _ _ _ _ _ _ _ ?t1 ?t2 ?t3) ?F ?N ?st ?d ?u ?h ?o ?_; (case F => k_asm); (case N => k_asm); (case o => walk_at "m_own"); (case st => assumption); (case d => walk_at "m_lvl"); (case u => walk_at "m_lvl"); (case h => assumption); (try (case G => assumption)); (all_goals (try (case t1 => first | omega | decide | assumption))); (all_goals (try (case t2 => first | omega | decide | assumption))); (all_goals (try (case t3 => first | omega | decide | assumption))); (all_goals (try (case t4 => first | omega | decide | assumption))); (all_goals (try (case t5 => first | omega | decide | assumption))); (all_goals (try (case a1 => assumption))); (all_goals (try (case a2 => assumption))); (all_goals (try (case a3 => assumption))); k_whole)); intro h' tk' F' N'; (try dsimp only); (try k_sweep))
  trivial
noncomputable abbrev tMap (src : Nat) (u1 u2 u3 u4 u5 : Option Value) : Str → Option Value := fun y =>
  if y = Str.ofString "piece" then u5 else if y = Str.ofString "place" then u4 else if y = Str.ofString "scanner" then u3 else if y = Str.ofString "text" then u2 else if y = Str.ofString "pieces" then u1 else List.lookup y [(Str.ofString "source", Value.ref src)]
set_option autoImplicit false in
inductive TxJ (src l x dx I : Nat) (w : World) (text : Str) (pl : Nat) (k1 k2 tj : Tok) (X cs fr0 : List (Addr × Obj)) (outer : List Env) (m : Str → Option Value) (news : List (Addr × Obj)) : Prop
  | mk (u : _) (t2 : _) (tpl : _) (new : _) (ps' : _) (fr : _) (z0 : m = tMap src (some (.ref l)) (some (.str text tj)) (some (.ref x)) (some (.int (pl : Nat) tpl)) u) (z1 : news = tl x dx w text (pl : Nat) k1 k2 tj t2 ps' new X ++ fr) (z2 : NewT x dx new X cs ps') (z3 : UpS fr0 fr) (z4 : (∀ q ∈ new, q.1 ≠ I)) (z5 : (∀ p ∈ tl x dx w text (pl : Nat) k1 k2 tj t2 ps' new X, p.1 ∉ frs outer)) : TxJ src l x dx I w text pl k1 k2 tj X cs fr0 outer m news
section
variable {prog : Program} {w : World} {mean : ExcName → Option Value} {mg mb : Str → Option Value} {B : Heap} (G : Gd w mean mg mb B)
include G
theorem text_right_con (src : Nat) (a b : Int) (ta tb : Tok) (n : Nat) (ps : Array Value) (cs : List (Addr × Obj)) (ha : 0 ≤ a) (hb0 : 0 ≤ b) (hb1 : b < 2147483647) (hc3 : ∀ q ∈ cs, q.1 ≠ 274) (hcs : ∀ q ∈ cs, q.1 ≠ src) (hs3 : @Ne Nat src 274) (htab : TabOk cs ps) (hC0 : CodeHd B 276 274) :
    ConF prog w B 44 (.ref 282) [.ref src] ((src, srcO a b ta tb n) :: (274, tabObj ps) :: cs) [src, 274]
      (fun v new => ∃ a' b' ta' tb' n' ps' tp', v = .bool true ∧ new = (src, srcO a' b' ta' tb' n') :: (274, tabObj ps') :: tp' ∧ TabOk (tp' ++ cs) ps' ∧ (∀ q ∈ tp', q.1 ≠ 274) ∧ (∀ q ∈ tp', q.1 ≠ src) ∧ 0 ≤ a' ∧ 0 ≤ b' ∧ b' < 2147483647) := by
  intro A s R outer C k
  obtain ⟨ah, ad, af, ag, au⟩ := A
  obtain rfl : ah = none := C.ha
  refine' enterF G C (by decide) (binds := [("source", Value.ref src)]) (rb := [("source", Value.ref src)]) ?ho ?hcd ?hb ?hl rfl ?k ?c1 ?c2 ?c3 ?c4
  case ho => k_is
  case hcd => k_is
  case hb => first | exact BindsTo.of_eq rfl | exact binds_K (G.X.keeps C.st) rfl (by k_is) rfl rfl rfl
  case hl => exact locs rfl
  case c1 => rfl
  case c2 => rfl
  case c3 => rfl
  case c4 => decide
  case k =>
    intro g L' h₁ m Q E tk gr hm hQ hQn hE hP F N X' T' st ff
    subst hm
    have hA : ad ≤ _ := C.lv
    have hu : au ≤ _ := C.un
    have hh := C.ha
    have hfr : af = some outer := C.fr
    repeat ((fail_if_success (with_reducible show wpAny _ _ (call (Value.ref _) _) _ _ _)); walk1)
    refine' con_useF1 (pieces_con G src a b ta tb n ha hb0 hb1) (by assumption) (by assumption) gr st ff (Around.frames_deeper hfr) rfl (fun z => nomatch z) (by walk_at "m_lvl") (by walk_at "m_lvl") (by first | rfl | assumption) (by walk_at "m_own") (by walk_at "m_spl") (by walk_at "m_all") ?_
    intro v1 new1 g' h' tk' hV F' N' gr st ff l1
    obtain ⟨l, vs, pz, tp, n2, a', b', ta', tb', n', rfl, rfl, hps, htb, hch, hpl6, ha', hb0', hb1'⟩ := hV
    have hnt : ∀ q ∈ (src, srcO a' b' ta' tb' n') :: (l, listOf vs.toArray n2) :: tp, q.1 ≠ 274 := fun q hq => (l1 q hq).elim (fun z => z ▸ hs3) fun z => (z (274, tabObj ps) (.tail _ (.head _))).symm
    obtain ⟨X, hX⟩ : ∃ X, X = (src, srcO a' b' ta' tb' n') :: (l, listOf vs.toArray n2) :: (tp ++ cs) := ⟨_, rfl⟩
    have hcX : ∀ q ∈ cs, q ∈ X := fun q hq => by rw [hX]; exact .tail _ (.tail _ (List.mem_append_right _ hq))
    have htX : ∀ q ∈ tp, q ∈ X := fun q hq => by rw [hX]; exact .tail _ (.tail _ (List.mem_append_left _ hq))
    have hlX : (l, listOf vs.toArray n2) ∈ X := by rw [hX]; exact .tail _ (.head _)
    have hsX : (src, srcO a' b' ta' tb' n') ∈ X := by rw [hX]; exact .head _
    have hX3 : ∀ q ∈ X, q.1 ≠ 274 := by
      rw [hX]
      exact List.forall_mem_cons.mpr ⟨hs3, List.forall_mem_cons.mpr ⟨hnt _ (.tail _ (.head _)), app_ne (fun q hq => hnt q (.tail _ (.tail _ hq))) hc3⟩⟩
    replace N' : News g' L' h' ((274, tabObj ps) :: X) := News.of N' fun q hq => by
      rw [hX] at hq
      rcases List.mem_cons.mp hq with rfl | hq
      · exact .tail _ (.tail _ (List.mem_append_right _ (.head _)))
      · rcases List.mem_cons.mp hq with rfl | hq
        · exact .head _
        · rcases List.mem_cons.mp hq with rfl | hq
          · exact .tail _ (.head _)
          · exact .tail _ (.tail _ ((List.mem_append.mp hq).elim (List.mem_append_left _) fun z => List.mem_append_right _ (.tail _ z)))
    have X' := G.X.keeps st
    have T' := G.T.keeps st
    clear l1 hnt
    have hvl := hps.len
    repeat ((fail_if_success (with_reducible show wpAny _ _ (eval (Expr.ListComp _ _ _ _) _) _ _ _)); walk1)
    refine' LCg.ListComp_U (F₀ := by k_asm) (by with_unfolding_all rfl) (by decide) (by rfl) (by decide) (by rfl) ?_
    repeat ((fail_if_success (with_reducible show LCg.CompSrc _ _ _ _ _ _ _ _ _ _ _ _ _ _)); walk1)
    refine' LCg.CompSrc.ledger (its := vs.toArray) (k := n2) ?hh (by k_asm) ‹News g' L' _ _› (.tail _ hlX) ?hz ?_
    case hh => assumption
    case hz => rw [sizeLine_eq]; simp; walk_at "om"
    intro g3
    refine' comp_inv (fun i zs news => Gate (StrsAre zs ((pz.take i).map fun p => p.2.1) ∧ news = (274, tabObj ps) :: X)) ?step ?fin _ _ _ _ (Nat.zero_add _) ?start
    case start => exact ⟨.nil, rfl⟩
    case step =>
      rintro i zs news v I oI Ca oC D3 m₂ h tk E' hi ⟨hzs, rfl⟩ hv hC hx F N off ne
      obtain ⟨T, kk, tx, hh', tkk, ttx, thh, rfl, hp, hT⟩ := hps.at (i := i) (v := v) (by rw [List.getElem?_toArray] at hv; exact hv)
      repeat ((fail_if_success (with_reducible show wpAny _ _ (subscriptTail _ _ _ _) _ _ _)); walk1)
      refine' tup_N ‹News g' L' _ _› (.tail _ (.tail _ (.tail _ (.tail _ (htX _ hT))))) (by decide) (by decide) (rfl : _ = some (Value.str tx ttx)) ?_ (by with_unfolding_all rfl)
      repeat ((fail_if_success (with_reducible show LCg.CompEnd _ _ _ _ _ _ _ _ _ _ _ _ _ _)); first | (k_unfold; (try dsimp only)) | walk1 | (dsimp only; walk1))
      refine LCg.CompEnd.intro (by assumption) ‹News g' L' _ _› ((274, tabObj ps) :: X) (fun p hp => hp) off (.inr ⟨_, .tail _ hlX, rfl, _, rfl⟩) ⟨?_, rfl⟩
      rw [List.take_succ, hp, List.map_append]
      exact hzs.append' (.cons _ _ .nil)
    case fin =>
      rintro zs news ⟨hzs, rfl⟩ D3 h tk F N o2
      (try dsimp only)
      rw [show vs.toArray.size = pz.length by simp [hvl], List.take_length] at hzs
      have hsum := sum_le' (B := 20) (l := pz.map fun p => p.2.1) fun s hs => by
        obtain ⟨p, hp, rfl⟩ := List.mem_map.mp hs
        exact (piece_base (hch.all p hp)).1
      have hz0 : (Str.ofString "").length = 0 := by decide
      have hml : (pz.map fun p => p.2.1).length = pz.length := List.length_map ..
      repeat ((fail_if_success (with_reducible show wpAny _ _ (call _ _) _ _ _)); walk1)
      refine join_list (ys := pz.map fun p => p.2.1) ⟨_, (N (D3, LCg.lst zs) (by k_mem)).1, rfl, _, rfl⟩ hzs (by rw [hz0]; walk_at "om") fun tj kj => ?_
      have hflat := flatT_join pz
      generalize PySem.Txt.join (Str.ofString "") (pz.map fun p => p.2.1) = text at hflat
      have hfb := flat_base hch.all
      repeat ((fail_if_success (with_reducible show wpAny _ _ (call (Value.ref _) _) _ _ _)); walk1)
      refine' con_use0 (make_con G text tj) (by assumption) ‹News g' L' _ _› st (by walk_at "m_lvl") (by walk_at "m_lvl") (by first | rfl | assumption) (fun q hq => nomatch hq) ?_
      intro v2 new2 h2 tk2 hV F2 N2 l2
      obtain ⟨x, dx, k1, k2, t2, rfl, rfl, hdx⟩ := hV
      have hXx : ∀ q ∈ X, q.1 ≠ x := fun q hq => l2 _ (.head _) q (.tail _ (.tail _ hq))
      have hXd : ∀ q ∈ X, q.1 ≠ dx := fun q hq => l2 _ (.tail _ (.head _)) q (.tail _ (.tail _ hq))
      have hx3 : x ≠ 274 := (l2 _ (.head _) (274, tabObj ps) (.tail _ (.head _))).symm
      have hd3 : dx ≠ 274 := (l2 _ (.tail _ (.head _)) (274, tabObj ps) (.tail _ (.head _))).symm
      clear l2 N F
      replace N2 : News g' L' h2 (tl x dx w text ((0 : Nat) : Int) k1 k2 tj t2 ps [] X) := News.of N2 fun q hq => by
        rcases List.mem_cons.mp hq with rfl | hq
        · exact .head _
        · rcases List.mem_cons.mp hq with rfl | hq
          · exact .tail _ (.head _)
          · exact .tail _ (.tail _ (.tail _ hq))
      have hlen : text.length ≤ 120 := by
        have : text.cps.toList.length = text.length := rfl
        rw [hflat] at this
        walk_at "om"
      have hasc : ∀ c ∈ text.cps.toList, c < 128 := by rw [hflat]; exact fun c hc => (hfb.2 c hc).1
      have hnn : ∀ c ∈ text.cps.toList, c ≠ 110 := by rw [hflat]; exact fun c hc => (hfb.2 c hc).2
      have htk : ∀ i, (flatT (pz.take i)).length ≤ text.length := fun i => by
        have e2 := flatT_app (pz.take i) (pz.drop i)
        rw [List.take_append_drop, ← hflat] at e2
        have : text.cps.toList.length = text.length := rfl
        rw [e2, List.length_append] at this
        walk_at "om"
      have hsl : @LT.lt Nat _ text.length 1000000 := by walk_at "om"
      clear hzs hsum hz0 hml hfb
      (try dsimp only)
      repeat ((fail_if_success (with_reducible show wpAny _ _ (exec (Stmt.For _ _ _ _ _) _) _ _ _)); walk1)
      obtain ⟨g0, fr0, bare, F0, N0, dis, up0⟩ := loop_in ‹Fr g' L' _ _› (News.of ‹News g' L' _ _› (l := tl x dx w text ((0 : Nat) : Int) k1 k2 tj t2 ps [] X) fun q hq => .tail _ hq) gr st ff
      have st0 := bare.st0
      have X0 := G.X.keeps st0
      have T0 := G.T.keeps st0
      have hgL : g0.objs.size ≤ L' := F0.above
      clear X' T'
      refine' For_invVF F0 (by exact rfl) (by exact rfl) ?_
      repeat ((fail_if_success (with_reducible show wpAny _ _ (pyIter _) _ _ _)); walk1)
      refine' iter_listUnr (n := n2) ?hh (by assumption) ‹News g0 L' _ _› (List.mem_append_left _ (.tail _ (.tail _ (.tail _ hlX)))) rfl rfl (fun I hI => list_inv (fun i m news => TxJ src l x dx I w text (flatT (pz.take i)).length k1 k2 tj X cs fr0 outer m news) ?step ?fin _ _ _ _ (Nat.zero_add _) ?start)
      case hh => assumption
      case start =>
        refine' ⟨none, _, _, [], ps, fr0, ?mp, rfl, ⟨htab, (fun _ h => nomatch h), (fun _ h => nomatch h), (fun _ h => nomatch h), (fun _ h => nomatch h)⟩, up0, (fun _ h => nomatch h), dis⟩
        case mp =>
          funext y
          by_cases h0 : y = Str.ofString "piece"
          · subst h0; rfl
          by_cases h1 : y = Str.ofString "place"
          · subst h1; rfl
          by_cases h2 : y = Str.ofString "scanner"
          · subst h2; rfl
          by_cases h3 : y = Str.ofString "text"
          · subst h3; rfl
          by_cases h4 : y = Str.ofString "pieces"
          · subst h4; rfl
          simp only [if_neg h0, if_neg h1, if_neg h2, if_neg h3, if_neg h4]
      case step =>
        rintro i v m news it h tk hv ⟨u, t2', tpl, new, ps', fr, rfl, rfl, K, up, hnI, dis2⟩ hit F N
        obtain ⟨T, kk, tx, hr, tkk, ttx, thh, rfl, hp, hT⟩ := hps.at hv
        replace F : Fr g0 L' h (tMap src (some (.ref l)) (some (.str text tj)) (some (.ref x)) (some (.int ((flatT (pz.take i)).length : Nat) tpl)) (some (.ref T))) := by
          refine Fr.cg F ?_
          funext y
          by_cases h0 : y = Str.ofString "piece"
          · subst h0; rfl
          simp only [if_neg h0]
        replace N : News g0 L' h (((I, it) :: tl x dx w text ((flatT (pz.take i)).length : Nat) k1 k2 tj t2' ps' new X) ++ fr) := N
        have hIf : ∀ q ∈ fr, q.1 ≠ I := fun q hq => by
          obtain ⟨q', h1, h2⟩ := up0.addr up q hq
          rw [← h2]; exact Nat.ne_of_lt (hI q' (List.mem_append_right _ h1))
        have hIt : @Ne Nat 274 I := Nat.ne_of_lt (hI (274, tabObj ps) (.tail _ (.tail _ (.head _))))
        have hIx : @Ne Nat x I := Nat.ne_of_lt (hI _ (.head _))
        have hId : @Ne Nat dx I := Nat.ne_of_lt (hI (dx, scD w text ((0 : Nat) : Int) k1 k2 tj t2) (.tail _ (.head _)))
        have hIX : ∀ q ∈ X, q.1 ≠ I := fun q hq => Nat.ne_of_lt (hI q (.tail _ (.tail _ (.tail _ (List.mem_append_left _ hq)))))
        obtain ⟨g1, F1, N1, gr1, grg, st1, ff1, k0, kf⟩ := body_in (news := (I, it) :: tl x dx w text ((flatT (pz.take i)).length : Nat) k1 k2 tj t2' ps' new X) bare up F N (List.forall_mem_cons.mpr ⟨bare.dis up hIf, dis2⟩)
        clear F N X0 T0 gr1
        have X1 := G.X.keeps st1
        have T1 := G.T.keeps st1
        obtain ⟨fa1, fa2, fa3⟩ := flat_at hp
        have hdp : text.cps.toList.drop (flatT (pz.take i)).length = tx.cps.toList ++ flatT (pz.drop (i + 1)) := by rw [hflat]; exact fa1
        have hchd : Chain ((kk, tx, hr) :: pz.drop (i + 1)) := by rw [← fa3]; exact hch.drop i
        (try dsimp only)
        repeat ((fail_if_success (with_reducible show wpAny _ _ (call (Value.ref _) _) _ _ _)); walk1)
        refine others_use (pre := [(I, it)]) G (by assumption) ‹News g1 L' _ _› K grg st1 ff1 (Around.frames_deeper hfr) rfl (fun z => nomatch z) (by walk_at "m_lvl") (by walk_at "m_lvl") (by rfl) hXx hXd hX3 hcX (fun q hq => by rw [List.mem_singleton.mp hq]; exact hIt.symm) hx3 hd3 hsl hdx hasc hnn (htk i) hC0 ?_
        intro g2 h2 tk2 ps2 new2 F2 N2 K2 hs2 gr2 st2 ff2
        replace N2 : News g2 L' h2 ((I, it) :: tl x dx w text ((flatT (pz.take i)).length : Nat) k1 k2 tj t2' ps2 new2 X) := N2
        have X2 := G.X.keeps st2
        have T2 := G.T.keeps st2
        clear X1 T1
        (try dsimp only)
        repeat ((fail_if_success (with_reducible show wpAny _ _ (call (Value.ref _) _) _ _ _)); walk1)
        have hTX := htX _ hT
        have hTx : @Ne Nat T x := hXx _ hTX
        have hTd : @Ne Nat T dx := hXd _ hTX
        refine' con_use1 (read_any_con G x dx T text (kk, tx, hr) (flatT (pz.take i)).length (flatT (pz.drop (i + 1))) k1 k2 tj t2' tkk ttx thh hsl hdx hasc hdp hchd.head (next_nc hchd) (next_sp hchd) hTx hTd) (by assumption) ‹News g2 L' _ _› st2 (by walk_at "m_lvl") (by walk_at "m_lvl") (by rfl) (List.forall_mem_cons.mpr ⟨.tail _ (.head _), List.forall_mem_cons.mpr ⟨.tail _ (.tail _ (.head _)), List.forall_mem_cons.mpr ⟨.tail _ (.tail _ (.tail _ (.tail _ (List.mem_append_right _ hTX)))), List.forall_mem_nil _⟩⟩⟩) (.tail (.tail .head)) (List.forall_mem_cons.mpr ⟨Ne.symm hId, List.forall_mem_cons.mpr ⟨Nat.ne_of_gt hdx, List.forall_mem_cons.mpr ⟨Ne.symm hd3, app_ne K2.nd hXd⟩⟩⟩) ?_
        rintro v3 new3 h3 tk3 ⟨t4, tv, rfl, rfl⟩ F3 N3 -
        replace N3 : News g2 L' h3 ((I, it) :: tl x dx w text (((flatT (pz.take i)).length : Nat) + ((tx.length : Nat) : Int)) k1 k2 tj t4 ps2 new2 X) := News.of N3 fun q hq => by
          rcases List.mem_cons.mp hq with rfl | hq
          · exact .tail _ (.head _)
          · rcases List.mem_cons.mp hq with rfl | hq
            · exact .tail _ (.tail _ (.head _))
            · rcases List.mem_cons.mp hq with rfl | hq
              · exact .head _
              · exact .tail _ (.tail _ (.tail _ hq))
        have htl : tx.length ≤ 20 := (piece_base hchd.head).1
        (try dsimp only)
        repeat ((fail_if_success (with_reducible show wpAny _ _ (subscriptTail _ _ _ _) _ _ _)); walk1)
        refine' tup_N ‹News g2 L' _ _› (.tail _ (.tail _ (.tail _ (.tail _ (List.mem_append_right _ hTX))))) (by decide) (by decide) (rfl : _ = some (Value.str hr thh)) ?_ (by with_unfolding_all rfl)
        have hbn : (hr != hr) = false := by simp
        have hbi : (((flatT (pz.take i)).length : Nat) + ((tx.length : Nat) : Int) != ((flatT (pz.take i)).length : Nat) + ((tx.length : Nat) : Int)) = false := by simp
        repeat ((fail_if_success (with_reducible show wpAny _ _ (subscriptTail _ _ _ _) _ _ _)); walk1)
        refine' tup_N ‹News g2 L' _ _› (.tail _ (.tail _ (.tail _ (.tail _ (List.mem_append_right _ hTX))))) (by decide) (by decide) (rfl : _ = some (Value.str tx ttx)) ?_ (by with_unfolding_all rfl)
        repeat ((fail_if_success (with_reducible show UnrEnd _ _ _ _ _ _ _)); first | (k_unfold; (try dsimp only)) | walk1 | (dsimp only; walk1))
        have hpos : (((flatT (pz.take i)).length : Nat) : Int) + ((tx.length : Nat) : Int) = (((flatT (pz.take (i + 1))).length : Nat) : Int) := by
          have e1 : tx.cps.toList.length = tx.length := rfl
          have e2 : flatT (pz.take (i + 1)) = flatT (pz.take i) ++ tx.cps.toList := fa2
          rw [e2, List.length_append, e1, Int.natCast_add]
        have hnI2 : ∀ q ∈ new2, q.1 ≠ I := fun q hq => (hs2 q hq).elim (hnI q) fun z => (z (I, it) (.head _)).symm
        obtain ⟨fr2, up2, F4, N4, dis4⟩ := body_out bare up k0 kf gr2 hgL ‹Fr g2 L' _ _› ‹News g2 L' _ _›
        rw [hpos] at F4 N4 dis4
        refine' UnrEnd.intro F4 N4 (tl x dx w text ((flatT (pz.take (i + 1))).length : Nat) k1 k2 tj t4 ps2 new2 X ++ fr2) (fun p hp => hp) ?off ⟨List.mem_append_left _ (.tail _ (.tail _ (.tail _ (List.mem_append_right _ hlX)))), ⟨_, _, _, new2, ps2, fr2, ?mp, rfl, K2, up2, hnI2, fun p hp => dis4 p (.tail _ hp)⟩⟩
        case off =>
          refine app_ne (List.forall_mem_cons.mpr ⟨hIx, List.forall_mem_cons.mpr ⟨hId, List.forall_mem_cons.mpr ⟨hIt, app_ne hnI2 hIX⟩⟩⟩) fun q hq => ?_
          obtain ⟨q', h1, h2⟩ := up0.addr up2 q hq
          rw [← h2]; exact Nat.ne_of_lt (hI q' (List.mem_append_right _ h1))
        case mp =>
          funext y
          by_cases h0 : y = Str.ofString "piece"
          · subst h0; rfl
          by_cases h1 : y = Str.ofString "place"
          · subst h1; rfl
          simp only [if_neg h0, if_neg h1]
      case fin =>
        rintro m news h tk ⟨u, t2', tpl, new, ps', fr, rfl, rfl, K, up, hnI, dis2⟩ F N
        replace F : Fr g0 L' _ _ := F
        replace N : News g0 L' _ _ := N
        have hpe : (flatT (pz.take vs.length)).length = text.length := by
          rw [hvl, List.take_length, ← hflat]; rfl
        rw [hpe] at F N dis2
        obtain ⟨g1, F1, N1, gr1, grg, st1, ff1, k0, kf⟩ := body_in (news := tl x dx w text (text.length : Nat) k1 k2 tj t2' ps' new X) bare up F N dis2
        clear F N X0 T0 grg
        have X1 := G.X.keeps st1
        have T1 := G.T.keeps st1
        (try dsimp only)
        repeat ((fail_if_success (with_reducible show wpAny _ _ (call (Value.ref _) _) _ _ _)); walk1)
        refine others_use (pre := []) G (by assumption) ‹News g1 L' _ _› K gr1 st1 ff1 (Around.frames_deeper hfr) rfl (fun z => nomatch z) (by walk_at "m_lvl") (by walk_at "m_lvl") (by rfl) hXx hXd hX3 hcX (fun _ h => nomatch h) hx3 hd3 hsl hdx hasc hnn (Nat.le_refl _) hC0 ?_
        intro g2 h2 tk2 ps2 new2 F2 N2 K2 hs2 gr2 st2 ff2
        replace N2 : News g2 L' h2 (tl x dx w text (text.length : Nat) k1 k2 tj t2' ps2 new2 X) := N2
        have X2 := G.X.keeps st2
        have T2 := G.T.keeps st2
        clear X1 T1
        (try dsimp only)
        k_steps
        have hsame : ∀ q ∈ (src, srcO a b ta tb n) :: (274, tabObj ps) :: cs, q.1 ∈ [src, 274] ∨ q ∈ tl x dx w text (text.length : Nat) k1 k2 tj t2' ps2 new2 X :=
          List.forall_mem_cons.mpr ⟨.inl (.head _), List.forall_mem_cons.mpr ⟨.inl (.tail _ (.head _)), fun q hq => .inr (.tail _ (.tail _ (.tail _ (List.mem_append_right _ (hcX q hq)))))⟩⟩
        have hnew : ∀ q ∈ (src, srcO a' b' ta' tb' n') :: (274, tabObj ps2) :: new2, q ∈ tl x dx w text (text.length : Nat) k1 k2 tj t2' ps2 new2 X ∧ (q.1 ∈ [src, 274] ∨ ∀ p ∈ (src, srcO a b ta tb n) :: (274, tabObj ps) :: cs, p.1 ≠ q.1) :=
          List.forall_mem_cons.mpr ⟨⟨.tail _ (.tail _ (.tail _ (List.mem_append_right _ hsX))), .inl (.head _)⟩, List.forall_mem_cons.mpr ⟨⟨.tail _ (.tail _ (.head _)), .inl (.tail _ (.head _))⟩, fun q hq => ⟨.tail _ (.tail _ (.tail _ (List.mem_append_left _ hq))), .inr (List.forall_mem_cons.mpr ⟨K2.ns q hq (src, srcO a' b' ta' tb' n') hsX, List.forall_mem_cons.mpr ⟨(K2.nt q hq).symm, fun p hp => K2.ns q hq p (hcX p hp)⟩⟩)⟩⟩⟩
        exact hQ _ _ (con_endF (s := s) ((src, srcO a' b' ta' tb' n') :: (274, tabObj ps2) :: new2) k C gr2 ‹Fr g2 L' _ _› ‹News g2 L' _ _› hsame hnew ⟨a', b', ta', tb', n', ps2, new2, congrArg Value.bool (by simp), rfl, K2.tab, K2.nt, fun q hq => (K2.ns q hq _ hsX).symm, ha', hb0', hb1'⟩)
end
set_option maxRecDepth 100000
set_option maxHeartbeats 8000000
theorem ln29 : True := by
  k_with_none
  k_with "M subscriptTail Name Constant ref int" => (k_here; (with_reducible show wpAny _ _ (subscriptTail _ _ (Value.ref _) (Value.int _ _)) _ _ _); k_dflt (refine' Mine.item_N ?k0 ?k1 ?k2 ?k3 ?k4 ?_ ?k6; (case k0 => k_asm); (case k1 => k_mem); (case k2 => decide); (case k3 => decide); (case k4 => rfl); (case k6 => with_unfolding_all rfl); k_whole))
  k_with "M m_new" => first | exact List.forall_mem_nil _ | (refine' List.forall_mem_cons.mpr ⟨And.intro ?mzA ?mzB, ?mzC⟩; (case mzA => k_mem); (case mzB => (try dsimp only); first | exact Or.inl (by k_mem) | exact Or.inr (by walk_at "m_all")); (case mzC => walk_at "m_new"))
  k_with "M m_spl" => first | exact Mine.Spl.head | exact (Mine.Spl.tail Mine.Spl.head) | exact (Mine.Spl.tail (Mine.Spl.tail Mine.Spl.head)) | exact (Mine.Spl.tail (Mine.Spl.tail (Mine.Spl.tail Mine.Spl.head))) | exact (Mine.Spl.tail (Mine.Spl.tail (Mine.Spl.tail (Mine.Spl.tail Mine.Spl.head)))) | exact (Mine.Spl.tail (Mine.Spl.tail (Mine.Spl.tail (Mine.Spl.tail (Mine.Spl.tail Mine.Spl.head))))) | exact (Mine.Spl.tail (Mine.Spl.tail (Mine.Spl.tail (Mine.Spl.tail (Mine.Spl.tail (Mine.Spl.tail Mine.Spl.head)))))) | exact (Mine.Spl.tail (Mine.Spl.tail (Mine.Spl.tail (Mine.Spl.tail (Mine.Spl.tail (Mine.Spl.tail (Mine.Spl.tail Mine.Spl.head))))))) | exact (Mine.Spl.tail (Mine.Spl.tail (Mine.Spl.tail (Mine.Spl.tail (Mine.Spl.tail (Mine.Spl.tail (Mine.Spl.tail (Mine.Spl.tail Mine.Spl.head)))))))) | exact (Mine.Spl.tail (Mine.Spl.tail (Mine.Spl.tail (Mine.Spl.tail (Mine.Spl.tail (Mine.Spl.tail (Mine.Spl.tail (Mine.Spl.tail (Mine.Spl.tail Mine.Spl.head))))))))) | exact (Mine.Spl.tail (Mine.Spl.tail (Mine.Spl.tail (Mine.Spl.tail (Mine.Spl.tail (Mine.Spl.tail (Mine.Spl.tail (Mine.Spl.tail (Mine.Spl.tail (Mine.Spl.tail Mine.Spl.head)))))))))) | exact (Mine.Spl.tail (Mine.Spl.tail (Mine.Spl.tail (Mine.Spl.tail (Mine.Spl.tail (Mine.Spl.tail (Mine.Spl.tail (Mine.Spl.tail (Mine.Spl.tail (Mine.Spl.tail (Mine.Spl.tail Mine.Spl.head))))))))))) | exact (Mine.Spl.tail (Mine.Spl.tail (Mine.Spl.tail (Mine.Spl.tail (Mine.Spl.tail (Mine.Spl.tail (Mine.Spl.tail (Mine.Spl.tail (Mine.Spl.tail (Mine.Spl.tail (Mine.Spl.tail (Mine.Spl.tail Mine.Spl.head)))))))))))) | exact (Mine.Spl.tail (Mine.Spl.tail (Mine.Spl.tail (Mine.Spl.tail (Mine.Spl.tail (Mine.Spl.tail (Mine.Spl.tail (Mine.Spl.tail (Mine.Spl.tail (Mine.Spl.tail (Mine.Spl.tail (Mine.Spl.tail (Mine.Spl.tail Mine.Spl.head)))))))))))))
  k_with "M m_own" => first | exact List.forall_mem_nil _ | (refine' List.forall_mem_cons.mpr ⟨?mzA, ?mzB⟩; (case mzA => k_mem); (case mzB => walk_at "m_own"))
  k_with "M m_lvl" => first | exact lv_le 3 rfl (by assumption) rfl | exact lv_le 1 rfl (by assumption) rfl | exact lv_le 0 rfl (by assumption) rfl | exact lv_le 2 rfl (by assumption) rfl | ((try simp only [depth_under_make, depth_under_kw, depth_in1, depth_deeper, units_in1, units_deeper, units_under_make, Around.mark_units]); (try dsimp only); omega)
  k_with "M call builtin:len" => (k_here; (with_reducible show wpAny _ _ (call (Value.builtin "len") [Value.ref _]) _ _ _); k_dflt (refine' Mine.len_N ?k0 ?k1 ?k2 ?_; (case k0 => k_asm); (case k1 => k_mem); (case k2 => (try simp only [List.length_cons, List.length_nil]); omega); k_whole))
  k_with "M m_ne0" => (replace l1 := ne0_of l1; (try simp only [NewNe0, AllNe, and_true, and_assoc] at l1); (repeat (have := And.left l1; replace l1 := And.right l1)))
  k_with "M m_ne1" => (replace l1 := ne1_of l1; (try simp only [NewNe1, AllNe, and_true, true_or, true_and, and_assoc] at l1); (repeat (have := And.left l1; replace l1 := And.right l1)))
  k_with "M exec Raise some none" => (k_here; k_dflt (refine' Mine.raise_stmt ?hh ?_; (case hh => first | rfl | assumption)))
  k_with "M pyIter ref" => ((with_reducible show wpAny _ _ _ (fun it s₂ => UnrAt _ _ _ _ _ _ _ _ _ it s₂) _ _); (k_dflt (refine' Iter_tuple_unr ?hh ?ht ?F ?N ?htL ?_; (case F => k_asm); (case N => k_asm); (case hh => assumption); (case ht => exact News.isTup (by assumption) (by k_mem)); (case htL => exact News.ne_locals (by assumption) (by k_mem)))))
  k_with "M eval Name" => (k_here; (with_reducible show wpAny _ _ (eval (Expr.Name _ _) (envOfC _ _ _ _ _)) _ _ _); k_dflt (refine' nameX_L ?nxF ?nxV ?_; (case nxF => k_asm); (case nxV => rfl); k_whole))
  k_with "M m_sub" => first | exact List.forall_mem_nil _ | (refine' List.forall_mem_cons.mpr ⟨?mzA, ?mzB⟩; (case mzA => k_mem); (case mzB => walk_at "m_sub")) | (intro mzp mzh; k_mem)
  k_with "M m_off" => first | exact True.intro | assumption | (refine And.intro ⟨by k_ne, by k_ne, by k_ne⟩ ?_; walk_at "m_off")
  k_with "M m_same" => first | exact List.forall_mem_nil _ | (refine' List.forall_mem_cons.mpr ⟨?mzA, ?mzB⟩; (case mzA => (try dsimp only); first | exact Or.inl (by k_mem) | exact Or.inr (by k_mem)); (case mzB => walk_at "m_same")) | simp
  k_with "M m_all" => first | exact List.forall_mem_nil _ | (refine' List.forall_mem_cons.mpr ⟨?mzA, ?mzB⟩; (case mzA => k_ne); (case mzB => walk_at "m_all")) | assumption
  k_with "M om" => first | ((repeat (with_reducible rename (_ ≠ _) => hz9; clear hz9)); omega) | omega
  k_with "M m_ltp" => first | with_reducible assumption | (with_reducible rename (_ < _ ∧ _) => hq9; first | with_reducible exact hq9.1 | with_reducible exact hq9.2.1 | with_reducible exact hq9.2.2.1 | with_reducible exact hq9.2.2.2.1 | with_reducible exact hq9.2.2.2.2.1 | with_reducible exact hq9.2.2.2.2.2.1 | with_reducible exact hq9.2 | with_reducible exact hq9.2.2 | with_reducible exact hq9.2.2.2 | with_reducible exact hq9.2.2.2.2 | with_reducible exact hq9.2.2.2.2.2 | (clear hq9; walk_at "m_ltp"))
  k_with "M m_nel" => first | exact Nat.ne_of_lt (by walk_at "m_ltp") | exact Nat.ne_of_gt (by walk_at "m_ltp") | exact ne_lt_k 1 rfl (by walk_at "m_ltp") | exact ne_lt_k 2 rfl (by walk_at "m_ltp") | exact ne_lt_k 3 rfl (by walk_at "m_ltp") | exact ne_lt_k 4 rfl (by walk_at "m_ltp") | exact ne_gt_k 1 rfl (by walk_at "m_ltp") | exact ne_gt_k 2 rfl (by walk_at "m_ltp") | exact ne_gt_k 3 rfl (by walk_at "m_ltp") | exact ne_gt_k 4 rfl (by walk_at "m_ltp")
  k_with "M execs cons" => (k_here; (try k_gentoks); (with_reducible refine wpAny_execs_cons ?_); (try k_fold); (try dsimp only))
  trivial
theorem pool_pos (c : Int) (b : Bool) : 0 ≤ (if -1 - c > c then -1 - c else c) * (if b = true then 1 else 0) := by
  have h : 0 ≤ (if -1 - c > c then -1 - c else c) := by split <;> omega
  cases b
  · simp
  · simpa using h
section
variable {prog : Program} {w : World} {mean : ExcName → Option Value} {mg mb : Str → Option Value} {B : Heap} (G : Gd w mean mg mb B)
include G
theorem pool_con (sl : Addr) (vs : List Value) (ns : List Int) (hl : B.IsList sl vs.toArray) (hi : IntsAre vs ns) (hlen : ns.length ≤ 63) (kk : Nat) (tkk : Tok) (hk2 : kk < 2) :
    Con prog w B 60 (.ref 239) [.ref sl, .int (kk : Int) tkk] [] []
      (fun v new => ∃ src a b ta tb n, v = .ref src ∧ new = [(src, srcO a b ta tb n)] ∧ 0 ≤ a ∧ 0 ≤ b ∧ b < 2147483647) := by
  intro A s R hA hu hh hB hown k
  obtain ⟨ah, ad, af, ag, au⟩ := A
  obtain rfl : ah = none := hh
  have hh : (Around.mk none ad af ag au).handled = none := rfl
  replace hA : ad ≤ _ := hA
  replace hu : au ≤ _ := hu
  refine' enter G (binds := [("script", Value.ref sl), ("k", Value.int (kk : Int) tkk)]) (rb := [("k", Value.int (kk : Int) tkk), ("script", Value.ref sl)]) _ hB hown (Nat.le_trans hA (by decide)) ?ho ?hcd ?hb ?hl rfl ?k ?c1 ?c2 ?c3 ?c4
  case ho => k_is
  case hcd => k_is
  case hb => first | exact BindsTo.of_eq rfl | exact binds_K (G.X.keeps hB) rfl (by k_is) rfl rfl rfl
  case hl => exact locs rfl
  case c1 => rfl
  case c2 => rfl
  case c3 => rfl
  case c4 => decide
  case k =>
    intro g L' h₁ m Q tk hg hL hm hQ hQn F N X' T' st
    subst hm
    have hlg : g.IsList sl vs.toArray := by
      obtain ⟨o, e, r⟩ := hl
      exact ⟨o, st _ _ e, r⟩
    have hlv := hi.length
    k_steps
    all_goals exact hQ _ _ (con_end (s := s) [(_, srcO _ _ _ _ _)] k hg (fun q hq => (hown q hq).1) (by assumption) (by assumption) (by walk_at "m_same") (by walk_at "m_new") ⟨_, _, _, _, _, _, rfl, rfl, pool_pos _ _, fm0 _ (by decide), fm1 _ (by decide)⟩)
end
set_option maxRecDepth 100000
set_option maxHeartbeats 8000000
theorem ln30 : True := by
  k_with_none
  k_with "M subscriptTail Name Constant ref int" => (k_here; (with_reducible show wpAny _ _ (subscriptTail _ _ (Value.ref _) (Value.int _ _)) _ _ _); k_dflt (refine' Mine.item_N ?k0 ?k1 ?k2 ?k3 ?k4 ?_ ?k6; (case k0 => k_asm); (case k1 => k_mem); (case k2 => decide); (case k3 => decide); (case k4 => rfl); (case k6 => with_unfolding_all rfl); k_whole))
  k_with "M m_new" => first | exact List.forall_mem_nil _ | (refine' List.forall_mem_cons.mpr ⟨And.intro ?mzA ?mzB, ?mzC⟩; (case mzA => k_mem); (case mzB => (try dsimp only); first | exact Or.inl (by k_mem) | exact Or.inr (by walk_at "m_all")); (case mzC => walk_at "m_new"))
  k_with "M m_spl" => first | exact Mine.Spl.head | exact (Mine.Spl.tail Mine.Spl.head) | exact (Mine.Spl.tail (Mine.Spl.tail Mine.Spl.head)) | exact (Mine.Spl.tail (Mine.Spl.tail (Mine.Spl.tail Mine.Spl.head))) | exact (Mine.Spl.tail (Mine.Spl.tail (Mine.Spl.tail (Mine.Spl.tail Mine.Spl.head)))) | exact (Mine.Spl.tail (Mine.Spl.tail (Mine.Spl.tail (Mine.Spl.tail (Mine.Spl.tail Mine.Spl.head))))) | exact (Mine.Spl.tail (Mine.Spl.tail (Mine.Spl.tail (Mine.Spl.tail (Mine.Spl.tail (Mine.Spl.tail Mine.Spl.head)))))) | exact (Mine.Spl.tail (Mine.Spl.tail (Mine.Spl.tail (Mine.Spl.tail (Mine.Spl.tail (Mine.Spl.tail (Mine.Spl.tail Mine.Spl.head))))))) | exact (Mine.Spl.tail (Mine.Spl.tail (Mine.Spl.tail (Mine.Spl.tail (Mine.Spl.tail (Mine.Spl.tail (Mine.Spl.tail (Mine.Spl.tail Mine.Spl.head)))))))) | exact (Mine.Spl.tail (Mine.Spl.tail (Mine.Spl.tail (Mine.Spl.tail (Mine.Spl.tail (Mine.Spl.tail (Mine.Spl.tail (Mine.Spl.tail (Mine.Spl.tail Mine.Spl.head))))))))) | exact (Mine.Spl.tail (Mine.Spl.tail (Mine.Spl.tail (Mine.Spl.tail (Mine.Spl.tail (Mine.Spl.tail (Mine.Spl.tail (Mine.Spl.tail (Mine.Spl.tail (Mine.Spl.tail Mine.Spl.head)))))))))) | exact (Mine.Spl.tail (Mine.Spl.tail (Mine.Spl.tail (Mine.Spl.tail (Mine.Spl.tail (Mine.Spl.tail (Mine.Spl.tail (Mine.Spl.tail (Mine.Spl.tail (Mine.Spl.tail (Mine.Spl.tail Mine.Spl.head))))))))))) | exact (Mine.Spl.tail (Mine.Spl.tail (Mine.Spl.tail (Mine.Spl.tail (Mine.Spl.tail (Mine.Spl.tail (Mine.Spl.tail (Mine.Spl.tail (Mine.Spl.tail (Mine.Spl.tail (Mine.Spl.tail (Mine.Spl.tail Mine.Spl.head)))))))))))) | exact (Mine.Spl.tail (Mine.Spl.tail (Mine.Spl.tail (Mine.Spl.tail (Mine.Spl.tail (Mine.Spl.tail (Mine.Spl.tail (Mine.Spl.tail (Mine.Spl.tail (Mine.Spl.tail (Mine.Spl.tail (Mine.Spl.tail (Mine.Spl.tail Mine.Spl.head)))))))))))))
  k_with "M m_own" => first | exact List.forall_mem_nil _ | (refine' List.forall_mem_cons.mpr ⟨?mzA, ?mzB⟩; (case mzA => k_mem); (case mzB => walk_at "m_own"))
  k_with "M m_lvl" => first | exact lv_le 3 rfl (by assumption) rfl | exact lv_le 1 rfl (by assumption) rfl | exact lv_le 0 rfl (by assumption) rfl | exact lv_le 2 rfl (by assumption) rfl | ((try simp only [depth_under_make, depth_under_kw, depth_in1, depth_deeper, units_in1, units_deeper, units_under_make, Around.mark_units]); (try dsimp only); omega)
  k_with "M call builtin:len" => (k_here; (with_reducible show wpAny _ _ (call (Value.builtin "len") [Value.ref _]) _ _ _); k_dflt (refine' Mine.len_N ?k0 ?k1 ?k2 ?_; (case k0 => k_asm); (case k1 => k_mem); (case k2 => (try simp only [List.length_cons, List.length_nil]); omega); k_whole))
  k_with "M m_ne0" => (replace l1 := ne0_of l1; (try simp only [NewNe0, AllNe, and_true, and_assoc] at l1); (repeat (have := And.left l1; replace l1 := And.right l1)))
  k_with "M m_ne1" => (replace l1 := ne1_of l1; (try simp only [NewNe1, AllNe, and_true, true_or, true_and, and_assoc] at l1); (repeat (have := And.left l1; replace l1 := And.right l1)))
  k_with "M exec Raise some none" => (k_here; k_dflt (refine' Mine.raise_stmt ?hh ?_; (case hh => first | rfl | assumption)))
  k_with "M pyIter ref" => ((with_reducible show wpAny _ _ _ (fun it s₂ => UnrAt _ _ _ _ _ _ _ _ _ it s₂) _ _); (k_dflt (refine' Iter_tuple_unr ?hh ?ht ?F ?N ?htL ?_; (case F => k_asm); (case N => k_asm); (case hh => assumption); (case ht => exact News.isTup (by assumption) (by k_mem)); (case htL => exact News.ne_locals (by assumption) (by k_mem)))))
  k_with "M eval Name" => (k_here; (with_reducible show wpAny _ _ (eval (Expr.Name _ _) (envOfC _ _ _ _ _)) _ _ _); k_dflt (refine' nameX_L ?nxF ?nxV ?_; (case nxF => k_asm); (case nxV => rfl); k_whole))
  k_with "M m_sub" => first | exact List.forall_mem_nil _ | (refine' List.forall_mem_cons.mpr ⟨?mzA, ?mzB⟩; (case mzA => k_mem); (case mzB => walk_at "m_sub")) | (intro mzp mzh; k_mem)
  k_with "M m_off" => first | exact True.intro | assumption | (refine And.intro ⟨by k_ne, by k_ne, by k_ne⟩ ?_; walk_at "m_off")
  k_with "M m_same" => first | exact List.forall_mem_nil _ | (refine' List.forall_mem_cons.mpr ⟨?mzA, ?mzB⟩; (case mzA => (try dsimp only); first | exact Or.inl (by k_mem) | exact Or.inr (by k_mem)); (case mzB => walk_at "m_same")) | simp
  k_with "M m_all" => first | exact List.forall_mem_nil _ | (refine' List.forall_mem_cons.mpr ⟨?mzA, ?mzB⟩; (case mzA => k_ne); (case mzB => walk_at "m_all")) | assumption
  k_with "M om" => first | ((repeat (with_reducible rename (_ ≠ _) => hz9; clear hz9)); omega) | omega
  k_with "M m_ltp" => first | with_reducible assumption | (with_reducible rename (_ < _ ∧ _) => hq9; first | with_reducible exact hq9.1 | with_reducible exact hq9.2.1 | with_reducible exact hq9.2.2.1 | with_reducible exact hq9.2.2.2.1 | with_reducible exact hq9.2.2.2.2.1 | with_reducible exact hq9.2.2.2.2.2.1 | with_reducible exact hq9.2 | with_reducible exact hq9.2.2 | with_reducible exact hq9.2.2.2 | with_reducible exact hq9.2.2.2.2 | with_reducible exact hq9.2.2.2.2.2 | (clear hq9; walk_at "m_ltp"))
  k_with "M m_nel" => first | exact Nat.ne_of_lt (by walk_at "m_ltp") | exact Nat.ne_of_gt (by walk_at "m_ltp") | exact ne_lt_k 1 rfl (by walk_at "m_ltp") | exact ne_lt_k 2 rfl (by walk_at "m_ltp") | exact ne_lt_k 3 rfl (by walk_at "m_ltp") | exact ne_lt_k 4 rfl (by walk_at "m_ltp") | exact ne_gt_k 1 rfl (by walk_at "m_ltp") | exact ne_gt_k 2 rfl (by walk_at "m_ltp") | exact ne_gt_k 3 rfl (by walk_at "m_ltp") | exact ne_gt_k 4 rfl (by walk_at "m_ltp")
  k_with "M execs cons" => (k_here; (try k_gentoks); (with_reducible refine wpAny_execs_cons ?_); (try k_fold); (try dsimp only))
  k_with "M call ref" => (k_here; (with_reducible show wpAny _ _ (call (Value.ref 246) _) _ _ _); (k_dflt (refine' take_use ?G ?F ?N ?st ?d ?u ?h ?sp ?ne ?t1 ?t2 ?t3 ?t4 ?t5 ?_; (case F => k_asm); (case N => k_asm); (case sp => walk_at "m_spl"); (case ne => walk_at "m_all"); (case st => assumption); (case d => walk_at "m_lvl"); (case u => walk_at "m_lvl"); (case h => assumption); (try (case G => assumption)); (all_goals (try (case t1 => first | omega | decide | assumption))); (all_goals (try (case t2 => first | omega | decide | assumption))); (all_goals (try (case t3 => first | omega | decide | assumption))); (all_goals (try (case t4 => first | omega | decide | assumption))); (all_goals (try (case t5 => first | omega | decide | assumption))); (all_goals (try (case a1 => assumption))); (all_goals (try (case a2 => assumption))); (all_goals (try (case a3 => assumption))); k_whole)); intro d' td' a' b' ta' tb' n' h' tk' hd0' hd1' ha' hb0' hb1' F' N'; (try dsimp only); (try k_sweep))
  trivial
section
variable {prog : Program} {w : World} {B : Heap} {A : Around} {s : Shared} {env : Env} {L : Addr} {m : Str → Option Value} {news rest : List (Addr × Obj)} {mu : List Addr} {E Q : Value → Shared → Prop}
/-- a call at the top: no frame above, the base stays -/
theorem con_useT {lvl' : Nat} {f : Value} {args : List Value} {own' : List (Addr × Obj)} {V : Value → List (Addr × Obj) → Prop} (C : ConF prog w B lvl' f args own' mu V) (F : Fr B L s.heap m) (N : News B L s.heap news) (hfr : A.frames = some [env]) (hf : env.frame = some L) (hk : env.scope.kind ≠ .module)
    (h1 : A.depth ≤ 300 + lvl') (h2 : A.units ≤ 8 * lvl') (h3 : A.handled = none) (ho : ∀ q ∈ own', q ∈ news) (hmu : ∀ a ∈ mu, ∃ o, (a, o) ∈ news) (hr : ∀ q ∈ rest, q ∈ news ∧ q.1 ∉ mu)
    (k : ∀ v new h' tk', V v new → Fr B L h' m → News B L h' (new ++ rest) → (∀ q ∈ new, q.1 ∈ mu ∨ ∀ p ∈ news, p.1 ≠ q.1) → Q v { s with heap := h', toks := tk' }) :
    wpAny (model prog w) A (call f args) Q E s :=
  con_useF (outer := []) (h₀ := B) (o₀ := []) C F N (fun b o e _ => ⟨fun _ => e, fun _ => ⟨_, e⟩⟩) (fun _ _ e => e) trivial hfr hf hk h1 h2 h3 ho hmu hr fun v new g' h' tk' hV F' N' gr' st' ff' l1 =>
    have kk : ∀ b o, B.get? b = some o → g'.get? b = some o := fun b o e => (gr' b o e (fun z => nomatch z)).1 (fun z => nomatch z)
    k v new h' tk' hV ⟨F'.ns, fun b o e => F'.keep b o (kk b o e), F.above⟩ (fun p hp => ⟨(N' p hp).1, (N' p hp).2.1, by
      cases z : B.get? p.1 with
      | none => rfl
      | some o => have := kk _ _ z; rw [(N' p hp).2.2] at this; cases this⟩) l1
end
theorem swap2 {p1 p2 p3 p4 : Addr × Obj} {cs : List (Addr × Obj)} : ∀ q ∈ p2 :: p1 :: p3 :: p4 :: cs, q ∈ p1 :: p2 :: p3 :: p4 :: cs := fun q hq => by
  rcases List.mem_cons.mp hq with rfl | hq
  · exact .tail _ (.head _)
  · rcases List.mem_cons.mp hq with rfl | hq
    · exact .head _
    · exact .tail _ (.tail _ hq)
theorem bnd (l : Int) (h : 0 ≤ l) : 0 ≤ (if (if l < 2 then l else 2) > 1 then (if l < 2 then l else 2) else 1) ∧ (if (if l < 2 then l else 2) > 1 then (if l < 2 then l else 2) else 1) ≤ 2 := by
  by_cases h1 : l < 2
  · rw [if_pos h1]
    by_cases h2 : l > 1
    · rw [if_pos h2]; walk_at "om"
    · rw [if_neg h2]; walk_at "om"
  · rw [if_neg h1]; decide
theorem not2 {a b c : Addr} (h1 : c ≠ a) (h2 : c ≠ b) : c ∉ [a, b] := fun z => (List.mem_cons.mp z).elim h1 fun z => h2 (List.mem_singleton.mp z)
theorem not1 {a c : Addr} (h1 : c ≠ a) : c ∉ [a] := fun z => h1 (List.mem_singleton.mp z)
noncomputable abbrev lMap (sl : Addr) (u1 u2 u3 : Option Value) : Str → Option Value := fun y =>
  if y = Str.ofString "turn" then u3 else if y = Str.ofString "source" then u2 else if y = Str.ofString "k" then u1 else List.lookup y [(Str.ofString "script", Value.ref sl)]
theorem name3 {h : Heap} {sl : Addr} {vs : List Value} {ns : List Int} (_ : h.IsList sl vs.toArray) (_ : IntsAre vs ns) : ∃ sl' vs' ns', sl' = sl ∧ vs' = vs ∧ ns' = ns := ⟨sl, vs, ns, rfl, rfl, rfl⟩
set_option autoImplicit false in
inductive LwJ (sl I : Nat) (m : Str → Option Value) (news : List (Addr × Obj)) : Prop
  | mk (u1 : _) (u2 : _) (u3 : _) (ps : _) (cs : _) (z0 : m = lMap sl u1 u2 u3) (z1 : news = (274, tabObj ps) :: cs) (z2 : TabOk cs ps) (z3 : (∀ q ∈ cs, q.1 ≠ 274)) (z4 : (∀ q ∈ cs, q.1 ≠ I)) : LwJ sl I m news
set_option autoImplicit false in
inductive LwK (sl src I I2 : Nat) (it : Obj) (m : Str → Option Value) (news : List (Addr × Obj)) : Prop
  | mk (u1 : _) (u3 : _) (a : _) (b : _) (ta : _) (tb : _) (n : _) (ps : _) (cs : _) (z0 : m = lMap sl u1 (some (.ref src)) u3) (z1 : news = (src, srcO a b ta tb n) :: (I, it) :: (274, tabObj ps) :: cs) (z2 : TabOk cs ps) (z3 : (∀ q ∈ cs, q.1 ≠ 274)) (z4 : (∀ q ∈ cs, q.1 ≠ I)) (z5 : (∀ q ∈ cs, q.1 ≠ src)) (z6 : (∀ q ∈ cs, q.1 ≠ I2)) (z7 : 0 ≤ a) (z8 : 0 ≤ b) (z9 : b < 2147483647) : LwK sl src I I2 it m news
theorem law_holds : PySem.Challenge.rw_on0184_01.Holds := hd (by rfl) (by rfl) (by rfl) (by
  k_go0
  (all_goals try k_fold)
  have G : Gd _ _ _ _ (ghostOf _ [(276, 274)]) := ⟨by assumption, by assumption⟩
  rename (IntsAre _ _) => hI
  rename (¬ _ < _) => hc63
  obtain ⟨sl, vs, ns, e1, e2, e3⟩ := name3 lifted hI
  subst e1 e2 e3
  repeat ((fail_if_success (with_reducible show wpAny _ _ (pyIter _) _ _ _)); walk1)
  rename (IsRange _ _ _ _ _ _ _ _) => hrg
  refine' iter_rangeUnr (by rfl) hrg (small20 (bnd _ (Int.natCast_nonneg _)).1 (Int.lt_of_le_of_lt (bnd _ (Int.natCast_nonneg _)).2 (by decide))) (size20 (bnd _ (Int.natCast_nonneg _)).1) (by assumption) (by assumption) (fun I hIl => range_inv (fun i m news => LwJ sl I m news) ?step ?fin _ _ _ _ (Nat.zero_add _) ?start)
  case start =>
    refine' ⟨none, none, none, #[], [], ?mp, rfl, tabOk_nil, (fun _ h => nomatch h), (fun _ h => nomatch h)⟩
    case mp =>
      funext y
      by_cases h0 : y = Str.ofString "turn"
      · subst h0; rfl
      by_cases h1 : y = Str.ofString "source"
      · subst h1; rfl
      by_cases h2 : y = Str.ofString "k"
      · subst h2; rfl
      simp only [if_neg h0, if_neg h1, if_neg h2]
      rfl
  case step =>
    rintro i m news t h tk it hi ⟨u1, u2, u3, ps, cs, rfl, rfl, htab, hc3, hcI⟩ F N hit
    have hIt : @Ne Nat 274 I := Nat.ne_of_lt (hIl (274, tabObj #[]) (.head _))
    have hb2 := (bnd (ns.length : Int) (Int.natCast_nonneg _)).2
    have hi2 : i < 2 := by walk_at "om"
    simp only [Int.zero_add] at F
    (try dsimp only)
    repeat ((fail_if_success (with_reducible show wpAny _ _ (call (Value.ref _) _) _ _ _)); walk1)
    refine' con_use0 (pool_con G sl vs ns lifted hI (by walk_at "om") i t hi2) (by assumption) (by assumption) (fun _ _ e => e) (Nat.le_of_ble_eq_true rfl) (Nat.le_of_ble_eq_true rfl) (by rfl) (fun q hq => nomatch hq) ?_
    rintro v1 new1 h1 tk1 ⟨src, a, b, ta, tb, n, rfl, rfl, ha, hb0, hb1⟩ F1 N1 l1
    have hsI : @Ne Nat I src := l1 _ (.head _) (I, it) (.head _)
    have hs3 : @Ne Nat 274 src := l1 _ (.head _) (274, tabObj ps) (.tail _ (.head _))
    have hcs : ∀ q ∈ cs, q.1 ≠ src := fun q hq => l1 _ (.head _) q (.tail _ (.tail _ hq))
    clear l1 F N
    simp only [List.cons_append, List.nil_append] at N1
    (try dsimp only)
    repeat ((fail_if_success (with_reducible show wpAny _ _ (pyIter _) _ _ _)); walk1)
    rename (IsRange _ _ _ _ _ _ _ _) => hrg2
    refine' iter_rangeUnr (n := 2) (by rfl) hrg2 (by decide) (by decide) (by assumption) (by assumption) (fun I2 hIl2 => range_inv (fun j m news => LwK sl src I I2 it m news) ?step2 ?fin2 _ _ _ _ (Nat.zero_add _) ?start2)
    case start2 =>
      refine' ⟨_, _, a, b, ta, tb, n, ps, cs, ?mp, rfl, htab, hc3, hcI, hcs, fun q hq => Nat.ne_of_lt (hIl2 q (.tail _ (.tail _ (.tail _ hq)))), ha, hb0, hb1⟩
      case mp =>
        funext y
        by_cases h0 : y = Str.ofString "turn"
        · subst h0; rfl
        by_cases h1 : y = Str.ofString "source"
        · subst h1; rfl
        by_cases h2 : y = Str.ofString "k"
        · subst h2; rfl
        simp only [if_neg h0, if_neg h1, if_neg h2]
    case step2 =>
      clear ha hb0 hb1 htab hc3 hcI
      rintro j m news t2 h2 tk2 it2 hj ⟨u1', u3', a, b, ta, tb, n, ps, cs, rfl, rfl, htab, hc3, hcI, hcs, hcJ, ha, hb0, hb1⟩ F N hit2
      have hI2s : @Ne Nat src I2 := Nat.ne_of_lt (hIl2 (src, _) (.head _))
      have hI2I : @Ne Nat I I2 := Nat.ne_of_lt (hIl2 (I, it) (.tail _ (.head _)))
      have hI2t : @Ne Nat 274 I2 := Nat.ne_of_lt (hIl2 (274, _) (.tail _ (.tail _ (.head _))))
      (try dsimp only)
      repeat ((fail_if_success (with_reducible show wpAny _ _ (call (Value.ref _) _) _ _ _)); walk1)
      refine' con_useT (rest := (I2, it2) :: (I, it) :: cs) (text_right_con G src a b ta tb n ps cs ha hb0 hb1 hc3 hcs (Ne.symm hs3) htab codeHd) (by assumption) (by assumption) rfl rfl (fun z => nomatch z) (Nat.le_of_ble_eq_true rfl) (Nat.le_of_ble_eq_true rfl) (by rfl) (List.forall_mem_cons.mpr ⟨.tail _ (.head _), List.forall_mem_cons.mpr ⟨.tail _ (.tail _ (.tail _ (.head _))), fun q hq => .tail _ (.tail _ (.tail _ (.tail _ hq)))⟩⟩)
        (List.forall_mem_cons.mpr ⟨⟨_, .tail _ (.head _)⟩, List.forall_mem_cons.mpr ⟨⟨_, .tail _ (.tail _ (.tail _ (.head _)))⟩, List.forall_mem_nil _⟩⟩)
        (List.forall_mem_cons.mpr ⟨⟨.head _, not2 hI2s.symm hI2t.symm⟩, List.forall_mem_cons.mpr ⟨⟨.tail _ (.tail _ (.head _)), not2 hsI hIt.symm⟩, fun q hq => ⟨.tail _ (.tail _ (.tail _ (.tail _ hq))), not2 (hcs q hq) (hc3 q hq)⟩⟩⟩) ?_
      clear ha hb0 hb1
      rintro v3 new3 h3 tk3 ⟨a, b, ta, tb, n, ps2, tp, rfl, rfl, htab2, hn3, hns, ha, hb0, hb1⟩ F N l1
      have frh : ∀ q ∈ tp, @Ne Nat q.1 I := fun q hq => (((l1 q (.tail _ (.tail _ hq))).resolve_left (not2 (hns q hq) (hn3 q hq))) (I, it) (.tail _ (.tail _ (.head _)))).symm
      have frh2 : ∀ q ∈ tp, @Ne Nat q.1 I2 := fun q hq => (((l1 q (.tail _ (.tail _ hq))).resolve_left (not2 (hns q hq) (hn3 q hq))) (I2, it2) (.head _)).symm
      obtain ⟨cs2, hcs2⟩ : ∃ cs2, cs2 = tp ++ cs := ⟨_, rfl⟩
      have hc32 : ∀ q ∈ cs2, q.1 ≠ 274 := by rw [hcs2]; exact app_ne hn3 hc3
      have hcI2 : ∀ q ∈ cs2, q.1 ≠ I := by rw [hcs2]; exact app_ne frh hcI
      have hcJ2 : ∀ q ∈ cs2, q.1 ≠ I2 := by rw [hcs2]; exact app_ne frh2 hcJ
      have hcs3 : ∀ q ∈ cs2, q.1 ≠ src := by rw [hcs2]; exact app_ne hns hcs
      rw [← hcs2] at htab2
      replace N := News.of N (l := (I2, it2) :: (src, srcO a b ta tb n) :: (I, it) :: (274, tabObj ps2) :: cs2) fun q hq => by
        rw [hcs2] at hq
        rcases List.mem_cons.mp hq with rfl | hq
        · exact .tail _ (.tail _ (List.mem_append_right _ (.head _)))
        · rcases List.mem_cons.mp hq with rfl | hq
          · exact .head _
          · rcases List.mem_cons.mp hq with rfl | hq
            · exact .tail _ (.tail _ (List.mem_append_right _ (.tail _ (.head _))))
            · rcases List.mem_cons.mp hq with rfl | hq
              · exact .tail _ (.head _)
              · exact .tail _ (.tail _ ((List.mem_append.mp hq).elim (List.mem_append_left _) fun z => List.mem_append_right _ (.tail _ (.tail _ z))))
      clear l1 frh frh2
      (try dsimp only)
      repeat ((fail_if_success (with_reducible show wpAny _ _ (call (Value.ref _) _) _ _ _)); walk1)
      refine' con_useT (rest := (I2, it2) :: (I, it) :: (274, tabObj ps2) :: cs2) (choices_right_con G src a b ta tb n ha hb0 hb1) (by assumption) (by assumption) rfl rfl (fun z => nomatch z) (Nat.le_of_ble_eq_true rfl) (Nat.le_of_ble_eq_true rfl) (by rfl) (List.forall_mem_cons.mpr ⟨.tail _ (.head _), List.forall_mem_nil _⟩) (List.forall_mem_cons.mpr ⟨⟨_, .tail _ (.head _)⟩, List.forall_mem_nil _⟩)
        (List.forall_mem_cons.mpr ⟨⟨.head _, not1 hI2s.symm⟩, List.forall_mem_cons.mpr ⟨⟨.tail _ (.tail _ (.head _)), not1 hsI⟩, List.forall_mem_cons.mpr ⟨⟨.tail _ (.tail _ (.tail _ (.head _))), not1 hs3⟩, fun q hq => ⟨.tail _ (.tail _ (.tail _ (.tail _ hq))), not1 (hcs3 q hq)⟩⟩⟩⟩) ?_
      clear ha hb0 hb1
      rintro v4 new4 h4 tk4 ⟨a, b, ta, tb, n, rfl, rfl, ha, hb0, hb1⟩ F N -
      replace N := News.of N (l := (I2, it2) :: (src, srcO a b ta tb n) :: (I, it) :: (274, tabObj ps2) :: cs2) swap2
      (try dsimp only)
      repeat ((fail_if_success (with_reducible show wpAny _ _ (call (Value.ref _) _) _ _ _)); walk1)
      refine' con_useT (rest := (I2, it2) :: (I, it) :: (274, tabObj ps2) :: cs2) (end_right_con G src a b ta tb n ha hb0 hb1) (by assumption) (by assumption) rfl rfl (fun z => nomatch z) (Nat.le_of_ble_eq_true rfl) (Nat.le_of_ble_eq_true rfl) (by rfl) (List.forall_mem_cons.mpr ⟨.tail _ (.head _), List.forall_mem_nil _⟩) (List.forall_mem_cons.mpr ⟨⟨_, .tail _ (.head _)⟩, List.forall_mem_nil _⟩)
        (List.forall_mem_cons.mpr ⟨⟨.head _, not1 hI2s.symm⟩, List.forall_mem_cons.mpr ⟨⟨.tail _ (.tail _ (.head _)), not1 hsI⟩, List.forall_mem_cons.mpr ⟨⟨.tail _ (.tail _ (.tail _ (.head _))), not1 hs3⟩, fun q hq => ⟨.tail _ (.tail _ (.tail _ (.tail _ hq))), not1 (hcs3 q hq)⟩⟩⟩⟩) ?_
      clear ha hb0 hb1
      rintro v4 new4 h4 tk4 ⟨a, b, ta, tb, n, rfl, rfl, ha, hb0, hb1⟩ F N -
      replace N := News.of N (l := (I2, it2) :: (src, srcO a b ta tb n) :: (I, it) :: (274, tabObj ps2) :: cs2) swap2
      (try dsimp only)
      repeat ((fail_if_success (with_reducible show UnrEnd _ _ _ _ _ _ _)); first | (k_unfold; (try dsimp only)) | walk1 | (dsimp only; walk1))
      refine' UnrEnd.intro (by assumption) (by assumption) ((src, srcO a b ta tb n) :: (I, it) :: (274, tabObj ps2) :: cs2) (fun p hp => hp) (List.forall_mem_cons.mpr ⟨hI2s, List.forall_mem_cons.mpr ⟨hI2I, List.forall_mem_cons.mpr ⟨hI2t, hcJ2⟩⟩⟩) ⟨_, _, a, b, ta, tb, n, ps2, cs2, ?mp, rfl, htab2, hc32, hcI2, hcs3, hcJ2, ha, hb0, hb1⟩
      case mp =>
        funext y
        by_cases h0 : y = Str.ofString "turn"
        · subst h0; rfl
        by_cases h1 : y = Str.ofString "source"
        · subst h1; rfl
        by_cases h2 : y = Str.ofString "k"
        · subst h2; rfl
        simp only [if_neg h0, if_neg h1, if_neg h2]
    case fin2 =>
      clear ha hb0 hb1 htab hc3 hcI
      rintro m news h2 tk2 ⟨u1', u3', a, b, ta, tb, n, ps, cs, rfl, rfl, htab, hc3, hcI, hcs, hcJ, ha, hb0, hb1⟩ F N
      (try dsimp only)
      repeat ((fail_if_success (with_reducible show UnrEnd _ _ _ _ _ _ _)); first | (k_unfold; (try dsimp only)) | walk1 | (dsimp only; walk1))
      refine' UnrEnd.intro (by assumption) (by assumption) ((274, tabObj ps) :: cs) (fun p hp => .tail _ hp) (List.forall_mem_cons.mpr ⟨hIt, hcI⟩) ⟨u1', some (.ref src), u3', ps, cs, ?mp, rfl, htab, hc3, hcI⟩
      case mp =>
        funext y
        by_cases h0 : y = Str.ofString "turn"
        · subst h0; rfl
        by_cases h1 : y = Str.ofString "source"
        · subst h1; rfl
        by_cases h2 : y = Str.ofString "k"
        · subst h2; rfl
        simp only [if_neg h0, if_neg h1, if_neg h2]
  case fin =>
    rintro m news h tk ⟨u1, u2, u3, ps, cs, rfl, rfl, htab, hc3, hcI⟩ F N
    (try dsimp only)
    repeat ((fail_if_success (with_reducible show wpAny _ _ (call (Value.ref _) _) _ _ _)); walk1)
    refine' con_use0 (make_con G _ _) (by assumption) (by assumption) (fun _ _ e => e) (Nat.le_of_ble_eq_true rfl) (Nat.le_of_ble_eq_true rfl) (by rfl) (fun q hq => nomatch hq) ?_
    rintro v1 new1 h1 tk1 ⟨x, dx, k1, k2, t2', rfl, rfl, hdx⟩ F N l1
    have hd3 : @Ne Nat 274 dx := l1 _ (.tail _ (.head _)) (274, tabObj ps) (.head _)
    have hdc : ∀ q ∈ cs, q.1 ≠ dx := fun q hq => l1 _ (.tail _ (.head _)) q (.tail _ hq)
    have hxd : @Ne Nat x dx := Nat.ne_of_gt hdx
    clear l1
    simp only [List.cons_append, List.nil_append] at N
    (try dsimp only)
    repeat ((fail_if_success (with_reducible show wpAny _ _ (call (Value.ref _) _) _ _ _)); walk1)
    refine' con_use1 (takesT_con G x dx (Str.ofString "<!ab") (Str.ofString "<!a") 0 _ k1 k2 _ _ (by decide) (by decide) hdx (by decide +kernel)) (by assumption) (by assumption) (fun _ _ e => e) (Nat.le_of_ble_eq_true rfl) (Nat.le_of_ble_eq_true rfl) (by rfl) (List.forall_mem_cons.mpr ⟨.head _, List.forall_mem_cons.mpr ⟨.tail _ (.head _), List.forall_mem_nil _⟩⟩) (.tail .head) (List.forall_mem_cons.mpr ⟨hxd, List.forall_mem_cons.mpr ⟨hd3, hdc⟩⟩) ?_
    rintro v2 new2 h2 tk2 ⟨t3, rfl, rfl⟩ F N -
    simp only [List.cons_append, List.nil_append] at N
    rw [show (0 + (Str.ofString "<!a").length) = 3 by decide] at N
    have hb3 : (((3 : Nat) : Int) == 3) = true := by decide
    (try dsimp only)
    repeat ((fail_if_success (with_reducible show wpAny _ _ (call (Value.ref _) _) _ _ _)); walk1)
    refine' con_use1 (name_con G x dx (Str.ofString "<!ab") 3 k1 k2 _ t3 (by decide) hdx (by decide) (by decide) (by decide)) (by assumption) (by assumption) (fun _ _ e => e) (Nat.le_of_ble_eq_true rfl) (Nat.le_of_ble_eq_true rfl) (by rfl) (List.forall_mem_cons.mpr ⟨.tail _ (.head _), List.forall_mem_cons.mpr ⟨.head _, List.forall_mem_nil _⟩⟩) .head (List.forall_mem_cons.mpr ⟨hxd, List.forall_mem_cons.mpr ⟨hd3, hdc⟩⟩) ?_
    rintro v4 new4 h4 tk4 ⟨t5, tv, rfl, rfl⟩ F N -
    simp only [List.cons_append, List.nil_append] at N
    rw [show 3 + cntB ncB (List.drop 3 (Str.ofString "<!ab").cps.toList) = 4 by decide] at N ⊢
    rw [show sub (Str.ofString "<!ab") 3 4 = Str.ofString "b" by decide]
    (try dsimp only)
    repeat ((fail_if_success (with_reducible show wpAny _ _ (call (Value.ref _) _) _ _ _)); walk1)
    refine' con_use0 (is_over_con G x dx (Str.ofString "<!ab") ((4 : Nat) : Int) k1 k2 _ t5 (by decide)) (by assumption) (by assumption) (fun _ _ e => e) (Nat.le_of_ble_eq_true rfl) (Nat.le_of_ble_eq_true rfl) (by rfl) (List.forall_mem_cons.mpr ⟨.tail _ (.head _), List.forall_mem_cons.mpr ⟨.head _, List.forall_mem_nil _⟩⟩) ?_
    rintro v6 new6 h6 tk6 ⟨rfl, rfl⟩ F N -
    simp only [List.nil_append] at N
    rw [show decide (((Str.ofString "<!ab").length : Int) ≤ ((4 : Nat) : Int)) = true by decide]
    (try dsimp only)
    k_steps
    )
end Own
end Mine
theorem PySem.Challenge.cw_on0184_01_holds : PySem.Challenge.rw_on0184_01.Holds :=
  Mine.law_holds
