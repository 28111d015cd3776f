import PyProof.Rows.All
import Wide.All
import OpenK.AllK
import Wide.FinOn
import Lean
import PySem.Challenge.RW_no0378_01
set_option Elab.async false

section
open PySem PySem.W PyProof.Rows
set_option maxRecDepth 100000
namespace Mine
noncomputable abbrev pw := PySem.Challenge.pw_no0378_01
noncomputable abbrev fnAt (i : Nat) (name qual : Str) (dV pm cd : Value) {nm : Str} {p : Arguments} {b : List Stmt} {d : List Expr} {r : Option Expr} {tp : List TypeParam} {s : Scope} {ts : Option Scope} {bd : Str} {pos : Pos}
    (_h : pw.main.body[i]? = some (.FunctionDef nm p b d r tp s ts bd pos)) : Obj :=
  { cls := .type "function", data := .func { name := name, qualname := qual, params := p, body := .stmts b, scope := s, globals := 3, closure := [], defaults := dV, kwdefaults := .none, doc := .none, pyModule := pm, annotations := none, code := cd, closureTuple := .none, builtins := 0 } }
noncomputable abbrev mtAt (i j : Nat) (name qual : Str) (dV pm cd : Value) {cn : Str} {cb : List Expr} {ck : List Keyword} {cbd : List Stmt} {cdl : List Expr} {ctp : List TypeParam} {cs : Scope} {cts : Option Scope} {cbind : Str} {csa : List Str} {cpos : Pos}
    {nm : Str} {p : Arguments} {b : List Stmt} {d : List Expr} {r : Option Expr} {tp : List TypeParam} {s : Scope} {ts : Option Scope} {bd : Str} {pos : Pos}
    (_h : pw.main.body[i]? = some (.ClassDef cn cb ck cbd cdl ctp cs cts cbind csa cpos)) (_h2 : cbd[j]? = some (.FunctionDef nm p b d r tp s ts bd pos)) : Obj :=
  { cls := .type "function", data := .func { name := name, qualname := qual, params := p, body := .stmts b, scope := s, globals := 3, closure := [], defaults := dV, kwdefaults := .none, doc := .none, pyModule := pm, annotations := none, code := cd, closureTuple := .none, builtins := 0 } }
noncomputable abbrev stAt (i : Nat) {s : Stmt} (_h : pw.main.body[i]? = some s) : Stmt := s
noncomputable def Ks : List Nat := nat_lit 3 :: nat_lit 25 :: nat_lit 26 :: nat_lit 30 :: nat_lit 31 :: nat_lit 37 :: nat_lit 38 :: nat_lit 84 :: nat_lit 85 :: nat_lit 89 :: nat_lit 90 :: nat_lit 91 :: nat_lit 97 :: nat_lit 98 :: nat_lit 99 :: nat_lit 105 :: nat_lit 106 :: nat_lit 112 :: nat_lit 113 :: nat_lit 119 :: nat_lit 120 :: nat_lit 126 :: nat_lit 127 :: nat_lit 133 :: nat_lit 134 :: nat_lit 140 :: nat_lit 141 :: nat_lit 147 :: nat_lit 148 :: nat_lit 161 :: nat_lit 162 :: nat_lit 166 :: nat_lit 167 :: nat_lit 176 :: nat_lit 177 :: nat_lit 187 :: nat_lit 188 :: nat_lit 194 :: nat_lit 195 :: nat_lit 201 :: nat_lit 202 :: nat_lit 208 :: nat_lit 209 :: nat_lit 215 :: nat_lit 216 :: nat_lit 222 :: nat_lit 223 :: nat_lit 229 :: nat_lit 230 :: nat_lit 236 :: nat_lit 237 :: nat_lit 243 :: nat_lit 244 :: nat_lit 257 :: nat_lit 258 :: nat_lit 267 :: nat_lit 268 :: nat_lit 276 :: nat_lit 277 :: nat_lit 283 :: nat_lit 284 :: nat_lit 290 :: nat_lit 291 :: nat_lit 297 :: nat_lit 298 :: nat_lit 304 :: nat_lit 305 :: nat_lit 318 :: nat_lit 319 :: nat_lit 349 :: nat_lit 350 :: nat_lit 355 :: nat_lit 356 :: nat_lit 357 :: nat_lit 358 :: nat_lit 359 :: nat_lit 360 :: nat_lit 361 :: nat_lit 362 :: nat_lit 363 :: nat_lit 364 :: nat_lit 365 :: nat_lit 366 :: nat_lit 367 :: nat_lit 368 :: nat_lit 369 :: nat_lit 370 :: nat_lit 371 :: nat_lit 372 :: nat_lit 373 :: nat_lit 379 :: nat_lit 380 :: nat_lit 384 :: nat_lit 385 :: nat_lit 389 :: nat_lit 390 :: nat_lit 394 :: nat_lit 395 :: nat_lit 399 :: nat_lit 400 :: []
noncomputable def K : Params → Frag := fun P =>
  (nat_lit 3, ⟨(.type "dict"), none, .dict (List.toArray (⟨PyData.keyHash P (.ofString "__name__"), (.str (.ofString "__name__") 165), (.str (.ofString "law_no0378_01") 686)⟩ :: ⟨PyData.keyHash P (.ofString "__doc__"), (.str (.ofString "__doc__") 166), .none⟩ :: ⟨PyData.keyHash P (.ofString "__package__"), (.str (.ofString "__package__") 167), .none⟩ :: ⟨PyData.keyHash P (.ofString "__loader__"), (.str (.ofString "__loader__") 168), (.builtin "__main__.__loader__#opaque")⟩ :: ⟨PyData.keyHash P (.ofString "__spec__"), (.str (.ofString "__spec__") 169), .none⟩ :: ⟨PyData.keyHash P (.ofString "__annotations__"), (.str (.ofString "__annotations__") 170), (.ref 6)⟩ :: ⟨PyData.keyHash P (.ofString "__builtins__"), (.str (.ofString "__builtins__") 171), (.ref 4)⟩ :: ⟨PyData.keyHash P (.ofString "__file__"), (.str (.ofString "__file__") 173), (.str (.ofString "/claim/cut.py") 172)⟩ :: ⟨PyData.keyHash P (.ofString "__cached__"), (.str (.ofString "__cached__") 174), .none⟩ :: ⟨PyData.keyHash P (.ofString "_wall"), (.str (.ofString "_wall") 193), (.ref 21)⟩ :: ⟨PyData.keyHash P (.ofString "SIGNS"), (.str (.ofString "SIGNS") 197), (.bytes #[65, 66, 67, 68, 69, 70, 71, 72, 73, 74, 75, 76, 77, 78, 79, 80, 81, 82, 83, 84, 85, 86, 87, 88, 89, 90, 97, 98, 99, 100, 101, 102, 103, 104, 105, 106, 107, 108, 109, 110, 111, 112, 113, 114, 115, 116, 117, 118, 119, 120, 121, 122, 48, 49, 50, 51, 52, 53, 54, 55, 56, 57, 43, 47] 196)⟩ :: ⟨PyData.keyHash P (.ofString "PAD"), (.str (.ofString "PAD") 199), (.int 61 198)⟩ :: ⟨PyData.keyHash P (.ofString "worth_table"), (.str (.ofString "worth_table") 205), (.ref 26)⟩ :: ⟨PyData.keyHash P (.ofString "group_octets"), (.str (.ofString "group_octets") 211), (.ref 31)⟩ :: ⟨PyData.keyHash P (.ofString "decoded"), (.str (.ofString "decoded") 223), (.ref 38)⟩ :: ⟨PyData.keyHash P (.ofString "PostError"), (.str (.ofString "PostError") 265), (.ref 63)⟩ :: ⟨PyData.keyHash P (.ofString "MimeFault"), (.str (.ofString "MimeFault") 281), (.ref 76)⟩ :: ⟨PyData.keyHash P (.ofString "RETURN_octets"), (.str (.ofString "RETURN_octets") 285), (.int 13 284)⟩ :: ⟨PyData.keyHash P (.ofString "lower_code"), (.str (.ofString "lower_code") 292), (.ref 85)⟩ :: ⟨PyData.keyHash P (.ofString "lower_text"), (.str (.ofString "lower_text") 298), (.ref 90)⟩ :: ⟨PyData.keyHash P (.ofString "line_spans"), (.str (.ofString "line_spans") 315), (.ref 98)⟩ :: ⟨PyData.keyHash P (.ofString "ASCII"), (.str (.ofString "ASCII") 319), (.str (.ofString "us-ascii") 318)⟩ :: ⟨PyData.keyHash P (.ofString "LATIN"), (.str (.ofString "LATIN") 321), (.str (.ofString "iso-8859-1") 320)⟩ :: ⟨PyData.keyHash P (.ofString "UTF8"), (.str (.ofString "UTF8") 323), (.str (.ofString "utf-8") 322)⟩ :: ⟨PyData.keyHash P (.ofString "CHARSETS"), (.str (.ofString "CHARSETS") 324), (.ref 99)⟩ :: ⟨PyData.keyHash P (.ofString "UNKNOWN_SIGN"), (.str (.ofString "UNKNOWN_SIGN") 327), (.str (.ofString "�") 326)⟩ :: ⟨PyData.keyHash P (.ofString "charset_names"), (.str (.ofString "charset_names") 335), (.ref 106)⟩ :: ⟨PyData.keyHash P (.ofString "charset_name"), (.str (.ofString "charset_name") 342), (.ref 113)⟩ :: ⟨PyData.keyHash P (.ofString "need_charset"), (.str (.ofString "need_charset") 349), (.ref 120)⟩ :: ⟨PyData.keyHash P (.ofString "follower_span"), (.str (.ofString "follower_span") 356), (.ref 127)⟩ :: ⟨PyData.keyHash P (.ofString "utf8_sign"), (.str (.ofString "utf8_sign") 370), (.ref 134)⟩ :: ⟨PyData.keyHash P (.ofString "sign_at"), (.str (.ofString "sign_at") 379), (.ref 141)⟩ :: ⟨PyData.keyHash P (.ofString "text_in"), (.str (.ofString "text_in") 391), (.ref 148)⟩ :: ⟨PyData.keyHash P (.ofString "Field"), (.str (.ofString "Field") 437), (.ref 177)⟩ :: ⟨PyData.keyHash P (.ofString "line_at"), (.str (.ofString "line_at") 447), (.ref 188)⟩ :: ⟨PyData.keyHash P (.ofString "rows_of"), (.str (.ofString "rows_of") 458), (.ref 195)⟩ :: ⟨PyData.keyHash P (.ofString "unfolded"), (.str (.ofString "unfolded") 465), (.ref 202)⟩ :: ⟨PyData.keyHash P (.ofString "first_body"), (.str (.ofString "first_body") 475), (.ref 209)⟩ :: ⟨PyData.keyHash P (.ofString "EQUALS"), (.str (.ofString "EQUALS") 479), (.int 61 478)⟩ :: ⟨PyData.keyHash P (.ofString "RETURN_quoted"), (.str (.ofString "RETURN_quoted") 481), (.int 13 480)⟩ :: ⟨PyData.keyHash P (.ofString "hex_worth"), (.str (.ofString "hex_worth") 488), (.ref 216)⟩ :: ⟨PyData.keyHash P (.ofString "quoted_at"), (.str (.ofString "quoted_at") 498), (.ref 223)⟩ :: ⟨PyData.keyHash P (.ofString "line_parts"), (.str (.ofString "line_parts") 508), (.ref 230)⟩ :: ⟨PyData.keyHash P (.ofString "unquoted"), (.str (.ofString "unquoted") 518), (.ref 237)⟩ :: ⟨PyData.keyHash P (.ofString "quoted_decoded"), (.str (.ofString "quoted_decoded") 529), (.ref 244)⟩ :: ⟨PyData.keyHash P (.ofString "PLAIN_ENCODING"), (.str (.ofString "PLAIN_ENCODING") 533), (.str (.ofString "7bit") 532)⟩ :: ⟨PyData.keyHash P (.ofString "WORD_ENDS"), (.str (.ofString "WORD_ENDS") 535), (.bytes #[32, 9, 40, 59] 534)⟩ :: ⟨PyData.keyHash P (.ofString "Part"), (.str (.ofString "Part") 582), (.ref 268)⟩ :: ⟨PyData.keyHash P (.ofString "encoding_of"), (.str (.ofString "encoding_of") 588), (.ref 277)⟩ :: ⟨PyData.keyHash P (.ofString "undone"), (.str (.ofString "undone") 596), (.ref 284)⟩ :: ⟨PyData.keyHash P (.ofString "body_octets"), (.str (.ofString "body_octets") 604), (.ref 291)⟩ :: ⟨PyData.keyHash P (.ofString "body_text"), (.str (.ofString "body_text") 613), (.ref 298)⟩ :: ⟨PyData.keyHash P (.ofString "line_count"), (.str (.ofString "line_count") 622), (.ref 305)⟩ :: ⟨PyData.keyHash P (.ofString "Kind"), (.str (.ofString "Kind") 685), (.ref 350)⟩ :: ⟨PyData.keyHash P (.ofString "_law_signs"), (.str (.ofString "_law_signs") 695), (.ref 355)⟩ :: ⟨PyData.keyHash P (.ofString "_law_charsets"), (.str (.ofString "_law_charsets") 711), (.ref 364)⟩ :: ⟨PyData.keyHash P (.ofString "_law_ways"), (.str (.ofString "_law_ways") 727), (.ref 373)⟩ :: ⟨PyData.keyHash P (.ofString "_law_draw"), (.str (.ofString "_law_draw") 737), (.ref 380)⟩ :: ⟨PyData.keyHash P (.ofString "_law_base64"), (.str (.ofString "_law_base64") 743), (.ref 385)⟩ :: ⟨PyData.keyHash P (.ofString "_law_quoted"), (.str (.ofString "_law_quoted") 749), (.ref 390)⟩ :: ⟨PyData.keyHash P (.ofString "_law_octets"), (.str (.ofString "_law_octets") 755), (.ref 395)⟩ :: ⟨PyData.keyHash P (.ofString "law"), (.str (.ofString "law") 761), (.ref 400)⟩ :: [])) 62, #[]⟩) ::
  (nat_lit 25, ⟨(.type "code"), none, .fields #[(.str (.ofString "worth_table") 200), (.str (.ofString "worth_table") 201), (.str (.ofString "/claim/cut.py") 202), (.int 7 0), (.int 1 0), (.int 0 0), (.int 0 0), (.int 3 0), (.ref 22), (.bool true), (.int 181 0), (.ref 23), .none, .none, .none, (.ref 24), (.int 203 0), (.int 7 0), (.str (.ofString "/claim/cut.py") 204)], #[]⟩) ::
  (nat_lit 26, fnAt 4 (.ofString "worth_table") (.ofString "worth_table") .none (.str (.ofString "postkeep.base64") 194) (.ref 25) rfl) ::
  (nat_lit 30, ⟨(.type "code"), none, .fields #[(.str (.ofString "group_octets") 206), (.str (.ofString "group_octets") 207), (.str (.ofString "/claim/cut.py") 208), (.int 9 0), (.int 1 0), (.int 0 0), (.int 0 0), (.int 3 0), (.ref 27), (.bool true), (.int 181 0), (.ref 28), .none, .none, .none, (.ref 29), (.int 209 0), (.int 9 0), (.str (.ofString "/claim/cut.py") 210)], #[]⟩) ::
  (nat_lit 31, fnAt 5 (.ofString "group_octets") (.ofString "group_octets") .none (.str (.ofString "postkeep.base64") 194) (.ref 30) rfl) ::
  (nat_lit 37, ⟨(.type "code"), none, .fields #[(.str (.ofString "decoded") 212), (.str (.ofString "decoded") 213), (.str (.ofString "/claim/cut.py") 214), (.int 17 0), (.int 1 0), (.int 0 0), (.int 0 0), (.int 3 0), (.ref 32), (.bool true), (.int 181 0), (.ref 33), .none, (.ref 34), (.ref 35), (.ref 36), (.int 221 0), (.int 17 0), (.str (.ofString "/claim/cut.py") 222)], #[]⟩) ::
  (nat_lit 38, fnAt 6 (.ofString "decoded") (.ofString "decoded") .none (.str (.ofString "postkeep.base64") 194) (.ref 37) rfl) ::
  (nat_lit 84, ⟨(.type "code"), none, .fields #[(.str (.ofString "lower_code") 286), (.str (.ofString "lower_code") 287), (.str (.ofString "/claim/cut.py") 288), (.int 44 0), (.int 1 0), (.int 0 0), (.int 0 0), (.int 3 0), (.ref 79), (.bool true), (.int 181 0), (.ref 80), .none, (.ref 81), (.ref 82), (.ref 83), (.int 290 0), (.int 44 0), (.str (.ofString "/claim/cut.py") 291)], #[]⟩) ::
  (nat_lit 85, fnAt 12 (.ofString "lower_code") (.ofString "lower_code") .none (.str (.ofString "postkeep.octets") 282) (.ref 84) rfl) ::
  (nat_lit 89, ⟨(.type "code"), none, .fields #[(.str (.ofString "lower_text") 293), (.str (.ofString "lower_text") 294), (.str (.ofString "/claim/cut.py") 295), (.int 46 0), (.int 1 0), (.int 0 0), (.int 0 0), (.int 3 0), (.ref 86), (.bool true), (.int 181 0), (.ref 87), .none, .none, .none, (.ref 88), (.int 296 0), (.int 46 0), (.str (.ofString "/claim/cut.py") 297)], #[]⟩) ::
  (nat_lit 90, fnAt 13 (.ofString "lower_text") (.ofString "lower_text") .none (.str (.ofString "postkeep.octets") 282) (.ref 89) rfl) ::
  (nat_lit 91, ⟨(.type "tuple"), none, .seq #[(.int 0 299), (.int (-1) 301)] 0, #[]⟩) ::
  (nat_lit 97, ⟨(.type "code"), none, .fields #[(.str (.ofString "line_spans") 302), (.str (.ofString "line_spans") 303), (.str (.ofString "/claim/cut.py") 304), (.int 48 0), (.int 3 0), (.int 0 0), (.int 0 0), (.int 3 0), (.ref 92), (.bool true), (.int 181 0), (.ref 93), .none, (.ref 94), (.ref 95), (.ref 96), (.int 313 0), (.int 48 0), (.str (.ofString "/claim/cut.py") 314)], #[]⟩) ::
  (nat_lit 98, fnAt 14 (.ofString "line_spans") (.ofString "line_spans") (.ref 91) (.str (.ofString "postkeep.octets") 282) (.ref 97) rfl) ::
  (nat_lit 99, ⟨(.type "tuple"), none, .seq #[(.str (.ofString "us-ascii") 318), (.str (.ofString "iso-8859-1") 320), (.str (.ofString "utf-8") 322)] 0, #[]⟩) ::
  (nat_lit 105, ⟨(.type "code"), none, .fields #[(.str (.ofString "charset_names") 328), (.str (.ofString "charset_names") 329), (.str (.ofString "/claim/cut.py") 330), (.int 67 0), (.int 0 0), (.int 0 0), (.int 0 0), (.int 3 0), (.ref 100), (.bool true), (.int 181 0), (.ref 101), .none, (.ref 102), (.ref 103), (.ref 104), (.int 333 0), (.int 67 0), (.str (.ofString "/claim/cut.py") 334)], #[]⟩) ::
  (nat_lit 106, fnAt 21 (.ofString "charset_names") (.ofString "charset_names") .none (.str (.ofString "postkeep.charsets") 316) (.ref 105) rfl) ::
  (nat_lit 112, ⟨(.type "code"), none, .fields #[(.str (.ofString "charset_name") 336), (.str (.ofString "charset_name") 337), (.str (.ofString "/claim/cut.py") 338), (.int 76 0), (.int 1 0), (.int 0 0), (.int 0 0), (.int 3 0), (.ref 107), (.bool true), (.int 181 0), (.ref 108), .none, (.ref 109), (.ref 110), (.ref 111), (.int 340 0), (.int 76 0), (.str (.ofString "/claim/cut.py") 341)], #[]⟩) ::
  (nat_lit 113, fnAt 22 (.ofString "charset_name") (.ofString "charset_name") .none (.str (.ofString "postkeep.charsets") 316) (.ref 112) rfl) ::
  (nat_lit 119, ⟨(.type "code"), none, .fields #[(.str (.ofString "need_charset") 343), (.str (.ofString "need_charset") 344), (.str (.ofString "/claim/cut.py") 345), (.int 78 0), (.int 1 0), (.int 0 0), (.int 0 0), (.int 3 0), (.ref 114), (.bool true), (.int 181 0), (.ref 115), .none, (.ref 116), (.ref 117), (.ref 118), (.int 347 0), (.int 78 0), (.str (.ofString "/claim/cut.py") 348)], #[]⟩) ::
  (nat_lit 120, fnAt 23 (.ofString "need_charset") (.ofString "need_charset") .none (.str (.ofString "postkeep.charsets") 316) (.ref 119) rfl) ::
  (nat_lit 126, ⟨(.type "code"), none, .fields #[(.str (.ofString "follower_span") 350), (.str (.ofString "follower_span") 351), (.str (.ofString "/claim/cut.py") 352), (.int 81 0), (.int 1 0), (.int 0 0), (.int 0 0), (.int 3 0), (.ref 121), (.bool true), (.int 181 0), (.ref 122), .none, (.ref 123), (.ref 124), (.ref 125), (.int 354 0), (.int 81 0), (.str (.ofString "/claim/cut.py") 355)], #[]⟩) ::
  (nat_lit 127, fnAt 24 (.ofString "follower_span") (.ofString "follower_span") .none (.str (.ofString "postkeep.charsets") 316) (.ref 126) rfl) ::
  (nat_lit 133, ⟨(.type "code"), none, .fields #[(.str (.ofString "utf8_sign") 357), (.str (.ofString "utf8_sign") 358), (.str (.ofString "/claim/cut.py") 359), (.int 89 0), (.int 2 0), (.int 0 0), (.int 0 0), (.int 3 0), (.ref 128), (.bool true), (.int 181 0), (.ref 129), .none, (.ref 130), (.ref 131), (.ref 132), (.int 368 0), (.int 89 0), (.str (.ofString "/claim/cut.py") 369)], #[]⟩) ::
  (nat_lit 134, fnAt 25 (.ofString "utf8_sign") (.ofString "utf8_sign") .none (.str (.ofString "postkeep.charsets") 316) (.ref 133) rfl) ::
  (nat_lit 140, ⟨(.type "code"), none, .fields #[(.str (.ofString "sign_at") 371), (.str (.ofString "sign_at") 372), (.str (.ofString "/claim/cut.py") 373), (.int 103 0), (.int 3 0), (.int 0 0), (.int 0 0), (.int 3 0), (.ref 135), (.bool true), (.int 181 0), (.ref 136), .none, (.ref 137), (.ref 138), (.ref 139), (.int 377 0), (.int 103 0), (.str (.ofString "/claim/cut.py") 378)], #[]⟩) ::
  (nat_lit 141, fnAt 26 (.ofString "sign_at") (.ofString "sign_at") .none (.str (.ofString "postkeep.charsets") 316) (.ref 140) rfl) ::
  (nat_lit 147, ⟨(.type "code"), none, .fields #[(.str (.ofString "text_in") 380), (.str (.ofString "text_in") 381), (.str (.ofString "/claim/cut.py") 382), (.int 109 0), (.int 2 0), (.int 0 0), (.int 0 0), (.int 3 0), (.ref 142), (.bool true), (.int 181 0), (.ref 143), .none, (.ref 144), (.ref 145), (.ref 146), (.int 389 0), (.int 109 0), (.str (.ofString "/claim/cut.py") 390)], #[]⟩) ::
  (nat_lit 148, fnAt 27 (.ofString "text_in") (.ofString "text_in") .none (.str (.ofString "postkeep.charsets") 316) (.ref 147) rfl) ::
  (nat_lit 161, ⟨(.type "code"), none, .fields #[(.str (.ofString "__init__") 406), (.str (.ofString "Field.__init__") 407), (.str (.ofString "/claim/cut.py") 408), (.int 121 0), (.int 3 0), (.int 0 0), (.int 0 0), (.int 3 0), (.ref 156), (.bool true), (.int 181 0), (.ref 157), .none, (.ref 158), (.ref 159), (.ref 160), (.int 412 0), (.int 121 0), (.str (.ofString "/claim/cut.py") 413)], #[]⟩) ::
  (nat_lit 162, mtAt 29 0 (.ofString "__init__") (.ofString "Field.__init__") .none (.str (.ofString "postkeep.headers") 392) (.ref 161) rfl rfl) ::
  (nat_lit 166, ⟨(.type "code"), none, .fields #[(.str (.ofString "word") 415), (.str (.ofString "Field.word") 416), (.str (.ofString "/claim/cut.py") 417), (.int 125 0), (.int 1 0), (.int 0 0), (.int 0 0), (.int 3 0), (.ref 163), (.bool true), (.int 181 0), (.ref 164), .none, .none, .none, (.ref 165), (.int 418 0), (.int 125 0), (.str (.ofString "/claim/cut.py") 419)], #[]⟩) ::
  (nat_lit 167, mtAt 29 1 (.ofString "word") (.ofString "Field.word") .none (.str (.ofString "postkeep.headers") 392) (.ref 166) rfl rfl) ::
  (nat_lit 176, ⟨(.type "dict"), none, .dict #[⟨PyData.keyHash P (.ofString "__module__"), (.str (.ofString "__module__") 401), (.str (.ofString "postkeep.headers") 392)⟩, ⟨PyData.keyHash P (.ofString "__firstlineno__"), (.str (.ofString "__firstlineno__") 405), (.int 119 404)⟩, ⟨PyData.keyHash P (.ofString "__init__"), (.str (.ofString "__init__") 414), (.ref 162)⟩, ⟨PyData.keyHash P (.ofString "word"), (.str (.ofString "word") 420), (.ref 167)⟩, ⟨PyData.keyHash P (.ofString "told"), (.str (.ofString "told") 427), (.ref 174)⟩, ⟨PyData.keyHash P (.ofString "__static_attributes__"), (.str (.ofString "__static_attributes__") 430), (.ref 175)⟩, ⟨PyData.keyHash P (.ofString "__dict__"), (.str (.ofString "__dict__") 432), (.ref 178)⟩, ⟨PyData.keyHash P (.ofString "__weakref__"), (.str (.ofString "__weakref__") 434), (.ref 179)⟩, ⟨PyData.keyHash P (.ofString "__doc__"), (.str (.ofString "__doc__") 435), .none⟩] 4, #[]⟩) ::
  (nat_lit 177, ⟨(.type "type"), none, .cls ⟨(.ofString "Field"), [(.type "object")], [(.ref 177), (.type "object")], 176, (.ofString "Field"), true, [], [], false, none, false⟩, #[none, none, (some (.str (.ofString "Field") 394)), (some (.str (.ofString "Field") 402)), (some (.builtin "object.__new__")), (some (.bool true))]⟩) ::
  (nat_lit 187, ⟨(.type "code"), none, .fields #[(.str (.ofString "line_at") 438), (.str (.ofString "line_at") 439), (.str (.ofString "/claim/cut.py") 440), (.int 130 0), (.int 3 0), (.int 0 0), (.int 0 0), (.int 3 0), (.ref 182), (.bool true), (.int 181 0), (.ref 183), .none, (.ref 184), (.ref 185), (.ref 186), (.int 445 0), (.int 130 0), (.str (.ofString "/claim/cut.py") 446)], #[]⟩) ::
  (nat_lit 188, fnAt 30 (.ofString "line_at") (.ofString "line_at") .none (.str (.ofString "postkeep.headers") 392) (.ref 187) rfl) ::
  (nat_lit 194, ⟨(.type "code"), none, .fields #[(.str (.ofString "rows_of") 448), (.str (.ofString "rows_of") 449), (.str (.ofString "/claim/cut.py") 450), (.int 137 0), (.int 1 0), (.int 0 0), (.int 0 0), (.int 3 0), (.ref 189), (.bool true), (.int 181 0), (.ref 190), .none, (.ref 191), (.ref 192), (.ref 193), (.int 456 0), (.int 137 0), (.str (.ofString "/claim/cut.py") 457)], #[]⟩) ::
  (nat_lit 195, fnAt 31 (.ofString "rows_of") (.ofString "rows_of") .none (.str (.ofString "postkeep.headers") 392) (.ref 194) rfl) ::
  (nat_lit 201, ⟨(.type "code"), none, .fields #[(.str (.ofString "unfolded") 459), (.str (.ofString "unfolded") 460), (.str (.ofString "/claim/cut.py") 461), (.int 146 0), (.int 1 0), (.int 0 0), (.int 0 0), (.int 3 0), (.ref 196), (.bool true), (.int 181 0), (.ref 197), .none, (.ref 198), (.ref 199), (.ref 200), (.int 463 0), (.int 146 0), (.str (.ofString "/claim/cut.py") 464)], #[]⟩) ::
  (nat_lit 202, fnAt 32 (.ofString "unfolded") (.ofString "unfolded") .none (.str (.ofString "postkeep.headers") 392) (.ref 201) rfl) ::
  (nat_lit 208, ⟨(.type "code"), none, .fields #[(.str (.ofString "first_body") 466), (.str (.ofString "first_body") 467), (.str (.ofString "/claim/cut.py") 468), (.int 148 0), (.int 2 0), (.int 0 0), (.int 0 0), (.int 3 0), (.ref 203), (.bool true), (.int 181 0), (.ref 204), .none, (.ref 205), (.ref 206), (.ref 207), (.int 473 0), (.int 148 0), (.str (.ofString "/claim/cut.py") 474)], #[]⟩) ::
  (nat_lit 209, fnAt 33 (.ofString "first_body") (.ofString "first_body") .none (.str (.ofString "postkeep.headers") 392) (.ref 208) rfl) ::
  (nat_lit 215, ⟨(.type "code"), none, .fields #[(.str (.ofString "hex_worth") 482), (.str (.ofString "hex_worth") 483), (.str (.ofString "/claim/cut.py") 484), (.int 157 0), (.int 1 0), (.int 0 0), (.int 0 0), (.int 3 0), (.ref 210), (.bool true), (.int 181 0), (.ref 211), .none, (.ref 212), (.ref 213), (.ref 214), (.int 486 0), (.int 157 0), (.str (.ofString "/claim/cut.py") 487)], #[]⟩) ::
  (nat_lit 216, fnAt 37 (.ofString "hex_worth") (.ofString "hex_worth") .none (.str (.ofString "postkeep.quoted") 476) (.ref 215) rfl) ::
  (nat_lit 222, ⟨(.type "code"), none, .fields #[(.str (.ofString "quoted_at") 489), (.str (.ofString "quoted_at") 490), (.str (.ofString "/claim/cut.py") 491), (.int 165 0), (.int 2 0), (.int 0 0), (.int 0 0), (.int 3 0), (.ref 217), (.bool true), (.int 181 0), (.ref 218), .none, (.ref 219), (.ref 220), (.ref 221), (.int 496 0), (.int 165 0), (.str (.ofString "/claim/cut.py") 497)], #[]⟩) ::
  (nat_lit 223, fnAt 38 (.ofString "quoted_at") (.ofString "quoted_at") .none (.str (.ofString "postkeep.quoted") 476) (.ref 222) rfl) ::
  (nat_lit 229, ⟨(.type "code"), none, .fields #[(.str (.ofString "line_parts") 499), (.str (.ofString "line_parts") 500), (.str (.ofString "/claim/cut.py") 501), (.int 171 0), (.int 1 0), (.int 0 0), (.int 0 0), (.int 3 0), (.ref 224), (.bool true), (.int 181 0), (.ref 225), .none, (.ref 226), (.ref 227), (.ref 228), (.int 506 0), (.int 171 0), (.str (.ofString "/claim/cut.py") 507)], #[]⟩) ::
  (nat_lit 230, fnAt 39 (.ofString "line_parts") (.ofString "line_parts") .none (.str (.ofString "postkeep.quoted") 476) (.ref 229) rfl) ::
  (nat_lit 236, ⟨(.type "code"), none, .fields #[(.str (.ofString "unquoted") 509), (.str (.ofString "unquoted") 510), (.str (.ofString "/claim/cut.py") 511), (.int 183 0), (.int 1 0), (.int 0 0), (.int 0 0), (.int 3 0), (.ref 231), (.bool true), (.int 181 0), (.ref 232), .none, (.ref 233), (.ref 234), (.ref 235), (.int 516 0), (.int 183 0), (.str (.ofString "/claim/cut.py") 517)], #[]⟩) ::
  (nat_lit 237, fnAt 40 (.ofString "unquoted") (.ofString "unquoted") .none (.str (.ofString "postkeep.quoted") 476) (.ref 236) rfl) ::
  (nat_lit 243, ⟨(.type "code"), none, .fields #[(.str (.ofString "quoted_decoded") 519), (.str (.ofString "quoted_decoded") 520), (.str (.ofString "/claim/cut.py") 521), (.int 195 0), (.int 1 0), (.int 0 0), (.int 0 0), (.int 3 0), (.ref 238), (.bool true), (.int 181 0), (.ref 239), .none, (.ref 240), (.ref 241), (.ref 242), (.int 527 0), (.int 195 0), (.str (.ofString "/claim/cut.py") 528)], #[]⟩) ::
  (nat_lit 244, fnAt 41 (.ofString "quoted_decoded") (.ofString "quoted_decoded") .none (.str (.ofString "postkeep.quoted") 476) (.ref 243) rfl) ::
  (nat_lit 257, ⟨(.type "code"), none, .fields #[(.str (.ofString "__init__") 548), (.str (.ofString "Part.__init__") 549), (.str (.ofString "/claim/cut.py") 550), (.int 209 0), (.int 6 0), (.int 0 0), (.int 0 0), (.int 3 0), (.ref 252), (.bool true), (.int 181 0), (.ref 253), .none, (.ref 254), (.ref 255), (.ref 256), (.int 557 0), (.int 209 0), (.str (.ofString "/claim/cut.py") 558)], #[]⟩) ::
  (nat_lit 258, mtAt 45 0 (.ofString "__init__") (.ofString "Part.__init__") .none (.str (.ofString "postkeep.parts") 530) (.ref 257) rfl rfl) ::
  (nat_lit 267, ⟨(.type "dict"), none, .dict #[⟨PyData.keyHash P (.ofString "__module__"), (.str (.ofString "__module__") 543), (.str (.ofString "postkeep.parts") 530)⟩, ⟨PyData.keyHash P (.ofString "__firstlineno__"), (.str (.ofString "__firstlineno__") 547), (.int 207 546)⟩, ⟨PyData.keyHash P (.ofString "__init__"), (.str (.ofString "__init__") 559), (.ref 258)⟩, ⟨PyData.keyHash P (.ofString "told"), (.str (.ofString "told") 566), (.ref 265)⟩, ⟨PyData.keyHash P (.ofString "__static_attributes__"), (.str (.ofString "__static_attributes__") 575), (.ref 266)⟩, ⟨PyData.keyHash P (.ofString "__dict__"), (.str (.ofString "__dict__") 577), (.ref 269)⟩, ⟨PyData.keyHash P (.ofString "__weakref__"), (.str (.ofString "__weakref__") 579), (.ref 270)⟩, ⟨PyData.keyHash P (.ofString "__doc__"), (.str (.ofString "__doc__") 580), .none⟩] 4, #[]⟩) ::
  (nat_lit 268, ⟨(.type "type"), none, .cls ⟨(.ofString "Part"), [(.type "object")], [(.ref 268), (.type "object")], 267, (.ofString "Part"), true, [], [], false, none, false⟩, #[none, none, (some (.str (.ofString "Part") 536)), (some (.str (.ofString "Part") 544)), (some (.builtin "object.__new__")), (some (.bool true))]⟩) ::
  (nat_lit 276, ⟨(.type "code"), none, .fields #[(.str (.ofString "encoding_of") 583), (.str (.ofString "encoding_of") 584), (.str (.ofString "/claim/cut.py") 585), (.int 221 0), (.int 1 0), (.int 0 0), (.int 0 0), (.int 3 0), (.ref 273), (.bool true), (.int 181 0), (.ref 274), .none, .none, .none, (.ref 275), (.int 586 0), (.int 221 0), (.str (.ofString "/claim/cut.py") 587)], #[]⟩) ::
  (nat_lit 277, fnAt 46 (.ofString "encoding_of") (.ofString "encoding_of") .none (.str (.ofString "postkeep.parts") 530) (.ref 276) rfl) ::
  (nat_lit 283, ⟨(.type "code"), none, .fields #[(.str (.ofString "undone") 589), (.str (.ofString "undone") 590), (.str (.ofString "/claim/cut.py") 591), (.int 230 0), (.int 2 0), (.int 0 0), (.int 0 0), (.int 3 0), (.ref 278), (.bool true), (.int 181 0), (.ref 279), .none, (.ref 280), (.ref 281), (.ref 282), (.int 594 0), (.int 230 0), (.str (.ofString "/claim/cut.py") 595)], #[]⟩) ::
  (nat_lit 284, fnAt 47 (.ofString "undone") (.ofString "undone") .none (.str (.ofString "postkeep.parts") 530) (.ref 283) rfl) ::
  (nat_lit 290, ⟨(.type "code"), none, .fields #[(.str (.ofString "body_octets") 597), (.str (.ofString "body_octets") 598), (.str (.ofString "/claim/cut.py") 599), (.int 236 0), (.int 2 0), (.int 0 0), (.int 0 0), (.int 3 0), (.ref 285), (.bool true), (.int 181 0), (.ref 286), .none, (.ref 287), (.ref 288), (.ref 289), (.int 602 0), (.int 236 0), (.str (.ofString "/claim/cut.py") 603)], #[]⟩) ::
  (nat_lit 291, fnAt 48 (.ofString "body_octets") (.ofString "body_octets") .none (.str (.ofString "postkeep.parts") 530) (.ref 290) rfl) ::
  (nat_lit 297, ⟨(.type "code"), none, .fields #[(.str (.ofString "body_text") 605), (.str (.ofString "body_text") 606), (.str (.ofString "/claim/cut.py") 607), (.int 238 0), (.int 2 0), (.int 0 0), (.int 0 0), (.int 3 0), (.ref 292), (.bool true), (.int 181 0), (.ref 293), .none, (.ref 294), (.ref 295), (.ref 296), (.int 611 0), (.int 238 0), (.str (.ofString "/claim/cut.py") 612)], #[]⟩) ::
  (nat_lit 298, fnAt 49 (.ofString "body_text") (.ofString "body_text") .none (.str (.ofString "postkeep.parts") 530) (.ref 297) rfl) ::
  (nat_lit 304, ⟨(.type "code"), none, .fields #[(.str (.ofString "line_count") 614), (.str (.ofString "line_count") 615), (.str (.ofString "/claim/cut.py") 616), (.int 241 0), (.int 3 0), (.int 0 0), (.int 0 0), (.int 3 0), (.ref 299), (.bool true), (.int 181 0), (.ref 300), .none, (.ref 301), (.ref 302), (.ref 303), (.int 620 0), (.int 241 0), (.str (.ofString "/claim/cut.py") 621)], #[]⟩) ::
  (nat_lit 305, fnAt 50 (.ofString "line_count") (.ofString "line_count") .none (.str (.ofString "postkeep.parts") 530) (.ref 304) rfl) ::
  (nat_lit 318, ⟨(.type "code"), none, .fields #[(.str (.ofString "__init__") 637), (.str (.ofString "Kind.__init__") 638), (.str (.ofString "/claim/cut.py") 639), (.int 246 0), (.int 4 0), (.int 0 0), (.int 0 0), (.int 3 0), (.ref 313), (.bool true), (.int 181 0), (.ref 314), .none, (.ref 315), (.ref 316), (.ref 317), (.int 644 0), (.int 246 0), (.str (.ofString "/claim/cut.py") 645)], #[]⟩) ::
  (nat_lit 319, mtAt 52 0 (.ofString "__init__") (.ofString "Kind.__init__") .none (.str (.ofString "postkeep.params") 623) (.ref 318) rfl rfl) ::
  (nat_lit 349, ⟨(.type "dict"), none, .dict #[⟨PyData.keyHash P (.ofString "__module__"), (.str (.ofString "__module__") 632), (.str (.ofString "postkeep.params") 623)⟩, ⟨PyData.keyHash P (.ofString "__firstlineno__"), (.str (.ofString "__firstlineno__") 636), (.int 244 635)⟩, ⟨PyData.keyHash P (.ofString "__init__"), (.str (.ofString "__init__") 646), (.ref 319)⟩, ⟨PyData.keyHash P (.ofString "told"), (.str (.ofString "told") 653), (.ref 326)⟩, ⟨PyData.keyHash P (.ofString "is_multi"), (.str (.ofString "is_multi") 660), (.ref 333)⟩, ⟨PyData.keyHash P (.ofString "is_letter"), (.str (.ofString "is_letter") 667), (.ref 340)⟩, ⟨PyData.keyHash P (.ofString "is_text"), (.str (.ofString "is_text") 674), (.ref 347)⟩, ⟨PyData.keyHash P (.ofString "__static_attributes__"), (.str (.ofString "__static_attributes__") 678), (.ref 348)⟩, ⟨PyData.keyHash P (.ofString "__dict__"), (.str (.ofString "__dict__") 680), (.ref 351)⟩, ⟨PyData.keyHash P (.ofString "__weakref__"), (.str (.ofString "__weakref__") 682), (.ref 352)⟩, ⟨PyData.keyHash P (.ofString "__doc__"), (.str (.ofString "__doc__") 683), .none⟩] 4, #[]⟩) ::
  (nat_lit 350, ⟨(.type "type"), none, .cls ⟨(.ofString "Kind"), [(.type "object")], [(.ref 350), (.type "object")], 349, (.ofString "Kind"), true, [], [], false, none, false⟩, #[none, none, (some (.str (.ofString "Kind") 625)), (some (.str (.ofString "Kind") 633)), (some (.builtin "object.__new__")), (some (.bool true))]⟩) ::
  (nat_lit 355, ⟨(.type "tuple"), none, .seq #[(.str (.ofString "a") 688), (.str (.ofString "é") 689), (.str (.ofString "=") 690), (.str (.ofString "\x0d\n") 691), (.str (.ofString "z") 692), (.str (.ofString "\n") 693), (.str (.ofString " ") 694)] 0, #[]⟩) ::
  (nat_lit 356, ⟨(.type "tuple"), none, .seq #[(.str (.ofString "utf-8") 696), (.str (.ofString "u") 697)] 0, #[]⟩) ::
  (nat_lit 357, ⟨(.type "tuple"), none, .seq #[(.str (.ofString "UTF8") 698), (.str (.ofString "u") 699)] 0, #[]⟩) ::
  (nat_lit 358, ⟨(.type "tuple"), none, .seq #[(.str (.ofString "ISO-8859-1") 700), (.str (.ofString "l") 701)] 0, #[]⟩) ::
  (nat_lit 359, ⟨(.type "tuple"), none, .seq #[(.str (.ofString "latin1") 702), (.str (.ofString "l") 703)] 0, #[]⟩) ::
  (nat_lit 360, ⟨(.type "tuple"), none, .seq #[(.str (.ofString "us-ascii") 704), (.str (.ofString "a") 705)] 0, #[]⟩) ::
  (nat_lit 361, ⟨(.type "tuple"), none, .seq #[(.str (.ofString "x-odd") 706), (.str (.ofString "a") 707)] 0, #[]⟩) ::
  (nat_lit 362, ⟨(.type "tuple"), none, .seq #[.none, (.str (.ofString "a") 708)] 0, #[]⟩) ::
  (nat_lit 363, ⟨(.type "tuple"), none, .seq #[(.str (.ofString "Ascii") 709), (.str (.ofString "a") 710)] 0, #[]⟩) ::
  (nat_lit 364, ⟨(.type "tuple"), none, .seq #[(.ref 356), (.ref 357), (.ref 358), (.ref 359), (.ref 360), (.ref 361), (.ref 362), (.ref 363)] 0, #[]⟩) ::
  (nat_lit 365, ⟨(.type "tuple"), none, .seq #[(.bytes #[66, 97, 115, 101, 54, 52] 712), (.str (.ofString "b") 713)] 0, #[]⟩) ::
  (nat_lit 366, ⟨(.type "tuple"), none, .seq #[(.bytes #[32, 98, 97, 115, 101, 54, 52, 32, 40, 115, 111, 41] 714), (.str (.ofString "b") 715)] 0, #[]⟩) ::
  (nat_lit 367, ⟨(.type "tuple"), none, .seq #[(.bytes #[81, 85, 79, 84, 69, 68, 45, 80, 82, 73, 78, 84, 65, 66, 76, 69, 59] 716), (.str (.ofString "q") 717)] 0, #[]⟩) ::
  (nat_lit 368, ⟨(.type "tuple"), none, .seq #[(.bytes #[113, 117, 111, 116, 101, 100, 45, 112, 114, 105, 110, 116, 97, 98, 108, 101] 718), (.str (.ofString "q") 719)] 0, #[]⟩) ::
  (nat_lit 369, ⟨(.type "tuple"), none, .seq #[(.bytes #[56, 98, 105, 116] 720), (.str (.ofString "") 721)] 0, #[]⟩) ::
  (nat_lit 370, ⟨(.type "tuple"), none, .seq #[(.bytes #[120, 45, 119, 97, 121] 722), (.str (.ofString "") 723)] 0, #[]⟩) ::
  (nat_lit 371, ⟨(.type "tuple"), none, .seq #[.none, (.str (.ofString "") 724)] 0, #[]⟩) ::
  (nat_lit 372, ⟨(.type "tuple"), none, .seq #[(.bytes #[] 725), (.str (.ofString "") 726)] 0, #[]⟩) ::
  (nat_lit 373, ⟨(.type "tuple"), none, .seq #[(.ref 365), (.ref 366), (.ref 367), (.ref 368), (.ref 369), (.ref 370), (.ref 371), (.ref 372)] 0, #[]⟩) ::
  (nat_lit 379, ⟨(.type "code"), none, .fields #[(.str (.ofString "_law_draw") 728), (.str (.ofString "_law_draw") 729), (.str (.ofString "/claim/cut.py") 730), (.int 266 0), (.int 2 0), (.int 0 0), (.int 0 0), (.int 3 0), (.ref 374), (.bool true), (.int 181 0), (.ref 375), .none, (.ref 376), (.ref 377), (.ref 378), (.int 735 0), (.int 266 0), (.str (.ofString "/claim/cut.py") 736)], #[]⟩) ::
  (nat_lit 380, fnAt 57 (.ofString "_law_draw") (.ofString "_law_draw") .none (.str (.ofString "law_no0378_01") 686) (.ref 379) rfl) ::
  (nat_lit 384, ⟨(.type "code"), none, .fields #[(.str (.ofString "_law_base64") 738), (.str (.ofString "_law_base64") 739), (.str (.ofString "/claim/cut.py") 740), (.int 271 0), (.int 1 0), (.int 0 0), (.int 0 0), (.int 3 0), (.ref 381), (.bool true), (.int 181 0), (.ref 382), .none, .none, .none, (.ref 383), (.int 741 0), (.int 271 0), (.str (.ofString "/claim/cut.py") 742)], #[]⟩) ::
  (nat_lit 385, fnAt 58 (.ofString "_law_base64") (.ofString "_law_base64") .none (.str (.ofString "law_no0378_01") 686) (.ref 384) rfl) ::
  (nat_lit 389, ⟨(.type "code"), none, .fields #[(.str (.ofString "_law_quoted") 744), (.str (.ofString "_law_quoted") 745), (.str (.ofString "/claim/cut.py") 746), (.int 280 0), (.int 1 0), (.int 0 0), (.int 0 0), (.int 3 0), (.ref 386), (.bool true), (.int 181 0), (.ref 387), .none, .none, .none, (.ref 388), (.int 747 0), (.int 280 0), (.str (.ofString "/claim/cut.py") 748)], #[]⟩) ::
  (nat_lit 390, fnAt 59 (.ofString "_law_quoted") (.ofString "_law_quoted") .none (.str (.ofString "law_no0378_01") 686) (.ref 389) rfl) ::
  (nat_lit 394, ⟨(.type "code"), none, .fields #[(.str (.ofString "_law_octets") 750), (.str (.ofString "_law_octets") 751), (.str (.ofString "/claim/cut.py") 752), (.int 283 0), (.int 2 0), (.int 0 0), (.int 0 0), (.int 3 0), (.ref 391), (.bool true), (.int 181 0), (.ref 392), .none, .none, .none, (.ref 393), (.int 753 0), (.int 283 0), (.str (.ofString "/claim/cut.py") 754)], #[]⟩) ::
  (nat_lit 395, fnAt 60 (.ofString "_law_octets") (.ofString "_law_octets") .none (.str (.ofString "law_no0378_01") 686) (.ref 394) rfl) ::
  (nat_lit 399, ⟨(.type "code"), none, .fields #[(.str (.ofString "law") 756), (.str (.ofString "law") 757), (.str (.ofString "/claim/cut.py") 758), (.int 287 0), (.int 1 0), (.int 0 0), (.int 0 0), (.int 3 0), (.ref 396), (.bool true), (.int 181 0), (.ref 397), .none, .none, .none, (.ref 398), (.int 759 0), (.int 287 0), (.str (.ofString "/claim/cut.py") 760)], #[]⟩) ::
  (nat_lit 400, fnAt 61 (.ofString "law") (.ofString "law") .none (.str (.ofString "law_no0378_01") 686) (.ref 399) rfl) :: []
noncomputable def q : Program := { pw with main := { pw.main with body := [stAt 61 rfl] } }
noncomputable def loose : List Str := [.ofString "_wall", .ofString "SIGNS", .ofString "PAD", .ofString "worth_table", .ofString "group_octets", .ofString "decoded", .ofString "PostError", .ofString "MimeFault", .ofString "RETURN_octets", .ofString "lower_code", .ofString "lower_text", .ofString "line_spans", .ofString "ASCII", .ofString "LATIN", .ofString "UTF8", .ofString "CHARSETS", .ofString "UNKNOWN_SIGN", .ofString "charset_names", .ofString "charset_name", .ofString "need_charset", .ofString "follower_span", .ofString "utf8_sign", .ofString "sign_at", .ofString "text_in", .ofString "Field", .ofString "line_at", .ofString "rows_of", .ofString "unfolded", .ofString "first_body", .ofString "EQUALS", .ofString "RETURN_quoted", .ofString "hex_worth", .ofString "quoted_at", .ofString "line_parts", .ofString "unquoted", .ofString "quoted_decoded", .ofString "PLAIN_ENCODING", .ofString "WORD_ENDS", .ofString "Part", .ofString "encoding_of", .ofString "undone", .ofString "body_octets", .ofString "body_text", .ofString "line_count", .ofString "Kind", .ofString "_law_signs", .ofString "_law_charsets", .ofString "_law_ways", .ofString "_law_draw", .ofString "_law_base64", .ofString "_law_quoted", .ofString "_law_octets"]
end Mine
end
section
open PySem PySem.W PySem.Calls PyProof.Rows
set_option maxRecDepth 100000
namespace Mine
open Builtin
theorem slot_find : Slot "bytes" "find" "bytes.find" :=
  .of (owner := "bytes") (n := "find") (by rw [typeLookup_type, builtinLookup_eq_fast]; kernel_rfl) (by decide +kernel) (by decide +kernel) (by decide +kernel)
    (by first | exact .inl (by decide +kernel) | exact .inr (by decide +kernel)) (by rw [isSubtype_type]; kernel_rfl)
theorem slot_split : Slot "bytes" "split" "bytes.split" :=
  .of (owner := "bytes") (n := "split") (by rw [typeLookup_type, builtinLookup_eq_fast]; kernel_rfl) (by decide +kernel) (by decide +kernel) (by decide +kernel)
    (by first | exact .inl (by decide +kernel) | exact .inr (by decide +kernel)) (by rw [isSubtype_type]; kernel_rfl)
theorem slot_strip : Slot "bytes" "strip" "bytes.strip" :=
  .of (owner := "bytes") (n := "strip") (by rw [typeLookup_type, builtinLookup_eq_fast]; kernel_rfl) (by decide +kernel) (by decide +kernel) (by decide +kernel)
    (by first | exact .inl (by decide +kernel) | exact .inr (by decide +kernel)) (by rw [isSubtype_type]; kernel_rfl)
theorem slot_rstrip : Slot "bytes" "rstrip" "bytes.rstrip" :=
  .of (owner := "bytes") (n := "rstrip") (by rw [typeLookup_type, builtinLookup_eq_fast]; kernel_rfl) (by decide +kernel) (by decide +kernel) (by decide +kernel)
    (by first | exact .inl (by decide +kernel) | exact .inr (by decide +kernel)) (by rw [isSubtype_type]; kernel_rfl)
theorem slot_join : Slot "bytes" "join" "bytes.join" :=
  .of (owner := "bytes") (n := "join") (by rw [typeLookup_type, builtinLookup_eq_fast]; kernel_rfl) (by decide +kernel) (by decide +kernel) (by decide +kernel)
    (by first | exact .inl (by decide +kernel) | exact .inr (by decide +kernel)) (by rw [isSubtype_type]; kernel_rfl)
theorem type_find : typeOf (.builtin "bytes.find") = pure (.type "method_descriptor") := by show builtinType _ = _; rw [builtinType_eq_fast]; kernel_rfl
theorem type_split : typeOf (.builtin "bytes.split") = pure (.type "method_descriptor") := by show builtinType _ = _; rw [builtinType_eq_fast]; kernel_rfl
theorem type_strip : typeOf (.builtin "bytes.strip") = pure (.type "method_descriptor") := by show builtinType _ = _; rw [builtinType_eq_fast]; kernel_rfl
theorem type_rstrip : typeOf (.builtin "bytes.rstrip") = pure (.type "method_descriptor") := by show builtinType _ = _; rw [builtinType_eq_fast]; kernel_rfl
theorem type_join : typeOf (.builtin "bytes.join") = pure (.type "method_descriptor") := by show builtinType _ = _; rw [builtinType_eq_fast]; kernel_rfl
theorem entry_find : entryFor table "bytes.find" = some Builtin.«bytes.find» := entryFor_of_tree (by kernel_rfl)
theorem entry_split : entryFor table "bytes.split" = some Builtin.«bytes.split» := entryFor_of_tree (by kernel_rfl)
theorem entry_strip : entryFor table "bytes.strip" = some Builtin.«bytes.strip» := entryFor_of_tree (by kernel_rfl)
theorem entry_rstrip : entryFor table "bytes.rstrip" = some Builtin.«bytes.rstrip» := entryFor_of_tree (by kernel_rfl)
theorem entry_join : entryFor table "bytes.join" = some Builtin.«bytes.join» := entryFor_of_tree (by kernel_rfl)
theorem args_find3 (a b c : Value) : argsOk "bytes.find" ⟨[a, b, c], []⟩ := by
  unfold argsOk; rw [signature?_of (id := "bytes.find") (n := "find".toList.reverse) (o := ['s', 'e', 't', 'y', 'b']) (by kernel_rfl) FB.owner_bytes]; kernel_rfl
theorem args_find4 (a b c d : Value) : argsOk "bytes.find" ⟨[a, b, c, d], []⟩ := by
  unfold argsOk; rw [signature?_of (id := "bytes.find") (n := "find".toList.reverse) (o := ['s', 'e', 't', 'y', 'b']) (by kernel_rfl) FB.owner_bytes]; kernel_rfl
theorem args_split2 (a b : Value) : argsOk "bytes.split" ⟨[a, b], []⟩ := by
  unfold argsOk; rw [signature?_of (id := "bytes.split") (n := "split".toList.reverse) (o := ['s', 'e', 't', 'y', 'b']) (by kernel_rfl) FB.owner_bytes]; kernel_rfl
theorem args_strip2 (a b : Value) : argsOk "bytes.strip" ⟨[a, b], []⟩ := by
  unfold argsOk; rw [signature?_of (id := "bytes.strip") (n := "strip".toList.reverse) (o := ['s', 'e', 't', 'y', 'b']) (by kernel_rfl) FB.owner_bytes]; kernel_rfl
theorem args_rstrip2 (a b : Value) : argsOk "bytes.rstrip" ⟨[a, b], []⟩ := by
  unfold argsOk; rw [signature?_of (id := "bytes.rstrip") (n := "rstrip".toList.reverse) (o := ['s', 'e', 't', 'y', 'b']) (by kernel_rfl) FB.owner_bytes]; kernel_rfl
theorem args_join2 (a b : Value) : argsOk "bytes.join" ⟨[a, b], []⟩ := by
  unfold argsOk; rw [signature?_of (id := "bytes.join") (n := "join".toList.reverse) (o := ['s', 'e', 't', 'y', 'b']) (by kernel_rfl) FB.owner_bytes]; kernel_rfl
theorem bound_int {i : Int} {u : Tok} : Bytes.bound? (some (.int i u)) = pure (some i) := by
  unfold Bytes.bound?
  have e : specialOf (.int i u) "__index__" = typeLookup (.type "int") "__index__" := rfl
  simp only [e, F.slot_int_index.lookup]
  rfl
section
variable {M : Model} {s : Shared} {b : Array UInt8} {t : Tok} {pl : Sem Bool} {A : Around} {E : Value → Shared → Prop} {Q : Value × List Value → Shared → Prop}
theorem m_find (h : Q (.builtin "bytes.find", [.bytes b t]) s) : wpAny M A (getMethod (.bytes b t) "find" pl) Q E s := by
  with_reducible exact KBd.method_of (.bytes b t) (typeIs_bytes _ _ _) slot_find type_find KBd.noRef h
theorem m_split (h : Q (.builtin "bytes.split", [.bytes b t]) s) : wpAny M A (getMethod (.bytes b t) "split" pl) Q E s := by
  with_reducible exact KBd.method_of (.bytes b t) (typeIs_bytes _ _ _) slot_split type_split KBd.noRef h
theorem m_strip (h : Q (.builtin "bytes.strip", [.bytes b t]) s) : wpAny M A (getMethod (.bytes b t) "strip" pl) Q E s := by
  with_reducible exact KBd.method_of (.bytes b t) (typeIs_bytes _ _ _) slot_strip type_strip KBd.noRef h
theorem m_rstrip (h : Q (.builtin "bytes.rstrip", [.bytes b t]) s) : wpAny M A (getMethod (.bytes b t) "rstrip" pl) Q E s := by
  with_reducible exact KBd.method_of (.bytes b t) (typeIs_bytes _ _ _) slot_rstrip type_rstrip KBd.noRef h
theorem m_join (h : Q (.builtin "bytes.join", [.bytes b t]) s) : wpAny M A (getMethod (.bytes b t) "join" pl) Q E s := by
  with_reducible exact KBd.method_of (.bytes b t) (typeIs_bytes _ _ _) slot_join type_join KBd.noRef h
end
end Mine
end
section
open PySem PySem.W PySem.Calls PyProof.Rows
set_option maxRecDepth 100000
namespace Mine
open Builtin
/-- what find gives, of bytes, a run of bytes, a window -/
noncomputable def findW (b c : Array UInt8) (lo hi : Option Int) : Option (Nat × Nat) :=
  if (Bytes.window b.size lo hi).2 - (Bytes.window b.size lo hi).1 < c.size then none else some ((Bytes.window b.size lo hi).1.toNat, (Bytes.window b.size lo hi).2.toNat)
noncomputable def findZ (b c : Array UInt8) (lo hi : Option Int) : Int :=
  match (findW b c lo hi).bind fun (lo, hi) => Bytes.find? b c lo hi with
  | some i => (i : Int)
  | none => -1
theorem search4 {b c : Array UInt8} {t u u1 u2 : Tok} {i j : Int} : Bytes.searchArgs .bytes "find" ⟨[.bytes b t, .bytes c u, .int i u1, .int j u2], []⟩ = pure (b, c, findW b c (some i) (some j)) := by
  unfold Bytes.searchArgs
  have e1 (x : String) : selfAndSome x "find" 1 3 ⟨[.bytes b t, .bytes c u, .int i u1, .int j u2], []⟩ = pure (.bytes b t, [.bytes c u, .int i u1, .int j u2]) := rfl
  simp only [e1, pure_bind, List.getElem?_cons_succ, List.getElem?_cons_zero, bound_int, List.headD_cons, KBy.buffer_eq]
  rfl
theorem search3 {b c : Array UInt8} {t u u1 : Tok} {i : Int} : Bytes.searchArgs .bytes "find" ⟨[.bytes b t, .bytes c u, .int i u1], []⟩ = pure (b, c, findW b c (some i) none) := by
  unfold Bytes.searchArgs
  have e1 (x : String) : selfAndSome x "find" 1 3 ⟨[.bytes b t, .bytes c u, .int i u1], []⟩ = pure (.bytes b t, [.bytes c u, .int i u1]) := rfl
  have e2 : Bytes.bound? none = pure none := rfl
  simp only [e1, e2, pure_bind, List.getElem?_cons_succ, List.getElem?_cons_zero, List.getElem?_nil, bound_int, List.headD_cons, KBy.buffer_eq]
  rfl
theorem meets_find {b c : Array UInt8} {args : Args} {lo hi : Option Int} (hs : Bytes.searchArgs .bytes "find" args = pure (b, c, findW b c lo hi)) :
    Meets («bytes.find» args) (fun _ R s => ∀ t' k, R (.ok (.ret (.int (findZ b c lo hi) t'))) { s with toks := k }) := by
  refine .of_wp fun prog w A R s h => ?_
  unfold «bytes.find» Bytes.searchM
  rw [hs]
  simp only [pure_bind, Bool.false_eq_true, if_false]
  have hz : findZ b c lo hi = match (findW b c lo hi).bind fun (lo, hi) => Bytes.find? b c lo hi with | some i => (i : Int) | none => -1 := rfl
  rw [hz] at h
  cases hf : ((findW b c lo hi).bind fun (lo, hi) => Bytes.find? b c lo hi) with
  | some k =>
    rw [hf] at h
    exact wpAny_bind (wpAny_bind (wpAny_fresh (wpAny_pure (wpAny_pure ⟨_, rfl, h _ _⟩))))
  | none =>
    rw [hf] at h
    exact wpAny_bind (wpAny_rule (wpAny_bind (wpAny_bind (wpAny_fresh (wpAny_pure (wpAny_pure ⟨_, rfl, h _ _⟩))))))
section
variable {prog : Program} {w : World} {A : Around} {E : Value → Shared → Prop} {s : Shared} {b c : Array UInt8} {t u u1 u2 : Tok} {i j : Int} {Q : Value → Shared → Prop}
theorem call_find4 (h : ∀ t' k, Q (.int (findZ b c (some i) (some j)) t') { s with toks := k }) : wpAny (model prog w) A (call (.builtin "bytes.find") [.bytes b t, .bytes c u, .int i u1, .int j u2]) Q E s :=
  call_meets slot_find (typeIs_bytes _ _ _) entry_find (args_find4 _ _ _ _) (meets_find search4) h
theorem call_find3 (h : ∀ t' k, Q (.int (findZ b c (some i) none) t') { s with toks := k }) : wpAny (model prog w) A (call (.builtin "bytes.find") [.bytes b t, .bytes c u, .int i u1]) Q E s :=
  call_meets slot_find (typeIs_bytes _ _ _) entry_find (args_find3 _ _ _) (meets_find search3) h
end
/-- strip and rstrip by a set of signs -/
noncomputable def stripZ (left : Bool) (b : Array UInt8) (c : Array UInt8) : List UInt8 :=
  let kept := if left then b.toList.dropWhile c.contains else b.toList
  (kept.reverse.dropWhile c.contains).reverse
theorem drop_same {α : Type} (f : α → Bool) (l : List α) (h : (l.dropWhile f).length = l.length) : l.dropWhile f = l :=
  (List.dropWhile_suffix f).eq_of_length h
theorem strip_same {left : Bool} {b c : Array UInt8} (h : (stripZ left b c).length = b.size) : (stripZ left b c).toArray = b := by
  have e : b.size = b.toList.length := by simp
  rw [e] at h
  have h2 : ((if left then b.toList.dropWhile c.contains else b.toList).reverse.dropWhile c.contains).length ≤ (if left then b.toList.dropWhile c.contains else b.toList).reverse.length := (List.dropWhile_suffix _).length_le
  have h3 : (if left then b.toList.dropWhile c.contains else b.toList).length ≤ b.toList.length := by
    split
    · exact (List.dropWhile_suffix _).length_le
    · exact Nat.le_refl _
  unfold stripZ at h ⊢
  simp only [List.length_reverse] at h h2
  have h4 : (if left then b.toList.dropWhile c.contains else b.toList) = b.toList := by
    split
    · refine drop_same _ _ ?_
      rename_i hl
      simp only [hl, if_true] at h h2 h3
      omega
    · rfl
  simp only [h4] at h h2 ⊢
  rw [drop_same _ _ (by simp only [List.length_reverse]; omega)]
  simp
theorem strip_len {left : Bool} {b c : Array UInt8} : (stripZ left b c).length ≤ b.size := by
  unfold stripZ
  have e : b.size = b.toList.length := by simp
  rw [e]
  simp only [List.length_reverse]
  refine Nat.le_trans (List.dropWhile_suffix _).length_le ?_
  simp only [List.length_reverse]
  split
  · exact (List.dropWhile_suffix _).length_le
  · exact Nat.le_refl _
theorem same_bytes {M : Model} {A : Around} {E : Value → Shared → Prop} {s : Shared} {b : Array UInt8} {t : Tok} {Q : Value → Shared → Prop} (h : Q (.bytes b t) s) : wpAny M A (Bytes.Kind.same .bytes (.bytes b t)) Q E s := by
  unfold Bytes.Kind.same
  refine wpAny_bind (wpAny_typeOf (typeIs_bytes s b t) ?_)
  exact wpAny_pure h
theorem meets_strip {b c : Array UInt8} {t u : Tok} (hz : b.size ≤ 16777216) : Meets («bytes.strip» ⟨[.bytes b t, .bytes c u], []⟩) (fun _ R s => ∀ t' k, R (.ok (.ret (.bytes (stripZ true b c).toArray t'))) { s with toks := k }) := by
  refine .of_wp fun prog w A R s h => ?_
  unfold «bytes.strip» Bytes.stripM
  have e1 (x : String) : selfAndSome x "strip" 0 1 ⟨[.bytes b t, .bytes c u], []⟩ = pure (.bytes b t, [.bytes c u]) := rfl
  have e2 : Bytes.payload (.bytes b t) = pure b := rfl
  simp only [e1, e2, pure_bind, KBd.like_eq, if_true]
  show wpAny _ _ (if ((stripZ true b c).length == b.size) = true then _ else _) _ _ s
  by_cases hl : (stripZ true b c).length = b.size
  · rw [if_pos (by simpa using hl)]
    refine wpAny_bind (wpAny_rule (wpAny_bind (same_bytes (wpAny_pure ⟨_, rfl, ?_⟩))))
    have := h t s.toks
    rw [strip_same hl] at this
    exact this
  · rw [if_neg (by simpa using hl)]
    refine wpAny_bind (wpAny_mkBytes (wpAny_pure ⟨_, rfl, h _ _⟩) ?_)
    have := strip_len (left := true) (b := b) (c := c)
    show (stripZ true b c).toArray.size ≤ sizeLine
    rw [sizeLine_eq, List.size_toArray]; omega
theorem meets_rstrip {b c : Array UInt8} {t u : Tok} (hz : b.size ≤ 16777216) : Meets («bytes.rstrip» ⟨[.bytes b t, .bytes c u], []⟩) (fun _ R s => ∀ t' k, R (.ok (.ret (.bytes (stripZ false b c).toArray t'))) { s with toks := k }) := by
  refine .of_wp fun prog w A R s h => ?_
  unfold «bytes.rstrip» Bytes.stripM
  have e1 (x : String) : selfAndSome x "rstrip" 0 1 ⟨[.bytes b t, .bytes c u], []⟩ = pure (.bytes b t, [.bytes c u]) := rfl
  have e2 : Bytes.payload (.bytes b t) = pure b := rfl
  simp only [e1, e2, pure_bind, KBd.like_eq, if_true]
  show wpAny _ _ (if ((stripZ false b c).length == b.size) = true then _ else _) _ _ s
  by_cases hl : (stripZ false b c).length = b.size
  · rw [if_pos (by simpa using hl)]
    refine wpAny_bind (wpAny_rule (wpAny_bind (same_bytes (wpAny_pure ⟨_, rfl, ?_⟩))))
    have := h t s.toks
    rw [strip_same hl] at this
    exact this
  · rw [if_neg (by simpa using hl)]
    refine wpAny_bind (wpAny_mkBytes (wpAny_pure ⟨_, rfl, h _ _⟩) ?_)
    have := strip_len (left := false) (b := b) (c := c)
    show (stripZ false b c).toArray.size ≤ sizeLine
    rw [sizeLine_eq, List.size_toArray]; omega
section
variable {prog : Program} {w : World} {A : Around} {E : Value → Shared → Prop} {s : Shared} {b c : Array UInt8} {t u : Tok} {Q : Value → Shared → Prop}
theorem call_strip (hz : b.size ≤ 16777216) (h : ∀ t' k, Q (.bytes (stripZ true b c).toArray t') { s with toks := k }) : wpAny (model prog w) A (call (.builtin "bytes.strip") [.bytes b t, .bytes c u]) Q E s :=
  call_meets slot_strip (typeIs_bytes _ _ _) entry_strip (args_strip2 _ _) (meets_strip hz) h
theorem call_rstrip (hz : b.size ≤ 16777216) (h : ∀ t' k, Q (.bytes (stripZ false b c).toArray t') { s with toks := k }) : wpAny (model prog w) A (call (.builtin "bytes.rstrip") [.bytes b t, .bytes c u]) Q E s :=
  call_meets slot_rstrip (typeIs_bytes _ _ _) entry_rstrip (args_rstrip2 _ _) (meets_rstrip hz) h
end
end Mine
end
section
open PySem PySem.W PyProof.Rows
set_option maxRecDepth 100000
namespace Mine
noncomputable abbrev H : Hook := kHook K Ks (fun _ => by kernel_rfl)
theorem pieceAt {p : Program} {N : Nat} {α : Type} {f : Shared → α} {r : α} {w : World} (hb : Option.map (fun s => (s.heap, s.gens, s.drawn, s.toks)) (fencedOpening treeTable p w N) = some (boot_heap w.params, ⟨[]⟩, boot_drawn, boot_toks))
    (h : ∀ os, (topFrom treeTable p w N ⟨boot_heap w.params, ⟨[]⟩, boot_drawn, boot_toks, os⟩).map f = some r) : (openEnds treeTable p w N).map f = some r := by
  obtain ⟨⟨hp, g, d, k, os⟩, h0, e0⟩ := Option.map_eq_some_iff.mp hb
  simp only [Prod.mk.injEq] at e0
  obtain ⟨rfl, rfl, rfl, rfl⟩ := e0
  unfold openEnds
  rw [h0]
  exact h os
theorem boot (w : World) : Option.map (fun s => (s.heap, s.gens, s.drawn, s.toks)) (fencedOpening treeTable pw w 5490) = some (boot_heap w.params, ⟨[]⟩, boot_drawn, boot_toks) :=
  boot_open (p := pw) (N := 5490) (by kernel_rfl) (by decide) (fun s => by kernel_rfl) w
/-- the top's run, its heap a tree -/
noncomputable def runT (ok : Thread → Bool) (stp : SharedT → Thread → Option (SharedT × Thread)) (n : Nat) : SharedT → Thread → Option SharedT :=
  @Nat.rec (fun _ => SharedT → Thread → Option SharedT) (fun _ _ => none)
    (fun _ ih s t => @Bool.rec (fun _ => Option SharedT) (@Bool.rec (fun _ => Option SharedT) none (@Option.rec (SharedT × Thread) (fun _ => Option SharedT) none (fun r => @Prod.rec SharedT Thread (fun _ => Option SharedT) ih r) (stp s t)) (ok t)) (some s) (through t)) n
theorem runT_spec {tb : String → Option Builtin} {p : Program} {w : World} {n₀ : Nat} {ann : Option Value} : ∀ {n : Nat} {s s' : SharedT} {t : Thread}, runT (stepOk n₀ ann) (stepT (denote tb) p w) n s t = some s' → topRun tb p w n₀ ann n s.abs t = some s'.abs
  | 0, _, _, _, h => by cases h
  | n + 1, s, s', t, h => by
    have h' : @Bool.rec (fun _ => Option SharedT) (@Bool.rec (fun _ => Option SharedT) none (@Option.rec (SharedT × Thread) (fun _ => Option SharedT) none (fun r => @Prod.rec SharedT Thread (fun _ => Option SharedT) (runT (stepOk n₀ ann) (stepT (denote tb) p w) n) r) (stepT (denote tb) p w s t)) (stepOk n₀ ann t)) (some s) (through t) = some s' := h
    unfold topRun
    cases ht : through t with
    | true => rw [ht] at h'; cases h'; rfl
    | false =>
      rw [ht] at h'
      cases hk : stepOk n₀ ann t with
      | false => rw [hk] at h'; cases h'
      | true =>
        rw [hk] at h'
        cases hs : stepT (denote tb) p w s t with
        | none => rw [hs] at h'; cases h'
        | some r =>
          obtain ⟨s₂, t₂⟩ := r
          rw [hs] at h'
          rw [stepT_spec hs]
          exact runT_spec h'
theorem top_tree {p : Program} {w : World} {N : Nat} {α : Type} {f : Shared → α} {r : α} {s₀ : Shared} (S : SharedT) (m0 : Nat) (ann : Option Value) (e : S.abs = s₀) (hz : (s₀.heap.isNs mainGlobals && s₀.gens.size == 0) = true) (hm : s₀.heap.objs.size = m0) (ha : s₀.heap.nsMap mainGlobals "__annotations__" = ann)
    (h : (runT (stepOk m0 ann) (stepT (denote treeTable) p w) N S (topStub p)).map (fun s => (staticsOk (importedModules p.main.body) s₀.heap s.abs.heap && namesBound p s.abs.heap && gensDone s.abs && laidKept s₀.heap s.abs.heap, f s.abs)) = some (true, r)) : (topFrom treeTable p w N s₀).map f = some r := by
  obtain ⟨s', h1, h2⟩ := Option.map_eq_some_iff.mp h
  obtain ⟨h3, h4⟩ := Prod.mk.inj h2
  have h5 := runT_spec h1
  rw [e] at h5
  unfold topFrom
  rw [hz, hm, ha, h5]
  show Option.map f (match (staticsOk (importedModules p.main.body) s₀.heap s'.abs.heap && namesBound p s'.abs.heap && gensDone s'.abs && laidKept s₀.heap s'.abs.heap) with | true => some s'.abs | false => none) = _
  rw [h3]
  exact congrArg some h4
noncomputable def bootTree (P : Params) : BT := ((((((((((BT.nil.ins 0 (boot_o_0 P)).ins 1 (boot_o_1 P)).ins 2 (boot_o_2 P)).ins 3 (boot_o_3 P)).ins 4 (boot_o_4 P)).ins 5 (boot_o_5 P)).ins 6 (boot_o_6 P)).ins 7 (boot_o_7 P)).ins 8 (boot_o_8 P)).ins 9 (boot_o_9 P)).ins 10 (boot_o_10 P)
theorem boot_abs (P : Params) : absHeap (bootTree P) 11 {} = boot_heap P := by kernel_rfl
set_option maxHeartbeats 0 in
theorem left : LeftO pw q loose (fun s => xlAt q [] s && recOk (RowW.records PySem.Challenge.rw_no0378_01.row.toRowW) s) (Hook.obs H) (Hook.val H) 5490 := fun w => by
  refine pieceAt (boot w) fun os => ?_
  refine top_tree ⟨bootTree w.params, 11, {}, ⟨[]⟩, boot_drawn, boot_toks, os⟩ 11 (some (.ref 6)) (by unfold SharedT.abs; rw [boot_abs]) (by kernel_rfl) (by kernel_rfl) (by kernel_rfl) ?_
  rw [PySem.W.Fast.te10156331382660048174, PySem.W.Fast.te11892475500146522536, PySem.W.Fast.te6613529449190102663, PySem.W.Fast.te4187177175401517315, PySem.W.Fast.te14364793385576792824]
  kernel_rfl
end Mine
end
section
open PySem PySem.W PySem.Calls PyProof.Rows
set_option maxRecDepth 100000
namespace Mine
noncomputable abbrev Led := List (Addr × Obj)
/-- what a call of the text's def at f comes to: it ends, and P holds of what it hands back and of the ledger behind it -/
noncomputable def Spec (w : World) (c : Nat) (f : Addr) (vs : List Value) (news : Led) (P : Value → Led → Prop) : Prop :=
  ∀ (dp un : Nat) (gd : Option (List Code)) (cn : Str) (cs : Scope) (a : Addr) (ccd : Value) (cl : List (Str × Addr)) (outer : List Env) (A₀ : Around) (base h₀ : Heap) (L : Addr) (m : Str → Option Value) (s : Shared) (Q E : Value → Shared → Prop)
    (p : Program) (loose : List Str) (mean : ExcName → Option Value) (mg mb : Str → Option Value),
    Below A₀ base outer h₀ → Fr h₀ L s.heap m → (K w.params).In h₀ → News h₀ L s.heap news → Top p loose mean mg mb h₀ → cs.kind = .function → dp + c < recursionLimit → un + 8 * c < cLine →
    (∀ v news' h' tk, P v news' → Fr h₀ L h' m → News h₀ L h' news' → Q v { s with heap := h', toks := tk }) →
    wpAny (model pw w) (ktrTop dp un gd cn cs L a ccd cl outer) (call (.ref f) vs) Q E s
noncomputable def RetV : Flow → Value
  | .ret v => v
  | _ => .none
noncomputable def Ret (g : Heap) (L : Addr) (s : Shared) (P : Value → Led → Prop) (fl : Flow) (s' : Shared) : Prop :=
  ∃ h' tk m' news', s' = { s with heap := h', toks := tk } ∧ Fr g L h' m' ∧ News g L h' news' ∧ P (RetV fl) news'
theorem Ret.intro {g : Heap} {L : Addr} {s : Shared} {P : Value → Led → Prop} {v : Value} {h' : Heap} {tk : Nat} {m' : Str → Option Value} {news' : Led} (F : Fr g L h' m') (N : News g L h' news') (p : P v news') :
    Ret g L s P (.ret v) { s with heap := h', toks := tk } := ⟨h', tk, m', news', rfl, F, N, p⟩
theorem Ret.drop {g : Heap} {L : Addr} {s : Shared} {P : Value → Led → Prop} {v : Value} {h' : Heap} {tk : Nat} {m' : Str → Option Value} {news' all : Led} (F : Fr g L h' m') (N : News g L h' all) (p : P v news') (hs : ∀ x ∈ news', x ∈ all) :
    Ret g L s P (.ret v) { s with heap := h', toks := tk } := ⟨h', tk, m', news', rfl, F, fun x hx => N x (hs x hx), p⟩
noncomputable def NoE : Value → Shared → Prop := fun _ _ => False
noncomputable def Body (w : World) (c : Nat) (f : Addr) (qual : Str) (scope : Scope) (cdv : Value) (body : List Stmt) (m : Str → Option Value) (news : Led) (P : Value → Led → Prop) : Prop :=
  ∀ (dp un : Nat) (gd : Option (List Code)) (outer : List Env) (A₀ : Around) (base g : Heap) (L : Addr) (h : Heap) (tk : Nat) (s : Shared) (p : Program) (loose : List Str) (mean : ExcName → Option Value) (mg mb : Str → Option Value),
    Below A₀ base outer g → Fr g L h m → (K w.params).In g → News g L h news → Top p loose mean mg mb g → dp + c < recursionLimit → un + 8 * c < cLine →
    wpAny (model pw w) (ktrTop dp un gd qual scope L f cdv [] outer) (execs body (envOf qual scope L f cdv)) (Ret g L s P) NoE { s with heap := h, toks := tk }
theorem spec_of {w : World} {c : Nat} {f : Addr} {vs : List Value} {news : Led} {P : Value → Led → Prop} {name qual : Str} {params : Arguments} {body : List Stmt} {scope : Scope} {dV kV doc pm cdv ct oc : Value} {an od : Option Addr} {osl : Array (Option Value)} {binds : List (Str × Value)}
    (ho : (K w.params).lookup f = some ⟨oc, od, .func (fnOf name qual params body scope dV kV doc pm an cdv ct), osl⟩) (hcd : codeIn (K w.params) cdv qual = true)
    (hbind : bindArgs (fnOf name qual params body scope dV kV doc pm an cdv ct) ⟨vs, []⟩ = pure binds) (hloc : (binds.all fun x => decide (scope.names.lookup x.1 = some .local)) = true)
    (hco : scope.isCoroutine = false) (hgen : scope.isGenerator = false) (hk : scope.kind = .function) (hcell : ∀ x ∈ scope.names, x.2 ≠ .cell)
    (h : Body w c f qual scope cdv body (fun y => binds.reverse.lookup y) news P) : Spec w (c + 1) f vs news P := by
  intro dp un gd cn cs a ccd cl outer A₀ base h₀ L m s Q E p loose mean mg mb B F X N T hkc hd hu hret
  refine wpAny_call ?_
  refine code_def (env := envX cn cs L a ccd cl) B F X N T rfl rfl hkc ho hcd (by show dp < recursionLimit; omega) (BindsTo.of_eq hbind) (locs hloc) (fun g L' h₁ FG F' N' B' X' T' => ?_) hco hgen hk hcell
  have key := h (dp + 1) (un + 3) gd (envX cn cs L a ccd cl :: outer) _ base g L' h₁ (s.toks + binds.length) s p loose mean mg mb B' F' X' N' T' (by omega) (by omega)
  refine wpAny_mono key (fun fl s' hr => ?_) (fun _ _ x => x.elim)
  obtain ⟨h', tk, m', news', rfl, F'', N'', hp⟩ := hr
  refine leaveK_ F'' N'' fun F3 N3 => ?_
  cases fl with
  | ret v => exact hret _ _ _ _ hp F3 N3
  | next => exact hret _ _ _ _ hp F3 N3
  | brk => exact hret _ _ _ _ hp F3 N3
  | cont => exact hret _ _ _ _ hp F3 N3
theorem Spec.use {w : World} {c : Nat} {f : Addr} {vs : List Value} {news : Led} {P : Value → Led → Prop} (sp : Spec w c f vs news P) {dp un : Nat} {gd : Option (List Code)} {cn : Str} {cs : Scope} {a : Addr} {ccd : Value} {cl : List (Str × Addr)} {outer : List Env} {A₀ : Around} {base h₀ : Heap} {L : Addr} {m : Str → Option Value} {s : Shared} {Q E : Value → Shared → Prop}
    {p : Program} {loose : List Str} {mean : ExcName → Option Value} {mg mb : Str → Option Value}
    (B : Below A₀ base outer h₀) (F : Fr h₀ L s.heap m) (X : (K w.params).In h₀) (N : News h₀ L s.heap news) (T : Top p loose mean mg mb h₀) (hk : cs.kind = .function) (hd : dp + c < recursionLimit) (hu : un + 8 * c < cLine)
    (hret : ∀ v news' h' tk, P v news' → Fr h₀ L h' m → News h₀ L h' news' → Q v { s with heap := h', toks := tk }) :
    wpAny (model pw w) (ktrTop dp un gd cn cs L a ccd cl outer) (call (.ref f) vs) Q E s := sp _ _ _ _ _ _ _ _ _ _ _ _ _ _ _ _ _ _ _ _ _ _ B F X N T hk hd hu hret
section
variable {prog : Program} {w : World} {A : Around} {E : Value → Shared → Prop} {s : Shared} {h₀ : Heap} {L l : Addr} {m : Str → Option Value} {news : Led}
/-- an item of a made list, at a place that is known -/
theorem my_item {value slice : PySem.Expr} {its : List Value} {n : Nat} {k : Int} {u : Tok} {v : Value} {Q : Value → Shared → Prop} (N : News h₀ L s.heap news) (hm : (l, listOf its.toArray n) ∈ news)
    (h0 : 0 ≤ k) (hhi : k < 2 ^ 63) (hx : its[k.toNat]? = some v) (h : Q v s)
    (hs : subscripted slice false (.ref l) (.int k u) = operate [.ref l, .int k u] (getItem (.ref l) (.int k u)) := by with_unfolding_all rfl) :
    wpAny (model prog w) A (subscriptTail value slice (.ref l) (.int k u)) Q E s :=
  have hl : s.heap.IsList l its.toArray := ⟨_, (N _ hm).1, rfl, n, rfl⟩
  tail_any hl.typeIs slot_list_getitem.lookup (wpAny_getItem_list hl h0 hhi (by simpa using hx) h) hs
theorem my_set {its : List Value} {n : Nat} {k : Int} {t : Tok} {v : Value} {g : Obj → Led} {Q : Unit → Shared → Prop} (F : Fr h₀ L s.heap m) (N : News h₀ L s.heap news) (U : UpdF l (listOf its.toArray n) news g)
    (hb : (decide (0 ≤ k) && decide (k < 2 ^ 63) && decide (k < its.length)) = true) (h : ∀ h', Fr h₀ L h' m → News h₀ L h' (g (listOf (its.set k.toNat v).toArray n)) → Q () { s with heap := h' }) :
    wpAny (model prog w) A (setItem (.ref l) (.int k t) v) Q E s := by
  simp only [Bool.and_eq_true, decide_eq_true_eq] at hb
  obtain ⟨⟨h0, hfit⟩, hn⟩ := hb
  obtain ⟨pre, post, rfl, hg, a, b⟩ := U.split
  have z := N (l, listOf its.toArray n) (List.mem_append.mpr (.inr (.head _)))
  refine ki_setAt z.1 h0 hfit (by simpa using hn) (h _ (F.change (Heap.SameBut.update ..) z.2.1 z.2.2) (hg _ ▸ ki_turn _ N a b ?_ ?_))
  · apply Array.toList_inj.mp
    simp
  · simp
end
theorem updF_mem {d : Addr} {o : Obj} {news : Led} {g : Obj → Led} (U : UpdF d o news g) : (d, o) ∈ news := by
  obtain ⟨pre, post, rfl, _, _, _⟩ := U.split
  exact List.mem_append.mpr (.inr (.head _))
theorem updF_mem2 {d : Addr} {o o' : Obj} {news : Led} {g : Obj → Led} (U : UpdF d o news g) : (d, o') ∈ g o' := by
  obtain ⟨pre, post, rfl, hg, _, _⟩ := U.split
  rw [hg]; exact List.mem_append.mpr (.inr (.head _))
theorem updF_other {d c : Addr} {o o' oc : Obj} {news : Led} {g : Obj → Led} (U : UpdF d o news g) (hm : (c, oc) ∈ news) (hne : c ≠ d) : (c, oc) ∈ g o' := by
  obtain ⟨pre, post, rfl, hg, _, _⟩ := U.split
  rw [hg]
  rcases List.mem_append.mp hm with h | h
  · exact List.mem_append.mpr (.inl h)
  · rcases List.mem_cons.mp h with h | h
    · exact absurd (congrArg Prod.fst h) hne
    · exact List.mem_append.mpr (.inr (.tail _ h))
end Mine
end
section
open PySem PySem.W PySem.Calls PyProof.Rows
set_option maxRecDepth 100000
namespace Mine
noncomputable def BodyC (w : World) (c : Nat) (f : Addr) (qual : Str) (scope : Scope) (cdv : Value) (body : List Stmt) (m cm : Str → Option Value) (news : Led) (P : Value → Led → Prop) : Prop :=
  ∀ (dp un : Nat) (gd : Option (List Code)) (outer : List Env) (A₀ : Around) (base g : Heap) (L : Addr) (h : Heap) (tk : Nat) (cells : Led) (s : Shared) (p : Program) (loose : List Str) (mean : ExcName → Option Value) (mg mb : Str → Option Value),
    Below A₀ base outer g → Fr g L h m → (K w.params).In g → News g L h (cells ++ news) → CellsAre cm (cellsFrom (L + 1) scope.names []) cells → (∀ p ∈ news, p.1 < L) → Top p loose mean mg mb g → dp + c < recursionLimit → un + 8 * c < cLine →
    wpAny (model pw w) (ktrTop dp un gd qual scope L f cdv (cellsFrom (L + 1) scope.names []) outer) (execs body (envOfC qual scope L f cdv)) (Ret g L s P) NoE { s with heap := h, toks := tk }
end Mine
end
section
open PySem PySem.W PySem.Calls PyProof.Rows
set_option maxRecDepth 100000
namespace Mine
/-- a call that changes nothing that stood before it -/
noncomputable def SpecR (w : World) (c : Nat) (f : Addr) (vs : List Value) (pre : Heap → Prop) (P : Value → Led → Prop) : Prop :=
  ∀ (dp un : Nat) (gd : Option (List Code)) (cn : Str) (cs : Scope) (a : Addr) (ccd : Value) (cl : List (Str × Addr)) (outer : List Env) (A₀ : Around) (base h₀ : Heap) (L : Addr) (m : Str → Option Value) (news : Led) (s : Shared) (Q E : Value → Shared → Prop)
    (p : Program) (loose : List Str) (mean : ExcName → Option Value) (mg mb : Str → Option Value),
    Below A₀ base outer h₀ → Fr h₀ L s.heap m → (K w.params).In h₀ → News h₀ L s.heap news → Top p loose mean mg mb h₀ → cs.kind = .function → dp + c < recursionLimit → un + 8 * c < cLine → pre s.heap →
    (∀ v tl h' tk, P v tl → Fr h₀ L h' m → News h₀ L h' (tl ++ news) → (∀ p ∈ tl, ∀ q ∈ news, q.1 ≠ p.1) → Q v { s with heap := h', toks := tk }) →
    wpAny (model pw w) (ktrTop dp un gd cn cs L a ccd cl outer) (call (.ref f) vs) Q E s
noncomputable def BodyR (w : World) (c : Nat) (f : Addr) (qual : Str) (scope : Scope) (cdv : Value) (body : List Stmt) (m : Str → Option Value) (pre : Heap → Prop) (P : Value → Led → Prop) : Prop :=
  ∀ (dp un : Nat) (gd : Option (List Code)) (outer : List Env) (A₀ : Around) (base g : Heap) (L : Addr) (h : Heap) (tk : Nat) (s : Shared) (p : Program) (loose : List Str) (mean : ExcName → Option Value) (mg mb : Str → Option Value),
    Below A₀ base outer g → Fr g L h m → (K w.params).In g → News g L h [] → Top p loose mean mg mb g → dp + c < recursionLimit → un + 8 * c < cLine → pre g →
    wpAny (model pw w) (ktrTop dp un gd qual scope L f cdv [] outer) (execs body (envOf qual scope L f cdv)) (Ret g L s P) NoE { s with heap := h, toks := tk }
noncomputable def BodyRC (w : World) (c : Nat) (f : Addr) (qual : Str) (scope : Scope) (cdv : Value) (body : List Stmt) (m cm : Str → Option Value) (pre : Heap → Prop) (P : Value → Led → Prop) : Prop :=
  ∀ (dp un : Nat) (gd : Option (List Code)) (outer : List Env) (A₀ : Around) (base g : Heap) (L : Addr) (h : Heap) (tk : Nat) (cells : Led) (s : Shared) (p : Program) (loose : List Str) (mean : ExcName → Option Value) (mg mb : Str → Option Value),
    Below A₀ base outer g → Fr g L h m → (K w.params).In g → News g L h cells → CellsAre cm (cellsFrom (L + 1) scope.names []) cells → Top p loose mean mg mb g → dp + c < recursionLimit → un + 8 * c < cLine → pre g →
    wpAny (model pw w) (ktrTop dp un gd qual scope L f cdv (cellsFrom (L + 1) scope.names []) outer) (execs body (envOfC qual scope L f cdv)) (Ret g L s P) NoE { s with heap := h, toks := tk }
theorem ret_back {h₀ g : Heap} {L L' : Addr} {m m' : Str → Option Value} {h' : Heap} {news tl : Led} (F : Fr h₀ L g m) (N : News h₀ L g news) (F' : Fr g L' h' m') (N' : News g L' h' tl) :
    Fr h₀ L h' m ∧ News h₀ L h' (tl ++ news) ∧ ∀ p ∈ tl, ∀ q ∈ news, q.1 ≠ p.1 := by
  refine ⟨F.keeps F'.keep, fun p hp => ?_, fun p hp q hq e => ?_⟩
  · rcases List.mem_append.mp hp with h | h
    · refine ⟨(N' p h).1, fun e => ?_, ?_⟩
      · obtain ⟨oL, _, _, hL, _⟩ := F.ns
        have := (N' p h).2.2
        rw [e, hL] at this; cases this
      · cases q : h₀.get? p.1 with
        | none => rfl
        | some o => have := (N' p h).2.2; rw [F.keep _ _ q] at this; cases this
    · exact ⟨F'.keep _ _ (N p h).1, (N p h).2⟩
  · have h1 := (N q hq).1
    have h2 := (N' p hp).2.2
    rw [e, h2] at h1; cases h1
theorem spec_ro {w : World} {c : Nat} {f : Addr} {vs : List Value} {pre : Heap → Prop} {P : Value → Led → Prop} {name qual : Str} {params : Arguments} {body : List Stmt} {scope : Scope} {dV kV doc pm cdv ct oc : Value} {an od : Option Addr} {osl : Array (Option Value)} {binds : List (Str × Value)}
    (ho : (K w.params).lookup f = some ⟨oc, od, .func (fnOf name qual params body scope dV kV doc pm an cdv ct), osl⟩) (hcd : codeIn (K w.params) cdv qual = true)
    (hbind : ∀ s : Shared, (K w.params).In s.heap → BindsTo s (fnOf name qual params body scope dV kV doc pm an cdv ct) ⟨vs, []⟩ binds) (hloc : (binds.all fun x => decide (scope.names.lookup x.1 = some .local)) = true)
    (hco : scope.isCoroutine = false) (hgen : scope.isGenerator = false) (hk : scope.kind = .function) (hcell : ∀ x ∈ scope.names, x.2 ≠ .cell)
    (h : BodyR w c f qual scope cdv body (fun y => binds.reverse.lookup y) pre P) : SpecR w (c + 1) f vs pre P := by
  intro dp un gd cn cs a ccd cl outer A₀ base h₀ L m news s Q E p loose mean mg mb B F X N T hkc hd hu hpre hret
  refine wpAny_call ?_
  have Xs := X.keeps F.keep
  refine codeAny_call_def (fd := fnOf name qual params body scope dV kV doc pm an cdv ct) (body := body) (binds := binds) (by show dp < recursionLimit; omega) (Xs _ _ ho) rfl ((T.keeps F.keep).nolimit) (codeRec_of Xs hcd) rfl (hbind s Xs) hcell (locs hloc) (fun h₁ hns hk₁ => ?_) hco hgen hk
  have B' := pushX (env := envX cn cs L a ccd cl) B F rfl hkc
  have key := h (dp + 1) (un + 3) gd (envX cn cs L a ccd cl :: outer) _ base s.heap s.heap.objs.size h₁ (s.toks + binds.length) s p loose mean mg mb B' ⟨hns, hk₁, Nat.le_refl _⟩ Xs News.nil (T.keeps F.keep) (by omega) (by omega) hpre
  refine wpAny_mono key (fun fl s' hr => ?_) (fun _ _ x => x.elim)
  obtain ⟨h', tk, m', tl, rfl, F'', N'', hp⟩ := hr
  obtain ⟨F3, N3, hne⟩ := ret_back F N F'' N''
  cases fl with
  | ret v => exact hret _ _ _ _ hp F3 N3 hne
  | next => exact hret _ _ _ _ hp F3 N3 hne
  | brk => exact hret _ _ _ _ hp F3 N3 hne
  | cont => exact hret _ _ _ _ hp F3 N3 hne
theorem spec_roC {w : World} {c : Nat} {f : Addr} {vs : List Value} {pre : Heap → Prop} {P : Value → Led → Prop} {name qual : Str} {params : Arguments} {body : List Stmt} {scope : Scope} {dV kV doc pm cdv ct oc : Value} {an od : Option Addr} {osl : Array (Option Value)} {binds : List (Str × Value)} {m cm : Str → Option Value}
    (ho : (K w.params).lookup f = some ⟨oc, od, .func (fnOf name qual params body scope dV kV doc pm an cdv ct), osl⟩) (hcd : codeIn (K w.params) cdv qual = true)
    (hbind : bindArgs (fnOf name qual params body scope dV kV doc pm an cdv ct) ⟨vs, []⟩ = pure binds) (hkind : (binds.all fun y => scope.names.lookup y.1 == some .local || scope.names.lookup y.1 == some .cell) = true)
    (hnd : ((cellsFrom 0 scope.names []).map (·.1)).Nodup)
    (hco : scope.isCoroutine = false) (hgen : scope.isGenerator = false) (hk : scope.kind = .function) (hm : ∀ L, bindL (envOfC qual scope L f cdv).kindOf binds (fun _ => none) = m) (hcm : ∀ L, bindC (envOfC qual scope L f cdv).kindOf binds (fun _ => none) = cm)
    (h : BodyRC w c f qual scope cdv body m cm pre P) : SpecR w (c + 1) f vs pre P := by
  intro dp un gd cn cs a ccd cl outer A₀ base h₀ L m₀ news s Q E p loose mean mg mb B F X N T hkc hd hu hpre hret
  refine wpAny_call ?_
  have Xs := X.keeps F.keep
  refine codeAny_call_function (by show dp < recursionLimit; omega) (Xs _ _ ho) rfl hco hgen rfl (codeRec_of Xs hcd) (BindsTo.of_eq hbind _ _ _ _ ?_)
  refine wpAny_newFunctionEnv_cells hk (kindsX hkind _) fun env' he s' x => ?_
  subst he
  refine ⟨((T.keeps F.keep).nolimit).keeps x.toInCall.keep, codeAny_func ?_⟩
  obtain ⟨h₁, tk, rfl, _⟩ := x.done
  have hk₁ := x.toInCall.keep
  obtain ⟨cells, NC, Y⟩ := Cl.news (h₀ := s.heap) (Nat.le_refl _) fun n c hm => ⟨x.cell n c (lookup_of_mem_nodup (cellsFrom_names scope.names 0 (s.heap.objs.size + 1) [] [] rfl ▸ hnd) hm), x.above n c hm⟩
  have B' := pushX (env := envX cn cs L a ccd cl) B F rfl hkc
  have F0 : Fr s.heap s.heap.objs.size h₁ (bindL (envOfC qual scope s.heap.objs.size f cdv).kindOf binds fun _ => none) := ⟨x.toInCall.ns, hk₁, Nat.le_refl _⟩
  rw [hm] at F0
  have Y0 : CellsAre (bindC (envOfC qual scope s.heap.objs.size f cdv).kindOf binds fun _ => none) (cellsFrom (s.heap.objs.size + 1) scope.names []) cells := Y
  rw [hcm] at Y0
  have key := h (dp + 1) (un + 3) gd (envX cn cs L a ccd cl :: outer) _ base s.heap s.heap.objs.size h₁ tk cells s p loose mean mg mb B' F0 Xs NC Y0 (T.keeps F.keep) (by omega) (by omega) hpre
  refine wpAny_mono key (fun fl s' hr => ?_) (fun _ _ x => x.elim)
  obtain ⟨h', tk, m', tl, rfl, F'', N'', hp⟩ := hr
  obtain ⟨F3, N3, hne⟩ := ret_back F N F'' N''
  cases fl with
  | ret v => exact hret _ _ _ _ hp F3 N3 hne
  | next => exact hret _ _ _ _ hp F3 N3 hne
  | brk => exact hret _ _ _ _ hp F3 N3 hne
  | cont => exact hret _ _ _ _ hp F3 N3 hne
theorem SpecR.use {w : World} {c : Nat} {f : Addr} {vs : List Value} {pre : Heap → Prop} {P : Value → Led → Prop} (sp : SpecR w c f vs pre P) {dp un : Nat} {gd : Option (List Code)} {cn : Str} {cs : Scope} {a : Addr} {ccd : Value} {cl : List (Str × Addr)} {outer : List Env} {A₀ : Around} {base h₀ : Heap} {L : Addr} {m : Str → Option Value} {news : Led} {s : Shared} {Q E : Value → Shared → Prop}
    {p : Program} {loose : List Str} {mean : ExcName → Option Value} {mg mb : Str → Option Value}
    (B : Below A₀ base outer h₀) (F : Fr h₀ L s.heap m) (X : (K w.params).In h₀) (N : News h₀ L s.heap news) (T : Top p loose mean mg mb h₀) (hk : cs.kind = .function) (hd : dp + c < recursionLimit) (hu : un + 8 * c < cLine) (hpre : pre s.heap)
    (hret : ∀ v tl h' tk, P v tl → Fr h₀ L h' m → News h₀ L h' (tl ++ news) → (∀ p ∈ tl, ∀ q ∈ news, q.1 ≠ p.1) → Q v { s with heap := h', toks := tk }) :
    wpAny (model pw w) (ktrTop dp un gd cn cs L a ccd cl outer) (call (.ref f) vs) Q E s := sp _ _ _ _ _ _ _ _ _ _ _ _ _ _ _ _ _ _ _ _ _ _ _ B F X N T hk hd hu hpre hret
theorem Ret.nextI {g : Heap} {L : Addr} {s : Shared} {P : Value → Led → Prop} {h' : Heap} {tk : Nat} {m' : Str → Option Value} {news' : Led} (F : Fr g L h' m') (N : News g L h' news') (p : P .none news') :
    Ret g L s P .next { s with heap := h', toks := tk } := ⟨h', tk, m', news', rfl, F, N, p⟩
theorem news_ne {h₀ h : Heap} {L : Addr} {news : Led} (N : News h₀ L h news) {a b : Addr} {o o' : Obj} (h1 : (a, o) ∈ news) (h2 : (b, o') ∈ news) (hc : o.cls ≠ o'.cls) : a ≠ b := fun e => by
  subst e
  have := (N _ h1).1.symm.trans (N _ h2).1
  exact hc (congrArg Obj.cls (Option.some.inj this))
theorem binds_eq {w : World} {fd : FuncData} {args : Args} {binds : List (Str × Value)} (h : bindArgs fd args = pure binds) : ∀ s : Shared, (K w.params).In s.heap → BindsTo s fd args binds := fun _ _ => BindsTo.of_eq h
end Mine
end
section
open PySem PySem.W PySem.Calls PyProof.Rows
set_option maxRecDepth 100000
namespace Mine
noncomputable abbrev lawB {nm : Str} {p : Arguments} {b : List Stmt} {d : List Expr} {r : Option Expr} {tp : List TypeParam} {s : Scope} {ts : Option Scope} {bd : Str} {pos : Pos} (_h : pw.main.body[61]? = some (.FunctionDef nm p b d r tp s ts bd pos)) : List Stmt := b
noncomputable abbrev lawScp {nm : Str} {p : Arguments} {b : List Stmt} {d : List Expr} {r : Option Expr} {tp : List TypeParam} {s : Scope} {ts : Option Scope} {bd : Str} {pos : Pos} (_h : pw.main.body[61]? = some (.FunctionDef nm p b d r tp s ts bd pos)) : Scope := s
noncomputable def lawBody : List Stmt := lawB rfl
noncomputable abbrev lawSc : Scope := lawScp rfl
noncomputable abbrev lawQ : Str := Str.ofString "law"
noncomputable def lawSeg (i n : Nat) : List Stmt := (lawBody.drop i).take n
noncomputable def SegPost (g : Heap) (L : Addr) (s : Shared) (Post : (Str → Option Value) → Led → Prop) (fl : Flow) (s' : Shared) : Prop :=
  ∃ h' tk m' news', fl = .next ∧ s' = { s with heap := h', toks := tk } ∧ Fr g L h' m' ∧ News g L h' news' ∧ Post m' news'
theorem SegPost.intro {g : Heap} {L : Addr} {s : Shared} {Post : (Str → Option Value) → Led → Prop} {h' : Heap} {tk : Nat} {m' : Str → Option Value} {news' all : Led} (F : Fr g L h' m') (N : News g L h' all) (hs : ∀ x ∈ news', x ∈ all) (p : Post m' news') :
    SegPost g L s Post .next { s with heap := h', toks := tk } := ⟨h', tk, m', news', rfl, rfl, F, fun x hx => N x (hs x hx), p⟩
noncomputable abbrev SegP := Heap → Addr → (Str → Option Value) → Led → Prop
noncomputable def SegC (w : World) (c : Nat) (ss : List Stmt) (Pre : SegP) (QQ : Heap → Addr → Shared → Flow → Shared → Prop) : Prop :=
  ∀ (fa : Addr) (cdv : Value) (dp un : Nat) (gd : Option (List Code)) (outer : List Env) (A₀ : Around) (base g : Heap) (L : Addr) (h : Heap) (tk : Nat) (s : Shared) (p : Program) (loose : List Str) (mean : ExcName → Option Value) (mg mb : Str → Option Value) (m : Str → Option Value) (news : Led),
    Below A₀ base outer g → Fr g L h m → (K w.params).In g → News g L h news → Top p loose mean mg mb g → dp + c < recursionLimit → un + 8 * c < cLine → Pre g L m news →
    wpAny (model pw w) (ktrTop dp un gd lawQ lawSc L fa cdv (cellsFrom (L + 1) lawSc.names []) outer) (execs ss (envOfC lawQ lawSc L fa cdv)) (QQ g L s) NoE { s with heap := h, toks := tk }
noncomputable def Seg (w : World) (c i n : Nat) (Pre Post : SegP) : Prop := SegC w c (lawSeg i n) Pre fun g L s => SegPost g L s (Post g L)
theorem execs_app {env : Env} (b : List Stmt) : ∀ a : List Stmt, execs (a ++ b) env = (execs a env >>= fun fl => match fl with | .next => execs b env | f => pure f)
  | [] => by
    show execs b env = (pure Flow.next >>= _)
    rw [pure_bind]
  | x :: r => by
    rw [List.cons_append, execs_cons, execs_cons, bind_assoc]
    congr 1
    funext fl
    cases fl with
    | next => exact execs_app b r
    | ret v => rw [pure_bind]
    | brk => rw [pure_bind]
    | cont => rw [pure_bind]
theorem wp_append {M : Model} {A : Around} {E : Value → Shared → Prop} {Q : Flow → Shared → Prop} {env : Env} {a b : List Stmt} {s : Shared} (h : wpAny M A (execs a env) (fun fl s' => match fl with | .next => wpAny M A (execs b env) Q E s' | f => Q f s') E s) : wpAny M A (execs (a ++ b) env) Q E s := by
  rw [execs_app]
  refine wpAny_bind (wpAny_mono h (fun fl s' hq => ?_) fun _ _ e => e)
  cases fl with
  | next => exact hq
  | ret v => exact wpAny_pure hq
  | brk => exact wpAny_pure hq
  | cont => exact wpAny_pure hq
theorem seg_app (i n k : Nat) : lawSeg i (n + k) = lawSeg i n ++ lawSeg (i + n) k := by
  unfold lawSeg
  rw [List.take_add, List.drop_drop]
theorem Seg.thenC {w : World} {c i n : Nat} {P M : SegP} {ss : List Stmt} {QQ : Heap → Addr → Shared → Flow → Shared → Prop} (hs : ∀ g L s h tk, QQ g L { s with heap := h, toks := tk } = QQ g L s) (h1 : Seg w c i n P M) (h2 : SegC w c ss M QQ) : SegC w c (lawSeg i n ++ ss) P QQ := by
  intro fa cdv dp un gd outer A₀ base g L h tk s p loose mean mg mb m news B F X N T hd hu hp
  refine wp_append (wpAny_mono (h1 fa cdv dp un gd outer A₀ base g L h tk s p loose mean mg mb m news B F X N T hd hu hp) (fun fl s' hq => ?_) fun _ _ e => e)
  obtain ⟨h', tk', m', news', rfl, rfl, F', N', hp'⟩ := hq
  exact h2 fa cdv dp un gd outer A₀ base g L h' tk' s p loose mean mg mb m' news' B F' X N' T hd hu hp'
theorem Seg.then {w : World} {c i n k : Nat} {P M R : SegP} (h1 : Seg w c i n P M) (h2 : Seg w c (i + n) k M R) : Seg w c i (n + k) P R := by
  unfold Seg
  rw [seg_app]
  exact Seg.thenC (fun _ _ _ _ _ => rfl) h1 h2
theorem seg_one {w : World} {c : Nat} {i n : Nat} {ss : List Stmt} {Pre : SegP} {QQ : Heap → Addr → Shared → Flow → Shared → Prop} (e : lawSeg i n = ss) (h : SegC w c ss Pre QQ) : SegC w c (lawSeg i n) Pre QQ := e ▸ h
end Mine
end
section
open PySem PySem.W PySem.Calls PyProof.Rows
set_option maxRecDepth 100000
namespace Mine
noncomputable def Stop (P : Prop) : Prop := P
theorem stop {P : Prop} (h : Stop P) : P := h
theorem Stop.go {P : Prop} (h : P) : Stop P := h
/-- an iterable: its iterator's whole state lies in the iterator -/
noncomputable def Src (prog : Program) (w : World) (xv : Value) (n : Nat) (P : Nat → Value → Prop) (s : Shared) : Prop :=
  ∀ (A : Around) (E : Value → Shared → Prop) (Q : Value → Shared → Prop), A.handled = none →
    (∀ (o : Obj) (St : Nat → Heap → Prop), Walks prog w A s.heap.objs.size [s.heap.objs.size] [s.heap.objs.size] n P St → St 0 (s.heap.push o) →
      (∀ i h, St i h → ∃ o, h.get? s.heap.objs.size = some o) → (∀ i h h' o, St i h → h.get? s.heap.objs.size = some o → h'.get? s.heap.objs.size = some o → St i h') →
      Q (.ref s.heap.objs.size) { s with heap := s.heap.push o }) → wpAny (model prog w) A (pyIter xv) Q E s
theorem src_str {prog : Program} {w : World} {s : Shared} {x : Str} {t : Tok} : Src prog w (.str x t) x.cps.size (SignAt x) s := by
  intro A E Q hh hQ
  cases ha : x.cps.all (· < 128)
  · exact wpAny_pyIter_wide ha (hQ _ _ (Walks.strWide hh _ x t) ⟨_, Heap.get?_push_size _ rfl, rfl, rfl⟩ (fun i h st => let ⟨o, e, _⟩ := st; ⟨o, e⟩)
      (fun i h h' o st e e' => by obtain ⟨o', q, r⟩ := st; rw [e] at q; cases q; exact ⟨o, e', r⟩))
  · exact wpAny_pyIter_ascii ha (hQ _ _ (Walks.strAscii hh _ x t) ⟨_, Heap.get?_push_size _ rfl, rfl, rfl⟩ (fun i h st => let ⟨o, e, _⟩ := st; ⟨o, e⟩)
      (fun i h h' o st e e' => by obtain ⟨o', q, r⟩ := st; rw [e] at q; cases q; exact ⟨o, e', r⟩))
theorem src_bytes {prog : Program} {w : World} {s : Shared} {b : Array UInt8} {t : Tok} : Src prog w (.bytes b t) b.size (fun i v => ∃ c u, b[i]? = some c ∧ v = .int (c.toNat : Int) u) s := by
  intro A E Q hh hQ
  exact KBw.pyIter_bytes (hQ _ _ (KBw.walks hh _ b t) ⟨_, Heap.get?_push_size _ rfl, rfl, rfl⟩ (fun i h st => let ⟨o, e, _⟩ := st; ⟨o, e⟩)
      (fun i h h' o st e e' => by obtain ⟨o', q, r⟩ := st; rw [e] at q; cases q; exact ⟨o, e', r⟩))
theorem src_range {prog : Program} {w : World} {s : Shared} {r : Addr} {a b c : Int} {t u v : Tok} {n : Nat} (hr : IsRange s.heap r a b c t u v) (hsm : Builtin.Range.small a b c = true) (hn : Builtin.Range.rangeSize a b c = ((n : Nat) : Int)) :
    Src prog w (.ref r) n (fun i v => ∃ t, v = .int (a + (i : Int) * c) t) s := by
  intro A E Q hh hQ
  refine wpAny_pyIter_range hr hsm (hQ _ _ (Walks.range hh _ a c n) ?_ (fun i h st => ⟨_, st⟩) (fun i h h' o st e e' => ?_))
  · show IsRangeIter _ _ _ _ _
    rw [hn]
    simpa using Heap.get?_push_size _ rfl
  · have st' : h.get? _ = some _ := st
    rw [e] at st'
    cases st'
    exact e'
section
variable {prog : Program} {w : World} {A : Around} {E : Value → Shared → Prop} {s : Shared} {h₀ : Heap} {L : Addr} {m : Str → Option Value} {env : Env}
noncomputable def EltPost (h₀ : Heap) (L : Addr) (m : Str → Option Value) (s : Shared) (R : Value → Led → Prop) (pre : Led) (y : Value) (s' : Shared) : Prop :=
  ∃ h' tk' nw', s' = { s with heap := h', toks := tk' } ∧ Fr h₀ L h' m ∧ News h₀ L h' (pre ++ nw') ∧ R y nw'
theorem EltPost.intro {R : Value → Led → Prop} {pre nw' all : Led} {y : Value} {h' : Heap} {tk' : Nat} (F : Fr h₀ L h' m) (N : News h₀ L h' all) (hs : ∀ p ∈ pre ++ nw', p ∈ all) (r : R y nw') : EltPost h₀ L m s R pre y { s with heap := h', toks := tk' } := ⟨h', tk', nw', rfl, F, fun p hp => N p (hs p hp), r⟩
/-- what one element's turn must show -/
noncomputable def Elt (prog : Program) (w : World) (A : Around) (h₀ : Heap) (L : Addr) (m : Str → Option Value) (env : Env) (elt : Expr) (x : Str) (scope : Scope) (cl : List (Str × Addr)) (s : Shared) (Inv : Nat → List Value → Led → Prop) (P : Nat → Value → Prop) (n : Nat) : Prop :=
  ∀ (i : Nat) (v : Value) (I : Addr) (oI : Obj) (C : Addr) (oC : Obj) (D : Addr) (m₂ : Str → Option Value) (ys : List Value) (nw : Led) (h : Heap) (tk : Nat), i < n → P i v → Inv i ys nw → LCg.NsObj oC m₂ → m₂ x = some v → Fr h₀ L h m →
    News h₀ L h ((I, oI) :: (C, oC) :: (D, LCg.lst ys) :: nw) → LCg.Off3 I C D nw → ((@Ne Nat I C) ∧ (@Ne Nat I D) ∧ (@Ne Nat C D)) →
    wpAny (model prog w) A (eval elt (compEnvC scope cl C env)) (EltPost h₀ L m s (fun y nw' => Inv (i + 1) (ys ++ [y]) nw') [(I, oI), (C, oC), (D, LCg.lst ys)]) NoE { s with heap := h, toks := tk }
theorem off_of {I C D : Addr} {nw nw' : Led} (h : LCg.Off3 I C D nw) (e : nw'.map (·.1) = nw.map (·.1)) : LCg.Off3 I C D nw' := LCg.Off3.of fun p hp => by
  have h1 : p.1 ∈ nw.map (·.1) := e ▸ List.mem_map.mpr ⟨p, hp, rfl⟩
  obtain ⟨q, hq, hpq⟩ := List.mem_map.mp h1
  have := h.mem q hq
  rw [hpq] at this
  exact this
theorem rest_of {elt : Expr} {x : Str} {scope : Scope} {cl : List (Str × Addr)} {P : Nat → Value → Prop} {Fin : List Value → List (Addr × Obj) → Prop} {n : Nat} {Inv : Nat → List Value → Led → Prop} {adr : List Addr}
    (hadr : ∀ i ys nw, Inv i ys nw → nw.map (·.1) = adr) (turn : Elt prog w A h₀ L m env elt x scope cl s Inv P n) (fin : ∀ ys nw, Inv n ys nw → Fin ys nw) :
    ∀ (j i : Nat) (ys : List Value) (nw : Led), i + j = n → Inv i ys nw → LCg.CompRest prog w A h₀ L m env elt x scope cl s (fun _ => True) P Fin j i ys nw
  | 0, i, ys, nw, hi, hI => LCg.CompRest.zero (fin ys nw (by rw [← hi, Nat.add_zero]; exact hI))
  | j + 1, i, ys, nw, hi, hI => by
    refine LCg.CompRest.succ ?_
    intro v I oI C oC D m₂ h tk E' hv hC hx F N off ne
    refine wpAny_mono (turn i v I oI C oC D m₂ ys nw h tk (by omega) hv hI hC hx F N off ne) (fun y s₂ hq => ?_) (fun _ _ e => e.elim)
    obtain ⟨h', tk', nw', rfl, F', N', hI'⟩ := hq
    exact ⟨h', tk', nw', rfl, F', N', off_of off ((hadr _ _ _ hI').trans (hadr _ _ _ hI).symm), trivial, rest_of hadr turn fin j (i + 1) _ _ (by omega) hI'⟩
noncomputable def SrcPost (prog : Program) (w : World) (A : Around) (h₀ : Heap) (L : Addr) (m : Str → Option Value) (env : Env) (elt : Expr) (x : Str) (scope : Scope) (cl : List (Str × Addr)) (P : Nat → Value → Prop) (n : Nat) (Inv : Nat → List Value → Led → Prop) (Q : Value → Shared → Prop) (xv : Value) (s₁ : Shared) : Prop :=
  ∃ news, Src prog w xv n P s₁ ∧ Fr h₀ L s₁.heap m ∧ News h₀ L s₁.heap news ∧ Inv 0 [] news ∧ (∀ i ys nw, Inv i ys nw → nw.map (·.1) = news.map (·.1)) ∧ (∀ g, Elt prog w A h₀ L m env elt x scope cl { s₁ with heap := g } Inv P n) ∧
      (∀ D ys nw h tk, Inv n ys nw → Fr h₀ L h m → News h₀ L h ((D, LCg.lst ys) :: nw) → LCg.Off1 D nw → Q (.ref D) { s₁ with heap := h, toks := tk })
theorem SrcPost.intro {elt : Expr} {x : Str} {scope : Scope} {cl : List (Str × Addr)} {P : Nat → Value → Prop} {n : Nat} {Inv : Nat → List Value → Led → Prop} {Q : Value → Shared → Prop} {xv : Value} {s₁ : Shared} {news : Led} (F : Fr h₀ L s₁.heap m) (N : News h₀ L s₁.heap news) (src : Src prog w xv n P s₁) (h0 : Inv 0 [] news) (hadr : ∀ i ys nw, Inv i ys nw → nw.map (·.1) = news.map (·.1))
    (turn : ∀ g, Elt prog w A h₀ L m env elt x scope cl { s₁ with heap := g } Inv P n) (fin : ∀ D ys nw h tk, Inv n ys nw → Fr h₀ L h m → News h₀ L h ((D, LCg.lst ys) :: nw) → LCg.Off1 D nw → Q (.ref D) { s₁ with heap := h, toks := tk }) :
    SrcPost prog w A h₀ L m env elt x scope cl P n Inv Q xv s₁ := ⟨news, src, F, N, h0, hadr, turn, fin⟩
theorem comp_go {elt iter : Expr} {x : Str} {px : Pos} {scope : Scope} {cl : List (Str × Addr)} {pos : Pos} {Q : Value → Shared → Prop} (P : Nat → Value → Prop) (n : Nat) (Inv : Nat → List Value → Led → Prop)
    (hclos : closureFor scope env = pure cl) (hcell : ∀ y ∈ scope.names, y.2 ≠ .cell) (hkind : scope.kind = .function)
    (hnames : ∀ y ∈ scope.names, y.2 = .local → scope.names.lookup y.1 = some .local) (hx : scope.names.lookup x = some .local) (hsz : n ≤ sizeLine) (hh : A.handled = none) (F₀ : Fr h₀ L s.heap m)
    (h : wpAny (model prog w) A (eval iter env) (SrcPost prog w A h₀ L m env elt x scope cl P n Inv Q) E s)
    (hs : ∀ x, foldedSetIterable iter env x = pure x := by intro _; rfl) :
    wpAny (model prog w) A (eval (.ListComp elt [⟨.Name x px, iter, [], 0⟩] scope pos) env) Q E s := by
  rw [eval_ListComp]
  refine wpAny_comprehension_free (use := none) rfl hs hclos hkind hnames (wpAny_mono h (fun xv s₁ h₁ => ?_) fun _ _ e => e)
  obtain ⟨news, src, F, N, hI, hadr, turn, fin⟩ := h₁
  refine src A _ _ hh fun o St W st0 hIo hSt => ?_
  refine LCg.block_U (S := fun _ => True) (Fin := LCg.FinE h₀ L m { s₁ with heap := s₁.heap.push o } Q) W hsz hIo (fun i h h' o nw st e e' _ _ _ => hSt i h h' o st e e') hcell hkind hx st0 (fun b hb => ?_)
    (F.keeps fun _ _ e => Heap.get?_push_of_some _ e) (N.grown fun _ _ e => Heap.get?_push_of_some _ e) (Nat.ne_of_lt F.ns.lt) (next_is_new F) (fun p hp => Nat.ne_of_lt (Heap.lt_size (N p hp).1)) trivial ?_ ?_
  · rw [List.mem_singleton.mp hb]
    show s₁.heap.objs.size < (s₁.heap.push _).objs.size
    rw [Heap.size_push]; exact Nat.lt_succ_self _
  · exact rest_of hadr (turn _) (fun ys nw hI' D h tk F' N' o1 => fin D ys nw h tk hI' F' N' o1) n 0 [] news (Nat.zero_add _) hI
  · intro D C h' tk m' ys news' F' N' o1 hn hC₀ hD₀ hCL hDL hCD offC fin'
    refine ⟨m', hn, fun h'' hs'' => fin' D h'' tk (F'.change hs'' hCL hC₀) (fun p hp => ?_) o1⟩
    refine ⟨hs''.extBut _ _ ?_ (N' p hp).1, (N' p hp).2⟩
    rcases List.mem_cons.mp hp with rfl | hp
    · exact Ne.symm hCD
    · exact offC p hp
end
end Mine
end
section
open PySem PySem.W PySem.Calls PyProof.Rows
set_option maxRecDepth 100000
namespace Mine
section
variable {prog : Program} {w : World} {A : Around} {E : Value → Shared → Prop} {s : Shared} {h₀ : Heap} {L : Addr} {m : Str → Option Value} {env : Env}
/-- as EltPost, where the turn may make more -/
noncomputable def EltPost2 (h₀ : Heap) (L : Addr) (m : Str → Option Value) (s : Shared) (I C D : Addr) (R : Value → Led → Prop) (pre : Led) (y : Value) (s' : Shared) : Prop :=
  ∃ h' tk' nw', s' = { s with heap := h', toks := tk' } ∧ Fr h₀ L h' m ∧ News h₀ L h' (pre ++ nw') ∧ LCg.Off3 I C D nw' ∧ R y nw'
theorem EltPost2.intro {I C D : Addr} {R : Value → Led → Prop} {pre nw' all : Led} {y : Value} {h' : Heap} {tk' : Nat} (F : Fr h₀ L h' m) (N : News h₀ L h' all) (hs : ∀ p ∈ pre ++ nw', p ∈ all) (o : LCg.Off3 I C D nw') (r : R y nw') : EltPost2 h₀ L m s I C D R pre y { s with heap := h', toks := tk' } := ⟨h', tk', nw', rfl, F, fun p hp => N p (hs p hp), o, r⟩
theorem EltPost2.made2 {I C D T : Addr} {o oI oC oD : Obj} {p : Addr × Obj} {tl : Led} {R : Value → Led → Prop} {y : Value} {h' : Heap} {tk' : Nat} (F : Fr h₀ L h' m) (N : News h₀ L h' ((T, o) :: (I, oI) :: (C, oC) :: (D, oD) :: p :: tl)) (off : LCg.Off3 I C D (p :: tl))
    (hI : @LT.lt Nat _ I T) (hC : @LT.lt Nat _ C T) (hD : @LT.lt Nat _ D T) (r : R y (p :: (T, o) :: tl)) : EltPost2 h₀ L m s I C D R [(I, oI), (C, oC), (D, oD)] y { s with heap := h', toks := tk' } := by
  refine EltPost2.intro (nw' := p :: (T, o) :: tl) F N ?_ ⟨off.1, ⟨Nat.ne_of_gt hI, Nat.ne_of_gt hC, Nat.ne_of_gt hD⟩, off.2⟩ r
  intro q hp
  simp only [List.mem_append, List.mem_cons, List.not_mem_nil, or_false] at hp ⊢
  rcases hp with (h | h | h) | h | h | h
  · exact .inr (.inl h)
  · exact .inr (.inr (.inl h))
  · exact .inr (.inr (.inr (.inl h)))
  · exact .inr (.inr (.inr (.inr (.inl h))))
  · exact .inl h
  · exact .inr (.inr (.inr (.inr (.inr h))))
noncomputable def Elt2 (prog : Program) (w : World) (A : Around) (h₀ : Heap) (L : Addr) (m : Str → Option Value) (env : Env) (elt : Expr) (x : Str) (scope : Scope) (cl : List (Str × Addr)) (s : Shared) (Inv : Nat → List Value → Led → Prop) (P : Nat → Value → Prop) (n : Nat) : Prop :=
  ∀ (i : Nat) (v : Value) (I : Addr) (oI : Obj) (C : Addr) (oC : Obj) (D : Addr) (m₂ : Str → Option Value) (ys : List Value) (nw : Led) (h : Heap) (tk : Nat), i < n → P i v → Inv i ys nw → LCg.NsObj oC m₂ → m₂ x = some v → Fr h₀ L h m →
    News h₀ L h ((I, oI) :: (C, oC) :: (D, LCg.lst ys) :: nw) → LCg.Off3 I C D nw → ((@Ne Nat I C) ∧ (@Ne Nat I D) ∧ (@Ne Nat C D)) →
    wpAny (model prog w) A (eval elt (compEnvC scope cl C env)) (EltPost2 h₀ L m s I C D (fun y nw' => Inv (i + 1) (ys ++ [y]) nw') [(I, oI), (C, oC), (D, LCg.lst ys)]) NoE { s with heap := h, toks := tk }
theorem rest_of2 {elt : Expr} {x : Str} {scope : Scope} {cl : List (Str × Addr)} {P : Nat → Value → Prop} {Fin : List Value → List (Addr × Obj) → Prop} {n : Nat} {Inv : Nat → List Value → Led → Prop}
    (turn : Elt2 prog w A h₀ L m env elt x scope cl s Inv P n) (fin : ∀ ys nw, Inv n ys nw → Fin ys nw) :
    ∀ (j i : Nat) (ys : List Value) (nw : Led), i + j = n → Inv i ys nw → LCg.CompRest prog w A h₀ L m env elt x scope cl s (fun _ => True) P Fin j i ys nw
  | 0, i, ys, nw, hi, hI => LCg.CompRest.zero (fin ys nw (by rw [← hi, Nat.add_zero]; exact hI))
  | j + 1, i, ys, nw, hi, hI => by
    refine LCg.CompRest.succ ?_
    intro v I oI C oC D m₂ h tk E' hv hC hx F N off ne
    refine wpAny_mono (turn i v I oI C oC D m₂ ys nw h tk (by omega) hv hI hC hx F N off ne) (fun y s₂ hq => ?_) (fun _ _ e => e.elim)
    obtain ⟨h', tk', nw', rfl, F', N', hO, hI'⟩ := hq
    exact ⟨h', tk', nw', rfl, F', N', hO, trivial, rest_of2 turn fin j (i + 1) _ _ (by omega) hI'⟩
noncomputable def SrcPost2 (prog : Program) (w : World) (A : Around) (h₀ : Heap) (L : Addr) (m : Str → Option Value) (env : Env) (elt : Expr) (x : Str) (scope : Scope) (cl : List (Str × Addr)) (P : Nat → Value → Prop) (n : Nat) (Inv : Nat → List Value → Led → Prop) (Q : Value → Shared → Prop) (xv : Value) (s₁ : Shared) : Prop :=
  ∃ news, Src prog w xv n P s₁ ∧ Fr h₀ L s₁.heap m ∧ News h₀ L s₁.heap news ∧ Inv 0 [] news ∧ (∀ g, Elt2 prog w A h₀ L m env elt x scope cl { s₁ with heap := g } Inv P n) ∧
      (∀ D ys nw h tk, Inv n ys nw → Fr h₀ L h m → News h₀ L h ((D, LCg.lst ys) :: nw) → LCg.Off1 D nw → Q (.ref D) { s₁ with heap := h, toks := tk })
theorem SrcPost2.intro {elt : Expr} {x : Str} {scope : Scope} {cl : List (Str × Addr)} {P : Nat → Value → Prop} {n : Nat} {Inv : Nat → List Value → Led → Prop} {Q : Value → Shared → Prop} {xv : Value} {s₁ : Shared} {news : Led} (F : Fr h₀ L s₁.heap m) (N : News h₀ L s₁.heap news) (src : Src prog w xv n P s₁) (h0 : Inv 0 [] news)
    (turn : ∀ g, Elt2 prog w A h₀ L m env elt x scope cl { s₁ with heap := g } Inv P n) (fin : ∀ D ys nw h tk, Inv n ys nw → Fr h₀ L h m → News h₀ L h ((D, LCg.lst ys) :: nw) → LCg.Off1 D nw → Q (.ref D) { s₁ with heap := h, toks := tk }) :
    SrcPost2 prog w A h₀ L m env elt x scope cl P n Inv Q xv s₁ := ⟨news, src, F, N, h0, turn, fin⟩
theorem comp_go2 {elt iter : Expr} {x : Str} {px : Pos} {scope : Scope} {cl : List (Str × Addr)} {pos : Pos} {Q : Value → Shared → Prop} (P : Nat → Value → Prop) (n : Nat) (Inv : Nat → List Value → Led → Prop)
    (hclos : closureFor scope env = pure cl) (hcell : ∀ y ∈ scope.names, y.2 ≠ .cell) (hkind : scope.kind = .function)
    (hnames : ∀ y ∈ scope.names, y.2 = .local → scope.names.lookup y.1 = some .local) (hx : scope.names.lookup x = some .local) (hsz : n ≤ sizeLine) (hh : A.handled = none) (F₀ : Fr h₀ L s.heap m)
    (h : wpAny (model prog w) A (eval iter env) (SrcPost2 prog w A h₀ L m env elt x scope cl P n Inv Q) E s)
    (hs : ∀ x, foldedSetIterable iter env x = pure x := by intro _; rfl) :
    wpAny (model prog w) A (eval (.ListComp elt [⟨.Name x px, iter, [], 0⟩] scope pos) env) Q E s := by
  rw [eval_ListComp]
  refine wpAny_comprehension_free (use := none) rfl hs hclos hkind hnames (wpAny_mono h (fun xv s₁ h₁ => ?_) fun _ _ e => e)
  obtain ⟨news, src, F, N, hI, turn, fin⟩ := h₁
  refine src A _ _ hh fun o St W st0 hIo hSt => ?_
  refine LCg.block_U (S := fun _ => True) (Fin := LCg.FinE h₀ L m { s₁ with heap := s₁.heap.push o } Q) W hsz hIo (fun i h h' o nw st e e' _ _ _ => hSt i h h' o st e e') hcell hkind hx st0 (fun b hb => ?_)
    (F.keeps fun _ _ e => Heap.get?_push_of_some _ e) (N.grown fun _ _ e => Heap.get?_push_of_some _ e) (Nat.ne_of_lt F.ns.lt) (next_is_new F) (fun p hp => Nat.ne_of_lt (Heap.lt_size (N p hp).1)) trivial ?_ ?_
  · rw [List.mem_singleton.mp hb]
    show s₁.heap.objs.size < (s₁.heap.push _).objs.size
    rw [Heap.size_push]; exact Nat.lt_succ_self _
  · exact rest_of2 (turn _) (fun ys nw hI' D h tk F' N' o1 => fin D ys nw h tk hI' F' N' o1) n 0 [] news (Nat.zero_add _) hI
  · intro D C h' tk m' ys news' F' N' o1 hn hC₀ hD₀ hCL hDL hCD offC fin'
    refine ⟨m', hn, fun h'' hs'' => fin' D h'' tk (F'.change hs'' hCL hC₀) (fun p hp => ?_) o1⟩
    refine ⟨hs''.extBut _ _ ?_ (N' p hp).1, (N' p hp).2⟩
    rcases List.mem_cons.mp hp with rfl | hp
    · exact Ne.symm hCD
    · exact offC p hp
end
end Mine
end
section
open PySem PySem.W PySem.Calls PyProof.Rows
set_option maxRecDepth 100000
namespace Mine
section
variable {prog : Program} {w : World} {A : Around} {E : Value → Shared → Prop} {s : Shared} {h₀ : Heap} {env : Env} {x : Str} {body : List Stmt} {Q : Flow → Shared → Prop}
/-- what one turn of a loop must show: own is the iterator, to be kept -/
noncomputable def Turn (h₀ : Heap) (L : Addr) (s : Shared) (J : (Str → Option Value) → Led → Prop) (own : Led) (Q : Flow → Shared → Prop) (fl : Flow) (s' : Shared) : Prop :=
  match fl with
  | .ret v => Q (.ret v) s'
  | .brk => Q .next s'
  | _ => ∃ h' tk m' nw', s' = { s with heap := h', toks := tk } ∧ Fr h₀ L h' m' ∧ News h₀ L h' (nw' ++ own) ∧ J m' nw'
theorem while_go {test : Expr} {pos : Pos} {m₀ : Str → Option Value} {news : Led} {L : Addr} (J : Nat → (Str → Option Value) → Led → Prop) {n₀ : Nat} (F : Fr h₀ L s.heap m₀) (N : News h₀ L s.heap news) (hj : J n₀ m₀ news)
    (turn : ∀ n m₁ nw h tk, Fr h₀ L h m₁ → News h₀ L h nw → J n m₁ nw →
      wpAny (model prog w) A (isTrue test env (eval test env)) (fun b s₂ => if b = true then wpAny (model prog w) A (execs body env) (WhileStep2 h₀ L s J Q n) NoE s₂ else Q .next s₂) NoE { s with heap := h, toks := tk }) :
    wpAny (model prog w) A (exec (.While test body [] pos) env) Q NoE s :=
  While_inv2 J F N hj turn (fun _ _ h => h.elim)
/-- a while that grows one list -/
theorem while1 {σ : Type} {test : Expr} {pos : Pos} {m₀ : Str → Option Value} {L l : Addr} {news : Led} (vsOf : σ → List Value) (nOf : σ → Nat) (ps : σ → List (Str × Value)) (Facts : σ → Prop) (stored : List Str) (P : σ → Prop) (μ : σ → Nat) (c₀ : σ)
    (F : Fr h₀ L s.heap m₀) (N : News h₀ L s.heap ((l, listOf (vsOf c₀).toArray (nOf c₀)) :: news)) (hf : Facts c₀) (hk : ∀ p ∈ ps c₀, m₀ p.1 = some p.2) (hp : P c₀)
    (turn : ∀ (c : σ) (u : Str → Option Value) h tk, Facts c → P c → Fr h₀ L h (kstB (fun z => if stored.contains z then u z else m₀ z) (ps c)) → News h₀ L h ((l, listOf (vsOf c).toArray (nOf c)) :: news) →
      wpAny (model prog w) A (isTrue test env (eval test env)) (fun b s₂ =>
        if b = true then wpAny (model prog w) A (execs body env) (KswPost h₀ L s (fun c => (l, listOf (vsOf c).toArray (nOf c)) :: news) ps Facts stored m₀ P μ Q c) NoE s₂ else Q .next s₂) NoE { s with heap := h, toks := tk }) :
    wpAny (model prog w) A (exec (.While test body [] pos) env) Q NoE s :=
  ksw_while (fun c => (l, listOf (vsOf c).toArray (nOf c)) :: news) ps Facts stored P μ c₀ F N hf hk hp turn (fun _ _ h => h.elim)
end
end Mine
end
section
open PySem PySem.W PySem.Calls PyProof.Rows
set_option maxRecDepth 100000
namespace Mine
open Builtin
/-- values that are these bytes -/
inductive BytesAre : List Value → List (Array UInt8) → Prop
  | nil : BytesAre [] []
  | cons {vs : List Value} {bs : List (Array UInt8)} (b : Array UInt8) (t : Tok) (r : BytesAre vs bs) : BytesAre (.bytes b t :: vs) (b :: bs)
theorem BytesAre.length : ∀ {vs : List Value} {bs : List (Array UInt8)}, BytesAre vs bs → vs.length = bs.length
  | _, _, .nil => rfl
  | _, _, .cons _ _ r => by rw [List.length_cons, List.length_cons, r.length]
theorem BytesAre.get : ∀ {vs : List Value} {bs : List (Array UInt8)}, BytesAre vs bs → ∀ (i : Nat) (b : Array UInt8), bs[i]? = some b → ∃ t, vs[i]? = some (Value.bytes b t)
  | _, _, .cons b t _, 0, _, h => by cases h; exact ⟨t, rfl⟩
  | _, _, .cons _ _ r, i + 1, b, h => r.get i b h
theorem BytesAre.append : ∀ {vs ws : List Value} {bs cs : List (Array UInt8)}, BytesAre vs bs → BytesAre ws cs → BytesAre (vs ++ ws) (bs ++ cs)
  | _, _, _, _, .nil, h => h
  | _, _, _, _, .cons b t r, h => .cons b t (r.append h)
noncomputable def splitZ (b c : Array UInt8) : List (Array UInt8) := Bytes.between b c.size ((Bytes.occurrences b c 0 b.size).take (b.size + 1))
theorem wp_news {M : Model} {A : Around} {E : Value → Shared → Prop} : ∀ (bs : List (Array UInt8)) (s : Shared) (Q : List Value → Shared → Prop), (∀ x ∈ bs, x.size ≤ sizeLine) → (∀ vs k, BytesAre vs bs → Q vs { s with toks := k }) →
    wpAny M A (bs.mapM (Bytes.Kind.new .bytes)) Q E s
  | [], s, Q, _, h => by
    rw [List.mapM_nil]
    exact wpAny_pure (h _ s.toks .nil)
  | b :: r, s, Q, hz, h => by
    rw [List.mapM_cons]
    refine wpAny_bind (wpAny_mkBytes (wpAny_bind (wp_news r _ _ (fun x hx => hz x (.tail _ hx)) fun vs k hv => wpAny_pure (h _ k (.cons b _ hv)))) (hz b (.head _)))
theorem meets_split {b c : Array UInt8} {t u : Tok} (hc : c.isEmpty = false) (hz : ∀ x ∈ splitZ b c, x.size ≤ sizeLine) (hn : (splitZ b c).length ≤ sizeLine) : Meets («bytes.split» ⟨[.bytes b t, .bytes c u], []⟩) (fun _ R s => ∀ vs k, BytesAre vs (splitZ b c) →
    R (.ok (.ret (.ref s.heap.objs.size))) { s with heap := s.heap.push (listOf vs.toArray 0), toks := k }) := by
  refine .of_wp fun prog w A R s h => ?_
  unfold «bytes.split» Bytes.splitM
  have e1 (x : String) : Bytes.bindOptional x "split" ["sep", "maxsplit"] [.bytes c u] [] = pure [some (.bytes c u), none] := rfl
  have e2 : Bytes.payload (.bytes b t) = pure b := rfl
  simp only [e1, e2, pure_bind, KBd.like_eq, hc, Bool.false_eq_true, if_false]
  have e3 : ((-1 : Int) < 0) := by decide
  simp only [e3, if_true]
  by_cases hp : ((Bytes.occurrences b c 0 b.size).take (b.size + 1)).isEmpty = true
  · rw [if_pos hp]
    refine wpAny_bind (wpAny_rule (wpAny_bind (same_bytes (wpAny_bind (wpAny_newObj_type (wpAny_pure ⟨_, rfl, ?_⟩) (by show (1 : Nat) ≤ sizeLine; rw [sizeLine_eq]; decide))))))
    have e4 : splitZ b c = [b] := by
      unfold splitZ
      rw [List.isEmpty_iff.mp hp]
      show [b.extract 0 b.size] = [b]
      simp
    rw [e4] at h
    exact h _ s.toks (.cons b t .nil)
  · rw [if_neg hp]
    refine wpAny_bind (wp_news _ _ _ hz fun vs k hv => ?_)
    refine wpAny_bind (wpAny_newObj_type (wpAny_pure ⟨_, rfl, h _ k hv⟩) ?_)
    show vs.toArray.size ≤ sizeLine
    rw [List.size_toArray, hv.length]; exact hn
theorem call_split {prog : Program} {w : World} {A : Around} {E : Value → Shared → Prop} {s : Shared} {b c : Array UInt8} {t u : Tok} {Q : Value → Shared → Prop} (hc : c.isEmpty = false) (hz : ∀ x ∈ splitZ b c, x.size ≤ sizeLine) (hn : (splitZ b c).length ≤ sizeLine)
    (h : ∀ vs k, BytesAre vs (splitZ b c) → Q (.ref s.heap.objs.size) { s with heap := s.heap.push (listOf vs.toArray 0), toks := k }) : wpAny (model prog w) A (call (.builtin "bytes.split") [.bytes b t, .bytes c u]) Q E s :=
  call_meets slot_split (typeIs_bytes _ _ _) entry_split (args_split2 _ _) (meets_split hc hz hn) h
theorem take_quiet {x : String} {b : Array UInt8} {t : Tok} : Bytes.takeBufferQuiet? x (.bytes b t) 0 = pure (some (b, none)) := by
  unfold Bytes.takeBufferQuiet? Bytes.takeBuffer?
  rw [KBy.special_eq KBy.look_buffer, KBy.own_buffer]
  have e : (0 == Bytes.fullReadOnly) = false := by decide
  rw [e]
  show (Sem.attempt (Bytes.buffer? x (.bytes b t) false >>= fun r => pure (r.map fun b => (b, none)))) >>= _ = _
  rw [KBy.buffer_eq]
  rfl
theorem wp_letGo {M : Model} {A : Around} {E : Value → Shared → Prop} {s : Shared} {Q : Unit → Shared → Prop} : ∀ (l keep : List Value), Q () s → wpAny M A (letGo l keep) Q E s
  | [], _, h => wpAny_pure h
  | _ :: r, keep, h => wpAny_bind (wpAny_holding (wpAny_point (wp_letGo r keep h)))
theorem wp_joinLetGo {M : Model} {A : Around} {E : Value → Shared → Prop} {s : Shared} {Q : Unit → Shared → Prop} : ∀ (l : List (Value × Option Value)) (keep : List Value), (∀ x ∈ l, x.2 = none) → Q () s → wpAny M A (Bytes.joinLetGo l keep) Q E s
  | [], _, _, h => wpAny_pure h
  | (x, w) :: r, keep, hn, h => by
    have hw : w = none := hn (x, w) (.head _)
    subst hw
    unfold Bytes.joinLetGo
    show wpAny M A (letGo [x] _ >>= fun _ => _) Q E s
    exact wpAny_bind (wp_letGo _ _ (wp_joinLetGo r keep (fun y hy => hn y (.tail _ hy)) h))
theorem arr_ne {β : Type} {X : Array Value} (h : X.size ≠ 1) (f : Value → β) (g : β) : Bytes.joinM.match_1 (fun _ => β) X f (fun _ => g) = g := by
  unfold Bytes.joinM.match_1
  rw [dif_neg h]
theorem meets_join {c : Array UInt8} {t : Tok} {l : Addr} {vs : List Value} {bs : List (Array UInt8)} {n : Nat} (hv : BytesAre vs bs) (hz : bs.foldl (· + ·.size) (c.size * (bs.length - 1)) ≤ sizeLine) (hz2 : (Bytes.joined c bs).size ≤ sizeLine) :
    Meets («bytes.join» ⟨[.bytes c t, .ref l], []⟩) (fun _ R s => s.heap.get? l = some (listOf vs.toArray n) ∧ ∀ t' k, R (.ok (.ret (.bytes (Bytes.joined c bs) t'))) { s with toks := k }) := by
  refine .of_wp fun prog w A R s hS => ?_
  obtain ⟨hl, h⟩ := hS
  unfold «bytes.join» Bytes.joinM
  have e1 (x : String) : selfAndOne x ⟨[.bytes c t, .ref l], []⟩ = pure (.bytes c t, .ref l) := rfl
  have e2 : Bytes.payload (.bytes c t) = pure c := rfl
  show wpAny _ _ (selfAndOne _ ⟨[.bytes c t, .ref l], []⟩ >>= fun p => _) _ _ s
  refine wpAny_bind (wpAny_of_eq (e1 _) ?_)
  show wpAny _ _ (Bytes.joinItems (.ref l) >>= fun seq => _) _ _ s
  refine wpAny_bind ?_
  unfold Bytes.joinItems
  have hT : s.TypeIs (.ref l) "list" := ⟨_, hl, rfl⟩
  refine wpAny_bind (wpAny_typeOf hT ?_)
  refine wpAny_pure ?_
  show wpAny _ _ (seqItems? (.ref l) >>= fun r => _) _ _ s
  refine wpAny_bind (wpAny_bind (wpAny_load hl (wpAny_pure ?_)))
  have hlen := hv.length
  have hne1 : vs.length ≠ 1 ∨ ∃ b t, vs = [.bytes b t] ∧ bs = [b] := by
    cases hv with
    | nil => exact .inl (by decide)
    | cons b t r => cases r with
      | nil => exact .inr ⟨b, t, rfl, rfl⟩
      | cons _ _ _ => exact .inl (by simp)
  rcases hne1 with hne1 | ⟨b, tb, rfl, rfl⟩
  · have hsz : vs.toArray.size = bs.length := by rw [List.size_toArray, hlen]
    have turnX : ∀ i, i < bs.length → ∃ b t, bs[i]? = some b ∧ vs.toArray.getD i .none = .bytes b t := fun i hi => by
      obtain ⟨t, ht⟩ := hv.get i bs[i] (by simp [hi])
      exact ⟨bs[i], t, by simp [hi], by simp [Array.getD_eq_getD_getElem?, ht]⟩
    dsimp only
    rw [if_pos (by decide)]
    obtain ⟨X, hX⟩ : ∃ X, vs.toArray = X := ⟨_, rfl⟩
    have hne2 : X.size ≠ 1 := by rw [← hX, List.size_toArray]; exact hne1
    rw [hX] at hsz turnX hl ⊢
    rw [arr_ne hne2]
    refine wpAny_bind ?_
    rw [Std.Legacy.Range.forIn_eq_forIn_range']
    simp only [Std.Legacy.Range.size, Nat.sub_zero, Nat.add_sub_cancel, Nat.div_one]
    rw [hsz]
    refine wpAny_forIn_list _ (fun rest st s' => s' = s ∧ ∃ i, rest = List.range' i (bs.length - i) ∧ i ≤ bs.length ∧ st.1 = (bs.take i).toArray ∧ ∀ x ∈ st.2, x.1.onHeap = false ∧ x.2 = none) _ ?_ ?_ _ _ ⟨rfl, 0, by simp, Nat.zero_le _, by simp, fun _ h => nomatch h⟩
    · rintro x rest ⟨ps, tks⟩ s' ⟨rfl, i, hr, hi, hps, htk⟩
      have hlt : i < bs.length := by
        rcases Nat.lt_or_ge i bs.length with h | h
        · exact h
        · rw [Nat.sub_eq_zero_of_le h] at hr; simp at hr
      obtain ⟨rfl, hrest⟩ : x = i ∧ rest = List.range' (i + 1) (bs.length - (i + 1)) := by
        have e : bs.length - i = (bs.length - (i + 1)) + 1 := by omega
        rw [e, List.range'_succ] at hr
        injection hr with h1 h2
        exact ⟨h1, h2⟩
      obtain ⟨b, tb, hb1, hb2⟩ := turnX x hlt
      refine wpAny_bind (wpAny_bind (wpAny_load hl (wpAny_pure ?_)))
      dsimp only
      have hany : (Bytes.Kind.bytes == Bytes.Kind.bytearray || tks.any fun x => x.fst.onHeap) = false := by
        have : (tks.any fun x => x.fst.onHeap) = false := List.any_eq_false.mpr fun y hy => by rw [(htk y hy).1]; exact Bool.false_ne_true
        rw [this]; rfl
      rw [hany, if_neg Bool.false_ne_true, hb2]
      refine wpAny_bind (wpAny_holding (wpAny_of_eq take_quiet ?_))
      refine wpAny_bind (wpAny_bind (wpAny_load hl (wpAny_pure ?_)))
      dsimp only
      rw [if_neg (by simp only [bne_iff_ne, ne_eq, Decidable.not_not]; exact hsz)]
      refine wpAny_pure ⟨rfl, x + 1, hrest, hlt, ?_, ?_⟩
      · dsimp only at hps ⊢
        rw [hps, List.take_add_one, hb1]
        simp
      · intro y hy
        rcases List.mem_append.mp hy with h | h
        · exact htk y h
        · rw [List.mem_singleton.mp h]; exact ⟨rfl, rfl⟩
    · rintro ⟨ps, tks⟩ s' ⟨rfl, i, hr, hi, hps, htk⟩
      have hin : i = bs.length := by
        rcases Nat.lt_or_ge i bs.length with h | h
        · have e : bs.length - i = (bs.length - (i + 1)) + 1 := by omega
          rw [e, List.range'_succ] at hr; cases hr
        · omega
      subst hin
      rw [List.take_length] at hps
      dsimp only at hps ⊢
      subst hps
      refine wpAny_bind (wpAny_of_eq e2 ?_)
      have htl : Bytes.tooLong (Array.foldl (fun x1 x2 => x1 + x2.size) (c.size * (bs.toArray.size - 1)) bs.toArray) = false := by
        unfold Bytes.tooLong
        refine decide_eq_false ?_
        simp only [List.size_toArray, List.foldl_toArray']
        omega
      rw [htl, if_neg Bool.false_ne_true]
      refine wpAny_bind (wpAny_mkBytes ?_ hz2)
      refine wpAny_bind (wpAny_holding (wpAny_point ?_))
      exact wpAny_bind (wp_joinLetGo _ _ (fun y hy => (htk y hy).2) (wpAny_pure ⟨_, rfl, h _ _⟩))
  · dsimp only
    rw [if_pos (by decide)]
    refine wpAny_bind (wpAny_typeOf (typeIs_bytes s b tb) ?_)
    rw [if_pos (by decide)]
    have e3 : Bytes.joined c [b] = b := by
      show #[] ++ b = b
      simp
    rw [e3] at h
    exact wpAny_bind (wpAny_rule (wpAny_pure ⟨_, rfl, h tb s.toks⟩))
theorem call_join {prog : Program} {w : World} {A : Around} {E : Value → Shared → Prop} {s : Shared} {c : Array UInt8} {t : Tok} {l : Addr} {vs : List Value} {bs : List (Array UInt8)} {n : Nat} {Q : Value → Shared → Prop} (hl : s.heap.get? l = some (listOf vs.toArray n)) (hv : BytesAre vs bs) (hz : bs.foldl (· + ·.size) (c.size * (bs.length - 1)) ≤ sizeLine) (hz2 : (Bytes.joined c bs).size ≤ sizeLine)
    (h : ∀ t' k, Q (.bytes (Bytes.joined c bs) t') { s with toks := k }) : wpAny (model prog w) A (call (.builtin "bytes.join") [.bytes c t, .ref l]) Q E s :=
  call_meets slot_join (typeIs_bytes _ _ _) entry_join (args_join2 _ _) (meets_join hv hz hz2) ⟨hl, h⟩
end Mine
end
section
open PySem PySem.W PySem.Calls PyProof.Rows
set_option maxRecDepth 100000
namespace Mine
/-- texts laid end to end -/
noncomputable def catS (l : List Str) : Str := ⟨(l.flatMap fun x => x.cps.toList).toArray⟩
theorem str_ext {a b : Str} (h : a.cps.toList = b.cps.toList) : a = b := by
  cases a; cases b
  simp only [Str.mk.injEq]
  exact Array.toList_inj.mp h
theorem join_cat : ∀ l : List Str, PySem.Str.join (PySem.Str.ofString "") l = catS l
  | [] => rfl
  | [x] => by
    refine str_ext ?_
    show x.cps.toList = _
    simp [catS]
  | x :: y :: r => by
    have ih := join_cat (y :: r)
    refine str_ext ?_
    show (x ++ PySem.Str.ofString "" ++ PySem.Str.join (PySem.Str.ofString "") (y :: r)).cps.toList = _
    rw [ih, KT.app_list, KT.app_list]
    have e : (PySem.Str.ofString "").cps.toList = [] := by decide
    rw [e]
    simp [catS]
theorem txt_join_cat (l : List Str) : PySem.Txt.join (PySem.Str.ofString "") l = catS l := by
  rw [← join_cat l]
  show (Builtin.Str.glued (PySem.Str.ofString "") l) = _
  rw [StrLaws.glued_eq_join]
theorem StrsAre.snoc {y : Str} {t : Tok} : ∀ {vs : List Value} {ys : List Str}, StrsAre vs ys → StrsAre (vs ++ [.str y t]) (ys ++ [y])
  | _, _, .nil => .cons y t .nil
  | _, _, .cons z u r => .cons z u (StrsAre.snoc r)
section
variable {prog : Program} {w : World} {A : Around} {E : Value → Shared → Prop} {s : Shared} {t : Tok} {Q : Value → Shared → Prop} {D : Addr} {ys : List Value} {l : List Str} {n : Nat}
theorem call_sjoin (hl : s.heap.get? D = some (listOf ys.toArray n)) (hc : StrsAre ys l) (hB : ∀ a ∈ l, a.length ≤ 8) (hn : l.length ≤ 1048576)
    (h : ∀ t' k, Q (.str (catS l) t') { s with toks := k }) : wpAny (model prog w) A (call (.builtin "str.join") [.str (PySem.Str.ofString "") t, .ref D]) Q E s := by
  have hls : s.heap.IsList D ys.toArray := ⟨_, hl, rfl, n, rfl⟩
  refine KT.join_B (g := id) (l := l) 8 hls ?_ (by simpa using hB) hn (by decide) fun t' k => ?_
  · have := hc.carried
    simpa using this
  · have e : PySem.Txt.join (PySem.Str.ofString "") (l.map id) = catS l := by rw [List.map_id, txt_join_cat]
    rw [e]
    exact h t' k
end
end Mine
end
section
open PySem PySem.W PySem.Calls PyProof.Rows
set_option maxRecDepth 100000
namespace Mine
theorem ints_snoc {x : Int} {t : Tok} : ∀ {vs : List Value} {ns : List Int}, IntsAre vs ns → IntsAre (vs ++ [.int x t]) (ns ++ [x])
  | _, _, .nil => .cons _ _ .nil
  | _, _, .cons n t h => .cons n t (ints_snoc h)
theorem ints_eq {x y : Int} {t : Tok} {vs : List Value} {ns : List Int} (h : IntsAre vs ns) (e : x = y) : IntsAre (vs ++ [.int x t]) (ns ++ [y]) := e ▸ ints_snoc h
theorem take_min_drop {α : Type} (l : List α) (a k : Nat) : (l.drop a).take (min (a + k) l.length - a) = (l.drop a).take k := by
  rw [← Nat.sub_min_sub_right, Nat.add_sub_cancel_left, ← List.length_drop, ← List.take_eq_take_min]
noncomputable def octI (os : List UInt8) : List Int := os.map fun c => (c.toNat : Int)
theorem oct_byteArr (os : List UInt8) : byteArr (octI os) = os.toArray := by
  unfold byteArr octI
  congr 1
  rw [List.map_map]
  conv => rhs; rw [← List.map_id os]
  refine List.map_congr_left fun c _ => ?_
  show ((c.toNat : Int).toNat).toUInt8 = c
  rw [Int.toNat_natCast]
  exact UInt8.ofNat_toNat
theorem oct_in (os : List UInt8) : ∀ n ∈ octI os, 0 ≤ n ∧ n < 256 := by
  intro n hn
  obtain ⟨c, _, rfl⟩ := List.mem_map.mp hn
  have := c.toNat_lt
  omega
theorem octI_snoc {os : List UInt8} {k : Nat} (h : k < os.length) : octI (os.take (k + 1)) = octI (os.take k) ++ [((os.getD k 0).toNat : Int)] := by
  unfold octI
  rw [List.take_add_one, List.getElem?_eq_getElem h, List.map_append, List.getD_eq_getElem?_getD, List.getElem?_eq_getElem h]
  rfl
section
variable {prog : Program} {w : World} {A : Around} {E : Value → Shared → Prop} {s : Shared} {h₀ : Heap} {L : Addr} {m : Str → Option Value} {news : Led}
noncomputable def sliceZ (b : List UInt8) (lo hi : Option Int) : List UInt8 := (b.drop (lo.elim 0 (clipAt b.length))).take (hi.elim b.length (clipAt b.length) - lo.elim 0 (clipAt b.length))
theorem my_slice {value slice : PySem.Expr} {b : List UInt8} {t : Tok} {l u : Value} {lo hi : Option Int} {Q : Value → Shared → Prop} (c : List UInt8) (hF : Fr h₀ L s.heap m) (hN : News h₀ L s.heap news) (hl : IsPart l lo) (hu : IsPart u hi) (hz : b.length ≤ 1000) (hc : sliceZ b lo hi = c)
    (h : ∀ h' t' k, Fr h₀ L h' m → News h₀ L h' news → Q (.bytes c.toArray t') { s with heap := h', toks := k })
    (hs : subscripted slice false (.bytes b.toArray t) (.ref s.heap.objs.size) = operate [.ref s.heap.objs.size, .bytes b.toArray t] (getItem (.bytes b.toArray t) (.ref s.heap.objs.size)) := by with_unfolding_all rfl)
    (ht : ∀ r, letTemporaryGo value (.bytes b.toArray t) r = pure () := by intro _; with_unfolding_all rfl) :
    wpAny (model prog w) A (subscriptTail value slice (.bytes b.toArray t) (.ref s.heap.objs.size)) Q E { s with heap := s.heap.push { cls := .type "slice", data := .fields #[l, u, .none] } } := by
  have e : KBy.picked b.toArray lo hi = c.toArray := by
    rw [KBc.picked_eq, ← hc]
    unfold sliceZ
    rw [List.size_toArray]
  refine tail_of_ItemOn ⟨"bytes", _, FB.slot_bytes_getitem.lookup, typeIs_bytes _ _ _, getItem_meets (typeIs_bytes _ _ _) (by decide) FB.slot_bytes_getitem FB.entry_bytes_getitem (FB.args_bytes_getitem_2 _ _) (KBc.meets_slice2 b.toArray t _ hl hu)
    ⟨Heap.IsSliceOf.new _ _ _ _, Nat.le_trans (KBc.size_picked_le b.toArray lo hi) (by rw [List.size_toArray, sizeLine_eq]; omega), fun t' k => ?_⟩⟩ hs ht
  rw [e]
  exact h _ _ _ (hF.push _) (News.pushKeep hN _)
theorem my_add {b c : List UInt8} {t u : Tok} {Q : Value → Shared → Prop} (hb : b.length ≤ 1000) (hc : c.length ≤ 1000) (h : ∀ t' k, Q (.bytes (b ++ c).toArray t') { s with toks := k }) : wpAny (model prog w) A (binaryOp .Add (.bytes b.toArray t) (.bytes c.toArray u)) Q E s := by
  refine KBy.add_bytes (by rw [List.size_toArray, List.size_toArray]; omega) fun t' k => ?_
  rw [List.append_toArray]
  exact h t' k
theorem my_bytes {l : Addr} {vs : List Value} {n : Nat} {os : List UInt8} {Q : Value → Shared → Prop} (F : Fr h₀ L s.heap m) (N : News h₀ L s.heap news) (hm : (l, listOf vs.toArray n) ∈ news) (hi : IntsAre vs (octI os)) (hz : os.length ≤ 1000) (hh : A.handled = none)
    (hQ : ∀ h' t k, Fr h₀ L h' m → News h₀ L h' news → Q (.bytes os.toArray t) { s with heap := h', toks := k }) : wpAny (model prog w) A (call (.type "bytes") [.ref l]) Q E s := by
  refine call_bytes_ints (ns := octI os) ⟨_, (N _ hm).1, rfl, n, rfl⟩ hi (oct_in os) ?_ hh fun h' t k hk => ?_
  · rw [hi.length, sizeLine_eq]
    unfold octI
    rw [List.length_map]
    omega
  · rw [oct_byteArr]
    exact hQ h' t k (F.keeps hk) (N.grown hk)
theorem my_eq_bytes {b c : List UInt8} {t u : Tok} {Q : Value → Shared → Prop} {r : Bool} (hr : decide (b = c) = r) (h : Q (.bool r) s) : wpAny (model prog w) A (compareOp .Eq (.bytes b.toArray t) (.bytes c.toArray u)) Q E s := by
  refine eq_bytes ?_
  have e : (b.toArray.toList == c.toArray.toList) = r := by
    rw [← hr]
    show (b == c) = decide (b = c)
    by_cases h : b = c
    · subst h; simp
    · simp [h]
  rw [e]; exact h
theorem my_ne_bytes {b c : List UInt8} {t u : Tok} {Q : Value → Shared → Prop} {r : Bool} (hr : decide (b = c) = r) (h : Q (.bool (!r)) s) : wpAny (model prog w) A (compareOp .NotEq (.bytes b.toArray t) (.bytes c.toArray u)) Q E s := by
  refine ne_bytes ?_
  have e : (b.toArray.toList != c.toArray.toList) = !r := by
    rw [← hr]
    show (!(b == c)) = !decide (b = c)
    by_cases h : b = c
    · subst h; simp
    · simp [h]
  rw [e]; exact h
end
end Mine
end
section
open PySem PySem.W PySem.Calls PyProof.Rows
set_option maxRecDepth 100000
namespace Mine
section
variable {prog : Program} {w : World} {A : Around} {E : Value → Shared → Prop} {s : Shared} {h₀ : Heap} {env : Env} {x : Str} {body : List Stmt} {Q : Flow → Shared → Prop}
/-- the names of a loop's turn: what the turns carry, what they store, and the rest -/
noncomputable def forB (m₀ : Str → Option Value) (stored : List Str) (u : Str → Option Value) (ps : List (Str × Value)) : Str → Option Value := kstB (fun z => if stored.contains z then u z else m₀ z) ps
noncomputable def ForEnd {σ : Type} (h₀ : Heap) (L : Addr) (s : Shared) (own : Addr × Obj) (Led : σ → Led) (ps : σ → List (Str × Value)) (Facts : σ → Prop) (stored : List Str) (m₀ : Str → Option Value) (s₂ : Shared) : Prop :=
  ∃ (c : σ) (h' : Heap) (tk : Nat) (m' : Str → Option Value) (news' : Mine.Led), s₂ = { s with heap := h', toks := tk } ∧ Fr h₀ L h' m' ∧ News h₀ L h' news' ∧ (∀ p ∈ own :: Led c, p ∈ news') ∧ (∀ p ∈ ps c, m' p.1 = some p.2) ∧ (∀ z, (∀ p ∈ ps c, z ≠ p.1) → stored.contains z = false → m' z = m₀ z) ∧ Facts c
theorem ForEnd.intro {σ : Type} {L : Addr} {own : Addr × Obj} {Led : σ → Led} {ps : σ → List (Str × Value)} {Facts : σ → Prop} {stored : List Str} {m₀ m' : Str → Option Value} {h' : Heap} {tk : Nat} {news' : Mine.Led} (c : σ) (F : Fr h₀ L h' m') (N : News h₀ L h' news') (hn : ∀ p ∈ own :: Led c, p ∈ news') (hf : Facts c)
    (hk : ∀ p ∈ ps c, m' p.1 = some p.2) (hr : ∀ z, (∀ p ∈ ps c, z ≠ p.1) → stored.contains z = false → m' z = m₀ z) : ForEnd h₀ L s own Led ps Facts stored m₀ { s with heap := h', toks := tk } := ⟨c, h', tk, m', news', rfl, F, N, hn, hk, hr, hf⟩
noncomputable def ForPost {σ : Type} (h₀ : Heap) (L : Addr) (s : Shared) (own : Addr × Obj) (Led : σ → Led) (ps : σ → List (Str × Value)) (Facts : σ → Prop) (stored : List Str) (m₀ : Str → Option Value) (Q : Flow → Shared → Prop) (fl : Flow) (s₂ : Shared) : Prop :=
  match fl with
  | .ret v => Q (.ret v) s₂
  | .brk => Q .next s₂
  | _ => ForEnd h₀ L s own Led ps Facts stored m₀ s₂
theorem ForPost.brk {σ : Type} {L : Addr} {own : Addr × Obj} {Led : σ → Mine.Led} {ps : σ → List (Str × Value)} {Facts : σ → Prop} {stored : List Str} {m₀ : Str → Option Value} {s₂ : Shared} (h : Q .next s₂) : ForPost h₀ L s own Led ps Facts stored m₀ Q .brk s₂ := h
theorem for_core {σ : Type} {I : Addr} {fp : List Addr} {n : Nat} {P : Nat → Value → Prop} {St : Nat → Heap → Prop} {m₀ : Str → Option Value} (Led : σ → Led) (ps : σ → List (Str × Value)) (Facts : Nat → σ → Prop) (stored : List Str) (c₀ : σ)
    (W : Walks prog w A I fp [I] n P St) (hst : St 0 s.heap) (hIo : ∀ i h, St i h → ∃ o, h.get? I = some o) (hI : I ∈ fp) (hfp : ∀ b ∈ fp, b = I ∨ h₀.get? b ≠ none) (hI₀ : h₀.get? I = none) (hLf : env.locals ∉ fp)
    (F : Fr h₀ env.locals s.heap m₀) (N : News h₀ env.locals s.heap (Led c₀)) (hlt : AllLt I (Led c₀)) (hadr : ∀ c, (Led c).map (·.1) = (Led c₀).map (·.1)) (hk : ∀ p ∈ ps c₀, m₀ p.1 = some p.2) (hf : Facts 0 c₀)
    (turn : ∀ (i : Nat) (v : Value) (c : σ) (u : Str → Option Value) (h : Heap) (tk : Nat) (oI : Obj), i < n → P i v → AllLt I (Led c) → Facts i c → Fr h₀ env.locals h (fun y => if y = x then some v else kstB (fun z => if stored.contains z then u z else m₀ z) (ps c) y) → News h₀ env.locals h ((I, oI) :: Led c) →
      wpAny (model prog w) A (execs body env) (ForPost h₀ env.locals s (I, oI) Led ps (Facts (i + 1)) stored m₀ Q) E { s with heap := h, toks := tk })
    (done : ∀ (c : σ) (u : Str → Option Value) (h : Heap) (tk : Nat), Facts n c → Fr h₀ env.locals h (kstB (fun z => if stored.contains z then u z else m₀ z) (ps c)) → News h₀ env.locals h (Led c) → Q .next { s with heap := h, toks := tk }) :
    LoopAtV prog w A h₀ env x body Q E (.ref I) s := by
  have hltC : ∀ c, AllLt I (Led c) := fun c => allLt_of fun p hp => by
    have h1 : p.1 ∈ (Led c).map (·.1) := List.mem_map.mpr ⟨p, hp, rfl⟩
    rw [hadr c] at h1
    obtain ⟨q, hq, e⟩ := List.mem_map.mp h1
    rw [← e]
    exact kst_ltOf hlt q hq
  have em : ∀ (m : Str → Option Value) (c : σ), (∀ p ∈ ps c, m p.1 = some p.2) → (∀ z, (∀ p ∈ ps c, z ≠ p.1) → stored.contains z = false → m z = m₀ z) → kstB (fun z => if stored.contains z then m z else m₀ z) (ps c) = m := by
    intro m c h1 h2
    funext y
    refine kstB_eq h1 fun hn => ?_
    show (if stored.contains y = true then m y else m₀ y) = m y
    cases h3 : stored.contains y with
    | true => simp
    | false => simp only [Bool.false_eq_true, if_false]; exact (h2 y hn h3).symm
  refine ⟨I, fp, [I], n, P, St, m₀, Led c₀, fun i m nw => ∃ c, nw = Led c ∧ Facts i c ∧ (∀ p ∈ ps c, m p.1 = some p.2) ∧ (∀ z, (∀ p ∈ ps c, z ≠ p.1) → stored.contains z = false → m z = m₀ z), rfl, W, hLf, ?_, ?_, hst, F, N, ⟨c₀, rfl, hf, hk, fun z _ _ => rfl⟩, ?_, ?_⟩
  · intro b hb; rw [List.mem_singleton.mp hb]; exact hI₀
  · intro p hp hb
    exact absurd (kst_ltOf hlt p hp) ((List.mem_singleton.mp hb) ▸ Nat.lt_irrefl _)
  · rintro i v m₁ nw s₁ own ⟨hh', tk', rfl⟩ hin hP ⟨c, rfl, hfc, hk1, hr1⟩ hoff hown hgo hall hst' F₁ N₁
    obtain ⟨oI, hoI⟩ := hIo _ _ hst'
    have hmem : (I, oI) ∈ own := hall I hI hI₀ oI hoI
    have hone : ∀ p ∈ own, p = (I, oI) := by
      intro p hp
      have e1 : p.1 = I := by
        rcases hfp p.1 (hown p hp) with e | e
        · exact e
        · exact absurd (N₁ p (List.mem_append.mpr (.inl hp))).2.2 e
      have e2 := hgo p hp
      rw [e1] at e2
      have e3 : oI = p.2 := Option.some.inj (hoI.symm.trans e2)
      rw [← e1, e3]
    have N₂ : News h₀ env.locals hh' ((I, oI) :: Led c) := fun p hp => by
      rcases List.mem_cons.mp hp with rfl | h
      · exact N₁ _ (List.mem_append.mpr (.inl hmem))
      · exact N₁ _ (List.mem_append.mpr (.inr h))
    have F₂ : Fr h₀ env.locals hh' (fun y => if y = x then some v else kstB (fun z => if stored.contains z then m₁ z else m₀ z) (ps c) y) := by
      rw [em m₁ c hk1 hr1]; exact F₁
    refine wpAny_mono (turn i v c m₁ hh' tk' oI hin hP (hltC c) hfc F₂ N₂) (fun f s₂ p => ?_) fun _ _ e => e
    have fin : ForEnd h₀ env.locals s (I, oI) Led ps (Facts (i + 1)) stored m₀ s₂ → LoopStepU h₀ env.locals [I] own (fun m nw => ∃ c, nw = Led c ∧ Facts (i + 1) c ∧ (∀ p ∈ ps c, m p.1 = some p.2) ∧ (∀ z, (∀ p ∈ ps c, z ≠ p.1) → stored.contains z = false → m z = m₀ z)) { s with heap := hh', toks := tk' } .next s₂ := by
      rintro ⟨c', h', tk, m', news', rfl, F', N', hn, hk2, hr2, hf2⟩
      refine ⟨rfl, h', tk, m', Led c', rfl, F', fun p hp => ?_, fun p hp hq => ?_, c', rfl, hf2, hk2, hr2⟩
      · rcases List.mem_append.mp hp with h | h
        · rw [hone p h]; exact N' _ (hn _ (List.Mem.head _))
        · exact N' _ (hn _ (List.Mem.tail _ h))
      · exact absurd (kst_ltOf (hltC c') p hp) ((List.mem_singleton.mp hq) ▸ Nat.lt_irrefl _)
    cases f with
    | ret v => exact p
    | brk => exact p
    | next => exact fin p
    | cont => exact fin p
  · rintro h' tk m' news' F' N' _ ⟨c, rfl, hfc, hk1, hr1⟩
    exact done c m' h' tk hfc (by rw [em m' c hk1 hr1]; exact F') N'
theorem for_go {σ : Type} {xv : Value} {m₀ : Str → Option Value} (P : Nat → Value → Prop) (n : Nat) (Led : σ → Led) (ps : σ → List (Str × Value)) (Facts : Nat → σ → Prop) (stored : List Str) (c₀ : σ)
    (hh : A.handled = none) (src : Src prog w xv n P s) (F : Fr h₀ env.locals s.heap m₀) (N : News h₀ env.locals s.heap (Led c₀)) (hadr : ∀ c, (Led c).map (·.1) = (Led c₀).map (·.1)) (hk : ∀ p ∈ ps c₀, m₀ p.1 = some p.2) (hf : Facts 0 c₀)
    (turn : ∀ (i : Nat) (v : Value) (c : σ) (u : Str → Option Value) (h : Heap) (tk : Nat) (I : Addr) (oI : Obj), i < n → P i v → AllLt I (Led c) → Facts i c → Fr h₀ env.locals h (fun y => if y = x then some v else kstB (fun z => if stored.contains z then u z else m₀ z) (ps c) y) → News h₀ env.locals h ((I, oI) :: Led c) →
      wpAny (model prog w) A (execs body env) (ForPost h₀ env.locals s (I, oI) Led ps (Facts (i + 1)) stored m₀ Q) E { s with heap := h, toks := tk })
    (done : ∀ (c : σ) (u : Str → Option Value) (h : Heap) (tk : Nat), Facts n c → Fr h₀ env.locals h (kstB (fun z => if stored.contains z then u z else m₀ z) (ps c)) → News h₀ env.locals h (Led c) → Q .next { s with heap := h, toks := tk }) :
    wpAny (model prog w) A (pyIter xv) (fun it s₂ => LoopAtV prog w A h₀ env x body Q E it s₂) E s := by
  refine src A _ _ hh fun o St W st0 hIo hSt => ?_
  refine for_core (s := { s with heap := s.heap.push o }) Led ps Facts stored c₀ W st0 hIo (List.mem_singleton.mpr rfl) (fun b hb => .inl (List.mem_singleton.mp hb)) (next_is_new F) ?_ (F.push _) (fun p hp => ⟨Heap.get?_push_of_some _ (N p hp).1, (N p hp).2⟩) (allLt_of fun p hp => Heap.lt_size (N p hp).1) hadr hk hf ?_ ?_
  · intro hm
    exact absurd F.ns.lt ((List.mem_singleton.mp hm) ▸ Nat.lt_irrefl _)
  · exact fun i v c u h tk oI => turn i v c u h tk _ oI
  · exact done
theorem for_coreN {σ : Type} {I : Addr} {fp : List Addr} {n : Nat} {P : Nat → Value → Prop} {St : Nat → Heap → Prop} {m₀ : Str → Option Value} (Led : σ → Led) (ps : σ → List (Str × Value)) (Facts : Nat → σ → Prop) (stored : List Str) (c₀ : σ)
    (W : Walks prog w A I fp [I] n P St) (hst : St 0 s.heap) (hIo : ∀ i h, St i h → ∃ o, h.get? I = some o) (hI : I ∈ fp) (hfp : ∀ b ∈ fp, b = I ∨ h₀.get? b ≠ none) (hI₀ : h₀.get? I = none) (hLf : env.locals ∉ fp)
    (F : Fr h₀ env.locals s.heap m₀) (N : News h₀ env.locals s.heap (Led c₀)) (hne₀ : ∀ p ∈ Led c₀, p.1 ≠ I) (hk : ∀ p ∈ ps c₀, m₀ p.1 = some p.2) (hf : Facts 0 c₀)
    (turn : ∀ (i : Nat) (v : Value) (c : σ) (u : Str → Option Value) (h : Heap) (tk : Nat) (oI : Obj), i < n → P i v → (∀ p ∈ Led c, p.1 ≠ I) → Facts i c → Fr h₀ env.locals h (fun y => if y = x then some v else kstB (fun z => if stored.contains z then u z else m₀ z) (ps c) y) → News h₀ env.locals h ((I, oI) :: Led c) →
      wpAny (model prog w) A (execs body env) (ForPost h₀ env.locals s (I, oI) Led ps (fun c => Facts (i + 1) c ∧ ∀ p ∈ Led c, p.1 ≠ I) stored m₀ Q) E { s with heap := h, toks := tk })
    (done : ∀ (c : σ) (u : Str → Option Value) (h : Heap) (tk : Nat), Facts n c → Fr h₀ env.locals h (kstB (fun z => if stored.contains z then u z else m₀ z) (ps c)) → News h₀ env.locals h (Led c) → Q .next { s with heap := h, toks := tk }) :
    LoopAtV prog w A h₀ env x body Q E (.ref I) s := by
  have em : ∀ (m : Str → Option Value) (c : σ), (∀ p ∈ ps c, m p.1 = some p.2) → (∀ z, (∀ p ∈ ps c, z ≠ p.1) → stored.contains z = false → m z = m₀ z) → kstB (fun z => if stored.contains z then m z else m₀ z) (ps c) = m := by
    intro m c h1 h2
    funext y
    refine kstB_eq h1 fun hn => ?_
    show (if stored.contains y = true then m y else m₀ y) = m y
    cases h3 : stored.contains y with
    | true => simp
    | false => simp only [Bool.false_eq_true, if_false]; exact (h2 y hn h3).symm
  refine ⟨I, fp, [I], n, P, St, m₀, Led c₀, fun i m nw => ∃ c, nw = Led c ∧ Facts i c ∧ (∀ p ∈ Led c, p.1 ≠ I) ∧ (∀ p ∈ ps c, m p.1 = some p.2) ∧ (∀ z, (∀ p ∈ ps c, z ≠ p.1) → stored.contains z = false → m z = m₀ z), rfl, W, hLf, ?_, ?_, hst, F, N, ⟨c₀, rfl, hf, hne₀, hk, fun z _ _ => rfl⟩, ?_, ?_⟩
  · intro b hb; rw [List.mem_singleton.mp hb]; exact hI₀
  · intro p hp hb
    exact hne₀ p hp (List.mem_singleton.mp hb)
  · rintro i v m₁ nw s₁ own ⟨hh', tk', rfl⟩ hin hP ⟨c, rfl, hfc, hnc, hk1, hr1⟩ hoff hown hgo hall hst' F₁ N₁
    obtain ⟨oI, hoI⟩ := hIo _ _ hst'
    have hmem : (I, oI) ∈ own := hall I hI hI₀ oI hoI
    have hone : ∀ p ∈ own, p = (I, oI) := by
      intro p hp
      have e1 : p.1 = I := by
        rcases hfp p.1 (hown p hp) with e | e
        · exact e
        · exact absurd (N₁ p (List.mem_append.mpr (.inl hp))).2.2 e
      have e2 := hgo p hp
      rw [e1] at e2
      have e3 : oI = p.2 := Option.some.inj (hoI.symm.trans e2)
      rw [← e1, e3]
    have N₂ : News h₀ env.locals hh' ((I, oI) :: Led c) := fun p hp => by
      rcases List.mem_cons.mp hp with rfl | h
      · exact N₁ _ (List.mem_append.mpr (.inl hmem))
      · exact N₁ _ (List.mem_append.mpr (.inr h))
    have F₂ : Fr h₀ env.locals hh' (fun y => if y = x then some v else kstB (fun z => if stored.contains z then m₁ z else m₀ z) (ps c) y) := by
      rw [em m₁ c hk1 hr1]; exact F₁
    refine wpAny_mono (turn i v c m₁ hh' tk' oI hin hP hnc hfc F₂ N₂) (fun f s₂ p => ?_) fun _ _ e => e
    have fin : ForEnd h₀ env.locals s (I, oI) Led ps (fun c => Facts (i + 1) c ∧ ∀ p ∈ Led c, p.1 ≠ I) stored m₀ s₂ → LoopStepU h₀ env.locals [I] own (fun m nw => ∃ c, nw = Led c ∧ Facts (i + 1) c ∧ (∀ p ∈ Led c, p.1 ≠ I) ∧ (∀ p ∈ ps c, m p.1 = some p.2) ∧ (∀ z, (∀ p ∈ ps c, z ≠ p.1) → stored.contains z = false → m z = m₀ z)) { s with heap := hh', toks := tk' } .next s₂ := by
      rintro ⟨c', h', tk, m', news', rfl, F', N', hn, hk2, hr2, hf2, hnc2⟩
      refine ⟨rfl, h', tk, m', Led c', rfl, F', fun p hp => ?_, fun p hp hq => ?_, c', rfl, hf2, hnc2, hk2, hr2⟩
      · rcases List.mem_append.mp hp with h | h
        · rw [hone p h]; exact N' _ (hn _ (List.Mem.head _))
        · exact N' _ (hn _ (List.Mem.tail _ h))
      · exact hnc2 p hp (List.mem_singleton.mp hq)
    cases f with
    | ret v => exact p
    | brk => exact p
    | next => exact fin p
    | cont => exact fin p
  · rintro h' tk m' news' F' N' _ ⟨c, rfl, hfc, hnc, hk1, hr1⟩
    exact done c m' h' tk hfc (by rw [em m' c hk1 hr1]; exact F') N'
theorem for_goN {σ : Type} {xv : Value} {m₀ : Str → Option Value} (P : Nat → Value → Prop) (n : Nat) (Led : σ → Led) (ps : σ → List (Str × Value)) (Facts : Nat → σ → Prop) (stored : List Str) (c₀ : σ)
    (hh : A.handled = none) (src : Src prog w xv n P s) (F : Fr h₀ env.locals s.heap m₀) (N : News h₀ env.locals s.heap (Led c₀)) (hk : ∀ p ∈ ps c₀, m₀ p.1 = some p.2) (hf : Facts 0 c₀)
    (turn : ∀ (i : Nat) (v : Value) (c : σ) (u : Str → Option Value) (h : Heap) (tk : Nat) (I : Addr) (oI : Obj), i < n → P i v → (∀ p ∈ Led c, p.1 ≠ I) → Facts i c → Fr h₀ env.locals h (fun y => if y = x then some v else kstB (fun z => if stored.contains z then u z else m₀ z) (ps c) y) → News h₀ env.locals h ((I, oI) :: Led c) →
      wpAny (model prog w) A (execs body env) (ForPost h₀ env.locals s (I, oI) Led ps (fun c => Facts (i + 1) c ∧ ∀ p ∈ Led c, p.1 ≠ I) stored m₀ Q) E { s with heap := h, toks := tk })
    (done : ∀ (c : σ) (u : Str → Option Value) (h : Heap) (tk : Nat), Facts n c → Fr h₀ env.locals h (kstB (fun z => if stored.contains z then u z else m₀ z) (ps c)) → News h₀ env.locals h (Led c) → Q .next { s with heap := h, toks := tk }) :
    wpAny (model prog w) A (pyIter xv) (fun it s₂ => LoopAtV prog w A h₀ env x body Q E it s₂) E s := by
  refine src A _ _ hh fun o St W st0 hIo hSt => ?_
  refine for_coreN (s := { s with heap := s.heap.push o }) Led ps Facts stored c₀ W st0 hIo (List.mem_singleton.mpr rfl) (fun b hb => .inl (List.mem_singleton.mp hb)) (next_is_new F) ?_ (F.push _) (fun p hp => ⟨Heap.get?_push_of_some _ (N p hp).1, (N p hp).2⟩) (fun p hp => Nat.ne_of_lt (Heap.lt_size (N p hp).1)) hk hf ?_ ?_
  · intro hm
    exact absurd F.ns.lt ((List.mem_singleton.mp hm) ▸ Nat.lt_irrefl _)
  · exact fun i v c u h tk oI => turn i v c u h tk _ oI
  · exact done
/-- the same over a list that stood before -/
theorem for_list {σ : Type} {l : Addr} {vs : List Value} {m₀ : Str → Option Value} (Led : σ → Led) (ps : σ → List (Str × Value)) (Facts : Nat → σ → Prop) (stored : List Str) (c₀ : σ)
    (hh : A.handled = none) (hl : h₀.IsList l vs.toArray) (F : Fr h₀ env.locals s.heap m₀) (N : News h₀ env.locals s.heap (Led c₀)) (hadr : ∀ c, (Led c).map (·.1) = (Led c₀).map (·.1)) (hk : ∀ p ∈ ps c₀, m₀ p.1 = some p.2) (hf : Facts 0 c₀)
    (turn : ∀ (i : Nat) (v : Value) (c : σ) (u : Str → Option Value) (h : Heap) (tk : Nat) (I : Addr) (oI : Obj), i < vs.length → vs[i]? = some v → AllLt I (Led c) → Facts i c → Fr h₀ env.locals h (fun y => if y = x then some v else kstB (fun z => if stored.contains z then u z else m₀ z) (ps c) y) → News h₀ env.locals h ((I, oI) :: Led c) →
      wpAny (model prog w) A (execs body env) (ForPost h₀ env.locals s (I, oI) Led ps (Facts (i + 1)) stored m₀ Q) E { s with heap := h, toks := tk })
    (done : ∀ (c : σ) (u : Str → Option Value) (h : Heap) (tk : Nat), Facts vs.length c → Fr h₀ env.locals h (kstB (fun z => if stored.contains z then u z else m₀ z) (ps c)) → News h₀ env.locals h (Led c) → Q .next { s with heap := h, toks := tk }) :
    wpAny (model prog w) A (pyIter (.ref l)) (fun it s₂ => LoopAtV prog w A h₀ env x body Q E it s₂) E s := by
  have hls : s.heap.IsList l vs.toArray := hl.at fun o e => F.keep l o e
  obtain ⟨ol, hol, _⟩ := id hl
  have hlt : l < h₀.objs.size := Heap.lt_size hol
  have hne : l ≠ s.heap.objs.size := Nat.ne_of_lt (Nat.lt_trans (Nat.lt_of_lt_of_le hlt F.above) F.ns.lt)
  refine wpAny_pyIter_list hls ?_
  have W := Walks.list (prog := prog) (w := w) hh s.heap.objs.size l hne vs.toArray
  rw [List.size_toArray] at W
  refine for_core (s := { s with heap := s.heap.push _ }) Led ps Facts stored c₀ W ⟨⟨_, Heap.get?_push_size _ rfl, rfl, rfl⟩, hls.at fun o e => Heap.get?_push_of_some _ e⟩ (fun i h st => let ⟨o, e, _⟩ := st.1; ⟨o, e⟩) (List.mem_cons_self ..) (fun b hb => ?_) (next_is_new F) ?_ (F.push _) (fun p hp => ⟨Heap.get?_push_of_some _ (N p hp).1, (N p hp).2⟩) (allLt_of fun p hp => Heap.lt_size (N p hp).1) hadr hk hf ?_ ?_
  · rcases List.mem_cons.mp hb with e | e
    · exact .inl e
    · exact .inr (by rw [List.mem_singleton.mp e, hol]; exact Option.some_ne_none _)
  · intro hm
    rcases List.mem_cons.mp hm with e | hm
    · exact absurd F.ns.lt (e ▸ Nat.lt_irrefl _)
    · exact absurd (Nat.lt_of_lt_of_le hlt F.above) ((List.mem_singleton.mp hm) ▸ Nat.lt_irrefl _)
  · exact fun i v c u h tk oI h1 h2 => turn i v c u h tk _ oI h1 (by simpa using h2)
  · exact done
end
end Mine
end
section
open PySem PySem.W PySem.Calls PyProof.Rows
set_option maxRecDepth 100000
namespace Mine
theorem BytesAre.snoc {y : Array UInt8} {t : Tok} : ∀ {vs : List Value} {ys : List (Array UInt8)}, BytesAre vs ys → BytesAre (vs ++ [.bytes y t]) (ys ++ [y])
  | _, _, .nil => .cons y t .nil
  | _, _, .cons z u r => .cons z u (BytesAre.snoc r)
theorem bytes_eq {x y : Array UInt8} {t : Tok} {vs : List Value} {ns : List (Array UInt8)} (h : BytesAre vs ns) (e : x = y) : BytesAre (vs ++ [.bytes x t]) (ns ++ [y]) := e ▸ h.snoc
theorem joined_cat (bs : List (Array UInt8)) : Builtin.Bytes.joined #[] bs = (bs.flatMap fun x => x.toList).toArray := by
  have key : ∀ (bs : List (Array UInt8)) (k : Nat) (a : Array UInt8), (bs.zipIdx k).foldl (fun out (x : Array UInt8 × Nat) => (if x.2 > 0 then out ++ #[] else out) ++ x.1) a = a ++ (bs.flatMap fun x => x.toList).toArray := by
    intro bs
    induction bs with
    | nil => intro k a; simp
    | cons b r ih =>
      intro k a
      rw [List.zipIdx_cons, List.foldl_cons, ih]
      have e : (if k > 0 then a ++ #[] else a) = a := by split <;> simp
      show ((if k > 0 then a ++ #[] else a) ++ b) ++ _ = _
      rw [e]
      apply Array.toList_inj.mp
      simp
  have := key bs 0 #[]
  rw [Array.empty_append] at this
  exact this
theorem fold_size : ∀ (bs : List (Array UInt8)) (k : Nat), bs.foldl (· + ·.size) k = k + (bs.flatMap fun x => x.toList).length
  | [], k => by simp
  | b :: r, k => by rw [List.foldl_cons, fold_size r]; simp; omega
section
variable {prog : Program} {w : World} {A : Around} {E : Value → Shared → Prop} {s : Shared} {h₀ : Heap} {L : Addr} {m : Str → Option Value} {news : Led}
theorem my_join {t : Tok} {l : Addr} {vs : List Value} {bs : List (Array UInt8)} {os : List UInt8} {n : Nat} {Q : Value → Shared → Prop} (N : News h₀ L s.heap news) (hm : (l, listOf vs.toArray n) ∈ news) (hv : BytesAre vs bs) (ho : (bs.flatMap fun x => x.toList) = os) (hz : os.length ≤ 1000)
    (h : ∀ t' k, Q (.bytes os.toArray t') { s with toks := k }) : wpAny (model prog w) A (call (.builtin "bytes.join") [.bytes #[] t, .ref l]) Q E s := by
  refine call_join (N _ hm).1 hv ?_ ?_ fun t' k => ?_
  · rw [fold_size, ho, sizeLine_eq]
    show 0 * _ + _ ≤ _
    omega
  · rw [joined_cat, ho, List.size_toArray, sizeLine_eq]; omega
  · rw [joined_cat, ho]; exact h t' k
end
end Mine
end
section
open PySem PySem.W PySem.Calls PyProof.Rows
set_option maxRecDepth 100000
namespace Mine
section
variable {prog : Program} {w : World} {A : Around} {E : Value → Shared → Prop} {s : Shared} {h₀ : Heap} {env : Env} {x : Str} {body : List Stmt} {Q : Flow → Shared → Prop}
/-- a turn that may also break off: then Fin holds -/
noncomputable def ForPostB {σ : Type} (h₀ : Heap) (L : Addr) (s : Shared) (own : Addr × Obj) (Led : σ → Led) (ps : σ → List (Str × Value)) (Facts Fin : σ → Prop) (stored : List Str) (m₀ : Str → Option Value) (Q : Flow → Shared → Prop) (fl : Flow) (s₂ : Shared) : Prop :=
  match fl with
  | .ret v => Q (.ret v) s₂
  | .brk => ForEnd h₀ L s own Led ps Fin stored m₀ s₂
  | _ => ForEnd h₀ L s own Led ps Facts stored m₀ s₂
theorem ForPostB.brk {σ : Type} {L : Addr} {own : Addr × Obj} {Led : σ → Mine.Led} {ps : σ → List (Str × Value)} {Facts Fin : σ → Prop} {stored : List Str} {m₀ : Str → Option Value} {s₂ : Shared} (h : ForEnd h₀ L s own Led ps Fin stored m₀ s₂) : ForPostB h₀ L s own Led ps Facts Fin stored m₀ Q .brk s₂ := h
theorem ForPostB.next {σ : Type} {L : Addr} {own : Addr × Obj} {Led : σ → Mine.Led} {ps : σ → List (Str × Value)} {Facts Fin : σ → Prop} {stored : List Str} {m₀ : Str → Option Value} {s₂ : Shared} (h : ForEnd h₀ L s own Led ps Facts stored m₀ s₂) : ForPostB h₀ L s own Led ps Facts Fin stored m₀ Q .next s₂ := h
theorem for_names {σ : Type} (ps : σ → List (Str × Value)) (stored : List Str) (m₀ m : Str → Option Value) (c : σ) (h1 : ∀ p ∈ ps c, m p.1 = some p.2) (h2 : ∀ z, (∀ p ∈ ps c, z ≠ p.1) → stored.contains z = false → m z = m₀ z) :
    kstB (fun z => if stored.contains z then m z else m₀ z) (ps c) = m := by
  funext y
  refine kstB_eq h1 fun hn => ?_
  show (if stored.contains y = true then m y else m₀ y) = m y
  cases h3 : stored.contains y with
  | true => simp
  | false => simp only [Bool.false_eq_true, if_false]; exact (h2 y hn h3).symm
theorem for_goB {σ : Type} {xv : Value} {m₀ : Str → Option Value} (P : Nat → Value → Prop) (n : Nat) (Led : σ → Led) (ps : σ → List (Str × Value)) (Facts : Nat → σ → Prop) (Fin : σ → Prop) (stored : List Str) (c₀ : σ)
    (hh : A.handled = none) (src : Src prog w xv n P s) (F : Fr h₀ env.locals s.heap m₀) (N : News h₀ env.locals s.heap (Led c₀)) (hadr : ∀ c, (Led c).map (·.1) = (Led c₀).map (·.1)) (hk : ∀ p ∈ ps c₀, m₀ p.1 = some p.2) (hf : Facts 0 c₀) (hfin : ∀ c, Facts n c → Fin c)
    (turn : ∀ (i : Nat) (v : Value) (c : σ) (u : Str → Option Value) (h : Heap) (tk : Nat) (I : Addr) (oI : Obj), i < n → P i v → AllLt I (Led c) → Facts i c → Fr h₀ env.locals h (fun y => if y = x then some v else kstB (fun z => if stored.contains z then u z else m₀ z) (ps c) y) → News h₀ env.locals h ((I, oI) :: Led c) →
      wpAny (model prog w) A (execs body env) (ForPostB h₀ env.locals s (I, oI) Led ps (Facts (i + 1)) Fin stored m₀ Q) E { s with heap := h, toks := tk })
    (done : ∀ (c : σ) (u : Str → Option Value) (h : Heap) (tk : Nat), Fin c → Fr h₀ env.locals h (kstB (fun z => if stored.contains z then u z else m₀ z) (ps c)) → News h₀ env.locals h (Led c) → Q .next { s with heap := h, toks := tk }) :
    wpAny (model prog w) A (pyIter xv) (fun it s₂ => LoopAtV prog w A h₀ env x body Q E it s₂) E s := by
  refine for_go P n Led ps Facts stored c₀ hh src F N hadr hk hf (fun i v c u h tk I oI hi hP hlt hfc F₁ N₁ => ?_) fun c u h tk hfc F₁ N₁ => done c u h tk (hfin c hfc) F₁ N₁
  refine wpAny_mono (turn i v c u h tk I oI hi hP hlt hfc F₁ N₁) (fun fl s₂ p => ?_) fun _ _ e => e
  cases fl with
  | ret v => exact p
  | next => exact p
  | cont => exact p
  | brk =>
    obtain ⟨c', h', tk', m', news', rfl, F', N', hn, hk2, hr2, hf2⟩ := p
    exact done c' m' h' tk' hf2 (by rw [for_names ps stored m₀ m' c' hk2 hr2]; exact F') (fun p hp => N' _ (hn _ (List.Mem.tail _ hp)))
end
end Mine
end
section
open PySem PySem.W PySem.Calls PyProof.Rows
open PySem.Builtin
set_option maxRecDepth 100000
namespace Mine
theorem slot_dloop : entryFor table "dict.update.loop" = some Builtin.«dict.update.loop» := entryFor_of_tree (by kernel_rfl)
theorem plain_dloop : plainId "dict.update.loop" = true := by decide +kernel
theorem no_keys : typeLookup (.type "list") "keys" = pure none := am_miss_of_fast (by kernel_rfl)
section
variable {prog : Program} {w : World} {A : Around} {E : Value → Shared → Prop} {s : Shared}
theorem keys_miss {a : Addr} {o : Obj} {xs : Array Value} {k : Nat} {name : Str} {Q : Option Value → Shared → Prop}
    (hx : s.heap.get? a = some o) (hc : o.cls = .type "list") (hdat : o.data = .seq xs k) (hd : o.dict = none) (hmiss : typeLookup (.type "list") name = pure none) (hname : (["__module__", "__name__", "__qualname__", "__doc__", "__annotations__"] : List Str).contains name = false) (hA : A.handled = none)
    (h : ∀ h' tk, (∀ b o, s.heap.get? b = some o → h'.get? b = some o) → Q none { s with heap := h', toks := tk }) (hsz : name.length + 100 ≤ sizeLine := by size_fits) :
    wpAny (model prog w) A (getAttr? (.ref a) name) Q E s := by
  obtain ⟨c, dct, dat, sl⟩ := o
  simp only at hc hdat hd
  subst hc hdat hd
  obtain ⟨hp, g, d, tk, os⟩ := s
  have hT : ∀ tk', (⟨hp, g, d, tk', os⟩ : Shared).TypeIs (.ref a) "list" := fun _ => ⟨_, hx, rfl⟩
  have f1 := sub_AttributeError
  have f3 := F.slot_list_getattribute.lookup
  have f4 := F.slot_list_getattribute.bind (.ref a)
  have f5 := am_list_getattr_none
  unfold getAttr? getAttrBy? getAttrBy
  repeat (any_goals (first | assumption | exact hT _ | ((with_reducible show wpAny _ _ (call (Value.builtin "list.__getattribute__") _ _) _ _ _); refine call_meets F.slot_list_getattribute (hT _) am_entry_list_getattribute (F.args_list_getattribute_2 _ _) (meets_getattribute_miss_list a xs k sl name _ hmiss hname hsz) ⟨hx, hA, fun h' tk' e hx' => ?_⟩) | wp_step))
  obtain ⟨t', u', he⟩ := hx'.there
  show wpAny _ _ (getattributeRaised _ _ _ _ _ _ _) _ _ _
  unfold getattributeRaised
  repeat (any_goals (first | assumption | wp_step))
  exact h _ _ hx'.keeps
noncomputable abbrev pairO (k : Int) (t : Tok) (v : Value) : Obj := { cls := .type "tuple", data := .seq [Value.int k t, v].toArray }
noncomputable def PairsAt (h : Heap) (I d : Addr) (vs : List Value) (kvs : List (Int × Value)) : Prop :=
  vs.length = kvs.length ∧ ∀ (i : Nat) (k : Int) (v : Value), kvs[i]? = some (k, v) → ∃ a t, vs[i]? = some (.ref a) ∧ a ≠ I ∧ a ≠ d ∧ h.get? a = some (pairO k t v)
theorem Nodup.not_mem_take {α : Type} : ∀ {l : List α} {i : Nat} {x : α}, l.Nodup → l[i]? = some x → x ∉ l.take i
  | [], _, _, _, h => by simp at h
  | a :: l, 0, x, _, _ => by simp
  | a :: l, i + 1, x, hn, h => by
    rw [List.nodup_cons] at hn
    rw [List.getElem?_cons_succ] at h
    rw [List.take_succ_cons, List.mem_cons]
    rintro (rfl | h2)
    · exact hn.1 (List.mem_of_getElem? h)
    · exact Nodup.not_mem_take hn.2 h h2
theorem stored_snoc {kvs : List (Int × Value)} {k : Int} {v : Value} (h : k ∉ kvs.map (·.1)) : stored kvs k v = kvs ++ [(k, v)] := by
  unfold stored
  rw [if_neg]
  intro hc
  obtain ⟨kv, hm, e⟩ := List.any_eq_true.mp hc
  exact h (List.mem_map.mpr ⟨kv, hm, of_decide_eq_true e⟩)
theorem dp_loop {R : Result → Shared → Prop} {l I d : Addr} {vs : List Value} {kvs : List (Int × Value)} (hh : A.handled = none) (hnd : (kvs.map (·.1)).Nodup) (hz : kvs.length ≤ sizeLine) (hId : I ≠ d) (hlI : l ≠ I) (hld : l ≠ d) :
    ∀ (k i : Nat) (s : Shared), kvs.length - i = k → i ≤ kvs.length → s.heap.IsList l vs.toArray → s.heap.IsListIter I l i → s.heap.DictOf (intKind prog w) d (kvs.take i) → PairsAt s.heap I d vs kvs →
      (∀ h' k', (∀ b o, b ≠ I → b ≠ d → s.heap.get? b = some o → h'.get? b = some o) → h'.DictOf (intKind prog w) d kvs → R (.ok (.ret .none)) { s with heap := h', toks := k' }) →
      codeAny (model prog w) A (.builtin "dict.update.loop" ⟨[.ref d, .ref I, .int (i : Int) 0, .none], []⟩) R s := by
  intro k
  induction k with
  | zero =>
    intro i s hk hle hl hit hd hp hR
    have hin : i = kvs.length := by omega
    subst hin
    refine codeAny_builtin slot_dloop ?_
    rw [Around.under_plainId plain_dloop _]
    show wpAny _ A.in1 (pyNext (.ref I) >>= _) _ _ s
    refine wpAny_bind (wpAny_pyNext_list_end hh hit hl (by simp [hp.1]) fun h' he => ?_)
    rw [List.take_length] at hd
    refine wpAny_bind (wpAny_pure (wpAny_pure ?_))
    exact hR h' _ (fun b o hb _ e => he b o hb e) (hd.extBut he hId.symm)
  | succ k ih =>
    intro i s hk hle hl hit hd hp hR
    have hlt : i < kvs.length := by omega
    obtain ⟨⟨x, v⟩, hx⟩ : ∃ x, kvs[i]? = some x := ⟨kvs[i], List.getElem?_eq_getElem hlt⟩
    obtain ⟨a, t, ha, haI, had, hat⟩ := hp.2 i x v hx
    refine codeAny_builtin slot_dloop ?_
    rw [Around.under_plainId plain_dloop _]
    show wpAny _ A.in1 (pyNext (.ref I) >>= _) _ _ s
    refine wpAny_bind (wpAny_pyNext_list_item (x := .ref a) hit hl (by simpa using ha) fun h' hit' hs => ?_)
    have hat' : h'.get? a = some (pairO x t v) := (hs.2 a haI).trans hat
    refine wpAny_bind (wpAny_holding ?_)
    refine wpAny_bind (wpAny_tryCatch ?_)
    unfold Dict.pairItems
    refine wpAny_bind (wpAny_typeOf (T := "tuple") (by exact ⟨_, hat', rfl⟩) ?_)
    refine bm_if_true (by decide) ?_
    refine wpAny_bind (wpAny_seqItems hat' rfl (wpAny_pure ?_))
    show wpAny _ _ (holding [Value.int x t, v] (dictSet d (Value.int x t) v)) _ _ _
    refine wpAny_holding (wpAny_dictSet_pairs (k := x) (intKind_is prog w x t) (hd.sameBut hs hId.symm) (fun h2 hd2 hs2 => ?_) (by rw [List.length_take]; omega))
    have hnot : x ∉ (kvs.take i).map (·.1) := by
      rw [List.map_take]
      exact Nodup.not_mem_take hnd (by rw [List.getElem?_map, hx]; rfl)
    rw [stored_snoc hnot] at hd2
    have e2 : kvs.take i ++ [(x, v)] = kvs.take (i + 1) := by rw [List.take_add_one, hx]; rfl
    rw [e2] at hd2
    refine wpAny_pure ⟨plainId_quiet plain_dloop _, ?_⟩
    refine ih (i + 1) { s with heap := h2, toks := s.toks + 1 } (by omega) hlt ((hl.extBut hs.extBut hlI).extBut hs2.extBut hld) (hit'.extBut hs2.extBut hId) hd2 ⟨hp.1, fun j k' v' hj => ?_⟩ fun h3 k3 hk3 hd3 => ?_
    · obtain ⟨a', t', q1, q2, q3, q4⟩ := hp.2 j k' v' hj
      exact ⟨a', t', q1, q2, q3, (hs2.2 a' q3).trans ((hs.2 a' q2).trans q4)⟩
    · exact hR h3 k3 (fun b o hbI hbd e => hk3 b o hbI hbd ((hs2.2 b hbd).trans ((hs.2 b hbI).trans e))) hd3
theorem call_dict_pairs {l : Addr} {ol : Obj} {n : Nat} {vs : List Value} {kvs : List (Int × Value)} {Q : Value → Shared → Prop} (hh : A.handled = none) (hol : s.heap.get? l = some ol) (hc : ol.cls = .type "list") (hdat : ol.data = .seq vs.toArray n) (hdi : ol.dict = none)
    (hnd : (kvs.map (·.1)).Nodup) (hz : kvs.length ≤ sizeLine) (hp : vs.length = kvs.length ∧ ∀ (i : Nat) (k : Int) (v : Value), kvs[i]? = some (k, v) → ∃ a t, vs[i]? = some (.ref a) ∧ s.heap.get? a = some (pairO k t v))
    (hQ : ∀ h' k', (∀ b o, s.heap.get? b = some o → h'.get? b = some o) → h'.DictOf (intKind prog w) s.heap.objs.size kvs → Q (.ref s.heap.objs.size) { s with heap := h', toks := k' }) :
    wpAny (model prog w) A (call (.type "dict") [.ref l]) Q E s := by
  refine callType_codes (Q₁ := fun obj s₁ => obj = .ref s.heap.objs.size ∧ s₁ = { s with heap := s.heap.push { cls := .type "dict", data := .dict #[] } }) F.kt_called_dict (F.kt_typeCall_dict_1 _) F.entry_dict_init (kt_code_dict_new _ ⟨rfl, rfl⟩) ?_
  rintro obj s₁ ⟨rfl, rfl⟩
  have hnew : (s.heap.push { cls := .type "dict", data := .dict #[] }).DictOf (intKind prog w) s.heap.objs.size [] := Heap.DictOf.new s.heap
  have hl1 : (s.heap.push { cls := .type "dict", data := .dict #[] }).get? l = some ol := Heap.get?_push_of_some _ hol
  have hll : l < s.heap.objs.size := Heap.lt_size hol
  refine ⟨hnew.typeIs, F.args_dict_init_2 _ _, ?_⟩
  unfold Builtin.«dict.__init__»
  refine wpAny_bind ?_
  unfold Builtin.Dict.selfAndRest
  refine wpAny_bind (wpAny_notOrdered_dict hnew.typeIs ?_)
  show wpAny _ _ (pure (s.heap.objs.size, [Value.ref l])) _ _ _
  refine wpAny_pure ?_
  show wpAny _ _ (Builtin.Dict.updateFrom "dict.__init__" s.heap.objs.size (.ref l) [] .none) _ _ _
  unfold Builtin.Dict.updateFrom
  refine wpAny_bind (wpAny_typeOf (T := "list") (by exact ⟨_, hl1, hc⟩) ?_)
  refine bm_if_true (by decide) ?_
  refine wpAny_bind (keys_miss hl1 hc hdat hdi no_keys (by decide) hh (fun h1 tk1 hk1 => ?_))
  refine bm_if_true rfl ?_
  refine wpAny_bind (wpAny_rule ?_)
  refine wpAny_bind (wpAny_pyIter_list (items := vs.toArray) ⟨_, hk1 _ _ hl1, hc, n, hdat⟩ ?_)
  have hd1 : h1.DictOf (intKind prog w) s.heap.objs.size [] := hnew.keep hk1
  have hlt1 : s.heap.objs.size < h1.objs.size := by obtain ⟨o, _, _, q, _⟩ := hd1; exact Heap.lt_size q
  have main := dp_loop (prog := prog) (w := w) (A := A.in1) (R := wants (fun r s₂ => r = .none ∧ Q (.ref s.heap.objs.size) s₂) E) (l := l) (I := h1.objs.size) (d := s.heap.objs.size) (vs := vs) (kvs := kvs) (by exact hh) hnd hz (Nat.ne_of_gt hlt1) (Nat.ne_of_lt (Nat.lt_trans hll hlt1)) (Nat.ne_of_lt hll)
    kvs.length 0 { s with heap := h1.push { cls := .type "list_iterator", data := .fields #[.ref l, .int 0 0] }, toks := tk1 } rfl (Nat.zero_le _) ⟨_, Heap.get?_push_of_some _ (hk1 _ _ hl1), hc, n, hdat⟩ ⟨_, Heap.get?_push_size _ rfl, rfl, rfl⟩ (hd1.push _)
    ⟨hp.1, fun i k v hi => by
      obtain ⟨a, t, q1, q2⟩ := hp.2 i k v hi
      have ha := Heap.lt_size q2
      exact ⟨a, t, q1, Nat.ne_of_lt (Nat.lt_trans ha hlt1), Nat.ne_of_lt ha, Heap.get?_push_of_some _ (hk1 _ _ (Heap.get?_push_of_some _ q2))⟩⟩
    fun h' k' hk hd => ⟨rfl, hQ h' k' (fun b o e => hk b o (Nat.ne_of_lt (Nat.lt_trans (Heap.lt_size e) hlt1)) (Nat.ne_of_lt (Heap.lt_size e)) (Heap.get?_push_of_some _ (hk1 _ _ (Heap.get?_push_of_some _ e)))) hd⟩
  first
    | exact wpAny_pure ⟨plainId_quiet plain_dloop _, main⟩
    | exact wpAny_pure (wpAny_pure ⟨plainId_quiet plain_dloop _, main⟩)
    | exact wpAny_bind (wpAny_pure (wpAny_pure ⟨plainId_quiet plain_dloop _, main⟩))
theorem dict_item {value slice : PySem.Expr} {d : Addr} {kvs : List (Int × Value)} {k : Int} {u : Tok} {v : Value} {Q : Value → Shared → Prop} (hm : s.heap.DictOf (intKind prog w) d kvs) (hv : valueAt kvs k = some v) (h : Q v { s with toks := s.toks + 1 })
    (hs : subscripted slice false (.ref d) (.int k u) = operate [.ref d, .int k u] (getItem (.ref d) (.int k u)) := by with_unfolding_all rfl) :
    wpAny (model prog w) A (subscriptTail value slice (.ref d) (.int k u)) Q E s :=
  tail_any hm.typeIs F.slot_dict_getitem.lookup (wpAny_getItem_of (intKind_is prog w k u) hm.mapOf hv h) hs
end
end Mine
end
section
open PySem PySem.W PySem.Calls PyProof.Rows
set_option maxRecDepth 100000
namespace Mine
open Builtin
theorem contains_eq {b : Array UInt8} {t u : Tok} {i : Int} (h0 : 0 ≤ i) (h1 : i < 256) : «bytes.__contains__» ⟨[.bytes b t, .int i u], []⟩ = ret (.bool (b.contains i.toNat.toUInt8)) := by
  unfold «bytes.__contains__»
  have e2 : asIndex (.int i u) = pure i := rfl
  have e3 : (pure i : Sem Int).attempt = pure (.ok i) := rfl
  have e4 : (decide (i < 0) || decide (i ≥ 256)) = false := by simp; omega
  have e5 : Bytes.containsIn "bytes.__contains__" (.bytes b t) (.int i u) = pure (b.contains i.toNat.toUInt8) := by
    unfold Bytes.containsIn
    simp only [pure_bind, e2, e3, KBy.buffer_eq, e4]
    rfl
  show (Bytes.containsIn "bytes.__contains__" (.bytes b t) (.int i u) >>= fun r => ret (.bool r)) = _
  rw [e5]
  rfl
section
variable {prog : Program} {w : World} {A : Around} {E : Value → Shared → Prop} {s : Shared} {b : Array UInt8} {t u : Tok} {i : Int} {Q : Value → Shared → Prop}
theorem notin_bytes (h0 : 0 ≤ i) (h1 : i < 256) (h : Q (.bool (!(b.contains i.toNat.toUInt8))) s) : wpAny (model prog w) A (compareOp .NotIn (.int i u) (.bytes b t)) Q E s :=
  notIn_gives (typeIs_bytes _ _ _) FB.slot_bytes_contains FB.entry_bytes_contains (FB.args_bytes_contains_2 _ _) (.of_eq (contains_eq h0 h1)) h
end
end Mine
end
section
open PySem PySem.W PySem.Calls PyProof.Rows
set_option maxRecDepth 100000
namespace Mine
section
variable {prog : Program} {w : World} {A : Around} {E : Value → Shared → Prop} {s : Shared} {h₀ : Heap} {L : Addr} {m : Str → Option Value} {env : Env}
theorem comp_goN {elt iter : Expr} {x : Str} {px : Pos} {scope : Scope} {cl : List (Str × Addr)} {pos : Pos} {Q : Value → Shared → Prop} (P : Nat → Value → Prop) (Inv : Nat → List Value → Led → Prop)
    (hclos : closureFor scope env = pure cl) (hcell : ∀ y ∈ scope.names, y.2 ≠ .cell) (hkind : scope.kind = .function)
    (hnames : ∀ y ∈ scope.names, y.2 = .local → scope.names.lookup y.1 = some .local) (hx : scope.names.lookup x = some .local) (hh : A.handled = none) (F₀ : Fr h₀ L s.heap m)
    (h : wpAny (model prog w) A (eval iter env) (fun xv s₁ => ∃ n, n ≤ sizeLine ∧ SrcPost prog w A h₀ L m env elt x scope cl P n Inv Q xv s₁) E s)
    (hs : ∀ x, foldedSetIterable iter env x = pure x := by intro _; rfl) :
    wpAny (model prog w) A (eval (.ListComp elt [⟨.Name x px, iter, [], 0⟩] scope pos) env) Q E s := by
  rw [eval_ListComp]
  refine wpAny_comprehension_free (use := none) rfl hs hclos hkind hnames (wpAny_mono h (fun xv s₁ h₁ => ?_) fun _ _ e => e)
  obtain ⟨n, hsz, news, src, F, N, hI, hadr, turn, fin⟩ := h₁
  refine src A _ _ hh fun o St W st0 hIo hSt => ?_
  refine LCg.block_U (S := fun _ => True) (Fin := LCg.FinE h₀ L m { s₁ with heap := s₁.heap.push o } Q) W hsz hIo (fun i h h' o nw st e e' _ _ _ => hSt i h h' o st e e') hcell hkind hx st0 (fun b hb => ?_)
    (F.keeps fun _ _ e => Heap.get?_push_of_some _ e) (N.grown fun _ _ e => Heap.get?_push_of_some _ e) (Nat.ne_of_lt F.ns.lt) (next_is_new F) (fun p hp => Nat.ne_of_lt (Heap.lt_size (N p hp).1)) trivial ?_ ?_
  · rw [List.mem_singleton.mp hb]
    show s₁.heap.objs.size < (s₁.heap.push _).objs.size
    rw [Heap.size_push]; exact Nat.lt_succ_self _
  · exact rest_of hadr (turn _) (fun ys nw hI' D h tk F' N' o1 => fin D ys nw h tk hI' F' N' o1) n 0 [] news (Nat.zero_add _) hI
  · intro D C h' tk m' ys news' F' N' o1 hn hC₀ hD₀ hCL hDL hCD offC fin'
    refine ⟨m', hn, fun h'' hs'' => fin' D h'' tk (F'.change hs'' hCL hC₀) (fun p hp => ?_) o1⟩
    refine ⟨hs''.extBut _ _ ?_ (N' p hp).1, (N' p hp).2⟩
    rcases List.mem_cons.mp hp with rfl | hp
    · exact Ne.symm hCD
    · exact offC p hp
end
end Mine
end
section
open PySem PySem.W PySem.Calls PyProof.Rows
set_option maxRecDepth 100000
namespace Mine
/-- as Spec, of a call from within a class's call -/
noncomputable def SpecI (w : World) (c : Nat) (f : Addr) (vs : List Value) (news : Led) (P : Value → Led → Prop) : Prop :=
  ∀ (dp un : Nat) (gd : Option (List Code)) (cn : Str) (cs : Scope) (a : Addr) (ccd : Value) (cl : List (Str × Addr)) (outer : List Env) (A₀ : Around) (base h₀ : Heap) (L : Addr) (m : Str → Option Value) (s : Shared) (R : Result → Shared → Prop)
    (p : Program) (loose : List Str) (mean : ExcName → Option Value) (mg mb : Str → Option Value),
    Below A₀ base outer h₀ → Fr h₀ L s.heap m → (K w.params).In h₀ → News h₀ L s.heap news → Top p loose mean mg mb h₀ → cs.kind = .function → dp + c < recursionLimit → un + 8 * c < cLine →
    (∀ v news' h' tk, P v news' → Fr h₀ L h' m → News h₀ L h' news' → R (.ok (.ret v)) { s with heap := h', toks := tk }) →
    codeAny (model pw w) (ktrTop dp un gd cn cs L a ccd cl outer) (.call (.ref f) ⟨vs, []⟩) R s
theorem spec_ofI {w : World} {c : Nat} {f : Addr} {vs : List Value} {news : Led} {P : Value → Led → Prop} {name qual : Str} {params : Arguments} {body : List Stmt} {scope : Scope} {dV kV doc pm cdv ct oc : Value} {an od : Option Addr} {osl : Array (Option Value)} {binds : List (Str × Value)}
    (ho : (K w.params).lookup f = some ⟨oc, od, .func (fnOf name qual params body scope dV kV doc pm an cdv ct), osl⟩) (hcd : codeIn (K w.params) cdv qual = true)
    (hbind : bindArgs (fnOf name qual params body scope dV kV doc pm an cdv ct) ⟨vs, []⟩ = pure binds) (hloc : (binds.all fun x => decide (scope.names.lookup x.1 = some .local)) = true)
    (hco : scope.isCoroutine = false) (hgen : scope.isGenerator = false) (hk : scope.kind = .function) (hcell : ∀ x ∈ scope.names, x.2 ≠ .cell)
    (h : Body w c f qual scope cdv body (fun y => binds.reverse.lookup y) news P) : SpecI w (c + 1) f vs news P := by
  intro dp un gd cn cs a ccd cl outer A₀ base h₀ L m s R p loose mean mg mb B F X N T hkc hd hu hret
  refine code_def (env := envX cn cs L a ccd cl) B F X N T rfl rfl hkc ho hcd (by show dp < recursionLimit; omega) (BindsTo.of_eq hbind) (locs hloc) (fun g L' h₁ FG F' N' B' X' T' => ?_) hco hgen hk hcell
  have key := h (dp + 1) (un + 3) gd (envX cn cs L a ccd cl :: outer) _ base g L' h₁ (s.toks + binds.length) s p loose mean mg mb B' F' X' N' T' (by omega) (by omega)
  refine wpAny_mono key (fun fl s' hr => ?_) (fun _ _ x => x.elim)
  obtain ⟨h', tk, m', news', rfl, F'', N'', hp⟩ := hr
  refine leaveK_ F'' N'' fun F3 N3 => ?_
  cases fl with
  | ret v => exact hret _ _ _ _ hp F3 N3
  | next => exact hret _ _ _ _ hp F3 N3
  | brk => exact hret _ _ _ _ hp F3 N3
  | cont => exact hret _ _ _ _ hp F3 N3
/-- a class of the text, called -/
theorem make_use {w : World} {c : Nat} {C fI : Addr} {pos : List Value} {news : Led} {P : Addr → Addr → Led → Prop} (sp : ∀ x dx, (∀ p ∈ news, p.1 < dx) → dx < x → SpecI w c fI (.ref x :: pos) ((x, instObj C dx) :: (dx, dictOf [] 0) :: news) (fun v nw => v = .none ∧ P x dx nw))
    {dp un : Nat} {gd : Option (List Code)} {cn : Str} {cs : Scope} {a : Addr} {ccd : Value} {cl : List (Str × Addr)} {outer : List Env} {A₀ : Around} {base h₀ : Heap} {L : Addr} {m : Str → Option Value} {s : Shared} {Q E : Value → Shared → Prop}
    {p : Program} {loose : List Str} {mean : ExcName → Option Value} {mg mb : Str → Option Value}
    (hm : makesIn (K w.params) C = true) (hi : findIn (K w.params) (.ref C) "__init__" = some (some (.ref fI))) (hf : isFn (K w.params) (.ref fI) = true)
    (B : Below A₀ base outer h₀) (F : Fr h₀ L s.heap m) (X : (K w.params).In h₀) (N : News h₀ L s.heap news) (T : Top p loose mean mg mb h₀) (hk : cs.kind = .function) (hd : dp + 1 + c < recursionLimit) (hu : un + 1 + 8 * c < cLine)
    (hret : ∀ x dx news' h' tk, (∀ p ∈ news, p.1 < dx) → dx < x → P x dx news' → Fr h₀ L h' m → News h₀ L h' news' → Q (.ref x) { s with heap := h', toks := tk }) :
    wpAny (model pw w) (ktrTop dp un gd cn cs L a ccd cl outer) (call (.ref C) pos) Q E s := by
  refine call_cls F X N hm hi hf fun x dx h' F' N' hlt hx => ?_
  refine sp x dx hlt hx (dp + 1) (un + 1) _ cn cs a ccd cl outer A₀ base h₀ L m { s with heap := h' } _ p loose mean mg mb B F' X N' T hk hd hu ?_
  rintro v news' h2 tk ⟨rfl, hp⟩ F2 N2
  exact ⟨rfl, hret x dx news' h2 tk hlt hx hp F2 N2⟩
end Mine
end
section
open PySem PySem.W PySem.Calls PyProof.Rows
set_option maxRecDepth 100000
namespace Mine
open Builtin
theorem gives_none_bytes (b : Array UInt8) (t : Tok) : Gives (Builtin.«NoneType.__eq__» ⟨[.none, .bytes b t], []⟩) (.val Value.notImplemented) :=
  .of_wp fun M A E s Q h => by obtain ⟨hp, g, d, tk, os⟩ := s; wp_walk; exact ⟨_, rfl, h⟩
theorem gives_bytes_none (b : Array UInt8) (t : Tok) : Gives («bytes.__eq__» ⟨[.bytes b t, .none], []⟩) (.val Value.notImplemented) := by
  refine .of_wp fun M A E s Q hq => ?_
  show wpAny M A (isInstance .none (.type "bytes") >>= fun r => _) _ E s
  refine wpAny_bind (wpAny_isInstance (T := "NoneType") (by rfl) F.sub_NoneType_bytes ?_)
  refine wpAny_bind (wpAny_isInstance (T := "NoneType") (by rfl) F.sub_NoneType_bytes ?_)
  rw [if_pos (by rfl)]
  exact wpAny_bind (wpAny_rule (wpAny_pure ⟨_, rfl, hq⟩))
section
variable {prog : Program} {w : World} {A : Around} {E : Value → Shared → Prop} {s : Shared}
theorem eqAt_none (b : Array UInt8) (t : Tok) : SeqAt.EqAt A s (.bytes b t) .none false := fun prog w E Q h => by
  unfold eqBool
  refine wpAny_holding ?_
  rw [if_neg (by intro h; exact absurd (eq_of_beq h) (by intro h; cases h))]
  refine wpAny_bind ?_
  exact EqNone.wpAny_richCompare_eq_decline (k := false) (fun s' => typeIs_bytes s' b t) (fun _ => rfl) (by decide) F.sub_NoneType_bytes FB.slot_bytes_eq F.slot_NoneType_eq_refl rfl
    (call_gives FB.slot_bytes_eq (typeIs_bytes s b t) FB.entry_bytes_eq (FB.args_bytes_eq_2 _ _) (gives_bytes_none b t)
      ⟨rfl, call_gives F.slot_NoneType_eq_refl rfl F.entry_NoneType_eq (F.args_NoneType_eq_2 _ _) (gives_none_bytes b t) ⟨rfl, wpAny_truthy_bool h⟩⟩)
theorem eqAt_bytes (b c : Array UInt8) (t u : Tok) : SeqAt.EqAt A s (.bytes b t) (.bytes c u) (decide (b.toList = c.toList)) := fun prog w E Q h => eqBool_bytes h
/-- a value of bytes, or none, within a tuple of two -/
noncomputable def sameB (o : Option (List UInt8)) (b : List UInt8) : Bool := match o with | none => false | some c => decide (b = c)
noncomputable def isB (o : Option (List UInt8)) : Value → Bool
  | .bytes b _ => sameB o b.toList
  | _ => false
end
end Mine
end
section
open PySem PySem.W PySem.Calls PyProof.Rows
set_option maxRecDepth 100000
namespace Mine
open Builtin
/-- where the sign 10 stands: nowhere, or first there -/
theorem ext_one {b : List UInt8} {i : Nat} : (b.toArray.extract i (i + 1) == #[10]) = (b[i]? == some 10) := by
  have e : (b.toArray.extract i (i + 1)).toList = (b.drop i).take 1 := by simp
  cases h : b[i]? with
  | none =>
    have h1 : b.drop i = [] := List.drop_eq_nil_of_le (List.getElem?_eq_none_iff.mp h)
    rw [h1] at e
    have e2 : b.toArray.extract i (i + 1) = #[] := Array.toList_inj.mp e
    rw [e2]; rfl
  | some c =>
    obtain ⟨hlt, hc⟩ := List.getElem?_eq_some_iff.mp h
    have h1 : (b.drop i).take 1 = [c] := by rw [List.drop_eq_getElem_cons hlt, hc]; rfl
    rw [h1] at e
    have e2 : b.toArray.extract i (i + 1) = #[c] := Array.toList_inj.mp e
    rw [e2]
    rw [Bool.eq_iff_iff]
    simp
theorem find_is {b : List UInt8} {lo hi : Nat} : Bytes.find? b.toArray #[10] lo hi = ((List.range (hi - lo)).map (· + lo)).find? fun i => b[i]? == some 10 := by
  unfold Bytes.find?
  have e : hi + 1 - (lo + (#[10] : Array UInt8).size) = hi - lo := by show hi + 1 - (lo + 1) = _; omega
  rw [e]
  congr 1
  funext i
  exact ext_one
theorem find_none' {b : List UInt8} {lo hi : Nat} (h : ∀ j, lo ≤ j → j < hi → b[j]? ≠ some 10) : Bytes.find? b.toArray #[10] lo hi = none := by
  rw [find_is, List.find?_eq_none]
  intro x hx
  obtain ⟨y, hy, rfl⟩ := List.mem_map.mp hx
  rw [List.mem_range] at hy
  have := h (y + lo) (by omega) (by omega)
  simpa using this
theorem find_some' {b : List UInt8} {lo hi f : Nat} (h1 : lo ≤ f) (h2 : f < hi) (h3 : b[f]? = some 10) (h : ∀ j, lo ≤ j → j < f → b[j]? ≠ some 10) : Bytes.find? b.toArray #[10] lo hi = some f := by
  rw [find_is, List.find?_map]
  have e : f - lo + lo = f := by omega
  have key : (List.range (hi - lo)).find? ((fun i => b[i]? == some 10) ∘ fun x => x + lo) = some (f - lo) := by
    rw [List.find?_range_eq_some]
    refine ⟨?_, ?_, ?_⟩
    · show (b[f - lo + lo]? == some 10) = true
      rw [e, h3]; rfl
    · rw [List.mem_range]; omega
    · intro j hj
      have := h (j + lo) (by omega) (by omega)
      show (!(b[j + lo]? == some 10)) = true
      simpa using this
  rw [key, Option.map_some, e]
theorem window_nat {n lo hi : Nat} (h : hi ≤ n) : Bytes.window n (some (lo : Int)) (some (hi : Int)) = ((lo : Int), (hi : Int)) := by
  unfold Bytes.window
  simp only [Option.getD_some]
  have e1 : ¬ ((lo : Int) < 0) := by omega
  have e2 : ¬ ((hi : Int) < 0) := by omega
  rw [if_neg e1, if_neg e2]
  congr 1
  omega
theorem findZ_eq {b : List UInt8} {lo hi : Nat} (hh : hi ≤ b.length) : findZ b.toArray #[10] (some (lo : Int)) (some (hi : Int)) = match Bytes.find? b.toArray #[10] lo hi with | some i => (i : Int) | none => -1 := by
  unfold findZ findW
  have hs : b.toArray.size = b.length := by simp
  rw [hs, window_nat hh]
  dsimp only
  have h1 : (#[10] : Array UInt8).size = 1 := rfl
  rw [h1]
  by_cases h : (hi : Int) - (lo : Int) < ((1 : Nat) : Int)
  · rw [if_pos h]
    have e : Bytes.find? b.toArray #[10] lo hi = none := find_none' fun j h2 h3 => by omega
    rw [e]
    rfl
  · rw [if_neg h]
    rfl
theorem findZ_no {b : List UInt8} {lo hi : Nat} (hh : hi ≤ b.length) (h : ∀ j, lo ≤ j → j < hi → b[j]? ≠ some 10) : findZ b.toArray #[10] (some (lo : Int)) (some (hi : Int)) = -1 := by
  rw [findZ_eq hh, find_none' h]
theorem findZ_at {b : List UInt8} {lo hi f : Nat} (hh : hi ≤ b.length) (h1 : lo ≤ f) (h2 : f < hi) (h3 : b[f]? = some 10) (h : ∀ j, lo ≤ j → j < f → b[j]? ≠ some 10) : findZ b.toArray #[10] (some (lo : Int)) (some (hi : Int)) = (f : Int) := by
  rw [findZ_eq hh, find_some' h1 h2 h3 h]
theorem findZ_all {b : List UInt8} (h : ∀ c ∈ b, c ≠ 10) : findZ b.toArray #[10] (some 0) none = -1 := by
  unfold findZ findW
  have hs : b.toArray.size = b.length := by simp
  have hw : Bytes.window b.length (some 0) none = ((0 : Int), (b.length : Int)) := by
    unfold Bytes.window
    simp only [Option.getD_some, Option.getD_none]
    have e2 : ¬ ((b.length : Int) < 0) := by omega
    rw [if_neg e2]
    congr 1
    omega
  rw [hs, hw]
  dsimp only
  have e : Bytes.find? b.toArray #[10] 0 b.length = none := find_none' fun j h2 h3 e => h 10 (List.mem_of_getElem? e) rfl
  split
  · rename_i i hi
    exfalso
    split at hi
    · cases hi
    · rw [show ((some ((0 : Int).toNat, ((b.length : Int)).toNat) : Option (Nat × Nat)).bind fun x => Bytes.find? b.toArray #[10] x.1 x.2) = Bytes.find? b.toArray #[10] 0 b.length from rfl] at hi
      rw [e] at hi
      cases hi
  · rfl
end Mine
end
section
open PySem PySem.W PySem.Calls PyProof.Rows
set_option maxRecDepth 100000
namespace Mine
theorem fill_on (_ : ∀ P, K P = K P) (_ : PySem.Challenge.rw_no0378_01 = PySem.Challenge.rw_no0378_01) : True := by
  first
  | (have : (∀ P, K P = K P) ∧ PySem.Challenge.rw_no0378_01 = PySem.Challenge.rw_no0378_01 := by k_fill; exact ⟨fun _ => rfl, rfl⟩
     fail)
  | trivial
local macro_rules | `(tactic| walk_at "subscriptTail") => `(tactic| (k_here; (with_reducible show wpAny _ _ (subscriptTail _ _ (Value.ref _) (Value.int _ _)) _ _ _); k_dflt (refine' my_item ?k1 ?k2 ?k3 ?k4 ?k5 ?_; (case k1 => k_asm); (case k2 => k_mem); (case k3 => decide); (case k4 => decide); (case k5 => rfl); k_whole)))
local macro_rules | `(tactic| walk_at "setItem ref int") => `(tactic| (k_here; k_dflt (refine' my_set ?k1 ?k2 ?k3 ?k4 ?_; (case k1 => k_asm); (case k2 => k_asm); (case k3 => assumption); (case k4 => rfl); k_whole); intro h' F' N'; dsimp only [List.set, Int.toNat] at N'))
noncomputable abbrev tapeO (c : Addr) (at_ : Int) (tk : Tok) (n : Nat) : Obj := listOf ([.ref c, .int at_ tk] : List Value).toArray n
noncomputable def Drawn1 (g : Obj → Led) (c : Addr) (at_ limit : Int) (n : Nat) (v : Value) (news' : Led) : Prop := ∃ r tkr tk', 0 ≤ r ∧ r < limit ∧ v = .int r tkr ∧ news' = g (tapeO c (at_ + 1) tk' n)
set_option maxHeartbeats 4000000 in
theorem draw_spec {w : World} {news : Led} {t c : Addr} {at_ limit : Int} {tk tkl : Tok} {n nn : Nat} {vs : List Value} {ns : List Int} {g : Obj → Led}
    (U : UpdF t (tapeO c at_ tk n) news g) (hc : (c, listOf vs.toArray nn) ∈ news) (htc : c ≠ t) (hi : IntsAre vs ns) (hne : 0 < ns.length) (hle : ns.length ≤ 20) (h0 : 0 ≤ at_) (h1 : at_ ≤ 20) (hl0 : 0 < limit) (hl1 : limit ≤ 8) :
    Spec w 1 380 [.ref t, .int limit tkl] news (Drawn1 g c at_ limit n) := by
  have ht := updF_mem U
  refine' spec_of (binds := [(Str.ofString "tape", .ref t), (Str.ofString "limit", .int limit tkl)]) ?ho ?hcd ?hb ?hl ?h1 ?h2 ?h3 ?h4 ?h
  case ho => k_is
  case hcd => k_is
  case hb => rfl
  case hl => rfl
  case h1 => rfl
  case h2 => rfl
  case h3 => rfl
  case h4 => decide
  intro dp un gd outer A₀ base g' L' h' tk' s' p loose mean mg mb B' F' X' N' T' hd hu
  k_steps
  have hc2 := fun o' => updF_other (o' := o') U hc htc
  refine kst_len (by assumption) (hc2 _) (IntsAre.length hi) (by omega) ?_
  k_steps
  have hm0 : 0 ≤ at_.fmod ns.length := Int.fmod_nonneg_of_pos _ (by omega)
  have hm1 : at_.fmod ns.length < ns.length := Int.fmod_lt_of_pos _ (by omega)
  refine ksa_sub (by assumption) (hc2 _) hi hm0 hm1 (by omega) (fun u => ?_) (by with_unfolding_all rfl)
  k_steps
  refine kst_len (by assumption) (hc2 _) (IntsAre.length hi) (by omega) ?_
  k_steps
  exact Ret.intro (by assumption) (by assumption) ⟨_, _, _, Int.fmod_nonneg_of_pos _ hl0, Int.fmod_lt_of_pos _ hl0, rfl, rfl⟩
end Mine
end
section
open PySem PySem.W PySem.Calls PyProof.Rows
set_option maxRecDepth 100000
namespace Mine
noncomputable abbrev tupO (vs : List Value) : Obj := { cls := .type "tuple", data := .seq vs.toArray }
/-- a new tuple of these -/
noncomputable def TupR (news : Led) (R : List Value → Prop) (v : Value) (nw : Led) : Prop := ∃ a vs, v = .ref a ∧ nw = (a, tupO vs) :: news ∧ R vs
set_option maxHeartbeats 8000000 in
theorem follower_span_spec {w : World} {news : Led} {t : Tok} : Spec w 1 127 [.int 195 t] news (TupR news fun vs => ∃ t1 t2 t3, vs = [.int 128 t1, .int 191 t2, .int 1 t3]) := by
  refine' spec_of (binds := [(Str.ofString "lead", .int 195 t)]) ?ho ?hcd ?hb ?hl ?h1 ?h2 ?h3 ?h4 ?h
  case ho => k_is
  case hcd => k_is
  case hb => rfl
  case hl => rfl
  case h1 => rfl
  case h2 => rfl
  case h3 => rfl
  case h4 => decide
  intro dp un gd outer A₀ base g' L' h' tk' s' p loose mean mg mb B' F' X' N' T' hd hu
  k_steps
  exact Ret.intro (by assumption) (by assumption) ⟨_, _, rfl, rfl, _, _, _, rfl⟩
noncomputable def pairR (a b : Int) (vs : List Value) : Prop := ∃ t1 t2, vs = [.int a t1, .int b t2]
theorem pairR_of {a a' b b' : Int} {t1 t2 : Tok} (h1 : a' = a) (h2 : b' = b) : pairR a b [.int a' t1, .int b' t2] := ⟨t1, t2, by rw [h1, h2]⟩
set_option maxHeartbeats 8000000 in
theorem utf8_one {w : World} {news : Led} {b : List UInt8} {k : Nat} {t u : Tok} (hb : b.length ≤ 1000) (hk : k < b.length) (hl : (b.getD k 0).toNat < 128) : Spec w 2 134 [.bytes b.toArray t, .int (k : Int) u] news (TupR news (pairR ((b.getD k 0).toNat : Int) 1)) := by
  refine' spec_of (binds := [(Str.ofString "octets", .bytes b.toArray t), (Str.ofString "at", .int (k : Int) u)]) ?ho ?hcd ?hb ?hl ?h1 ?h2 ?h3 ?h4 ?h
  case ho => k_is
  case hcd => k_is
  case hb => rfl
  case hl => rfl
  case h1 => rfl
  case h2 => rfl
  case h3 => rfl
  case h4 => decide
  intro dp un gd outer A₀ base g' L' h' tk' s' p loose mean mg mb B' F' X' N' T' hd hu
  have hl' : ((b.getD ((k : Int)).toNat 0).toNat : Int) < 128 := Int.ofNat_lt.mpr hl
  k_steps
  exact Ret.intro (by assumption) (by assumption) ⟨_, _, rfl, rfl, _, _, rfl⟩
set_option maxHeartbeats 8000000 in
theorem utf8_two {w : World} {news : Led} {b : List UInt8} {k : Nat} {t u : Tok} (hb : b.length ≤ 1000) (hk : k + 1 < b.length) (hl : b.getD k 0 = 195) (hm : b.getD (k + 1) 0 = 169) : Spec w 2 134 [.bytes b.toArray t, .int (k : Int) u] news (TupR news (pairR 233 2)) := by
  refine' spec_of (binds := [(Str.ofString "octets", .bytes b.toArray t), (Str.ofString "at", .int (k : Int) u)]) ?ho ?hcd ?hb ?hl ?h1 ?h2 ?h3 ?h4 ?h
  case ho => k_is
  case hcd => k_is
  case hb => rfl
  case hl => rfl
  case h1 => rfl
  case h2 => rfl
  case h3 => rfl
  case h4 => decide
  intro dp un gd outer A₀ base g' L' h' tk' s' p loose mean mg mb B' F' X' N' T' hd hu
  have hl' : ((b.getD ((k : Int)).toNat 0).toNat : Int) = 195 := by
    show (((b.getD k 0).toNat : Nat) : Int) = 195
    rw [hl]; rfl
  have hm1 : ((b.getD ((k : Int) + (1 + ((0 : Nat) : Int))).toNat 0).toNat : Int) = 169 := by
    show (((b.getD (k + 1) 0).toNat : Nat) : Int) = 169
    rw [hm]; rfl
  k_steps
  all_goals (simp only [hl'] at *)
  refine Spec.use (follower_span_spec) B' (by assumption) X' (by assumption) T' rfl (by omega) (by omega) ?_
  rintro v nw' h2 tk2 ⟨a1, vs1, rfl, rfl, t1, t2, t3, rfl⟩ F2 N2
  k_steps
  refine UnrEnd.intro (by assumption) (by assumption) news (by intro p hp; simp only [List.mem_cons] at hp ⊢; rcases hp with h | h <;> simp [h]) (fun p hp => Nat.ne_of_lt (kst_ltOf (And.right (a := a1 < _) (by assumption)) p hp)) ?_
  k_steps
  exact Ret.intro (by assumption) (by assumption) ⟨_, _, rfl, rfl, pairR_of (by rw [hm1]; rfl) rfl⟩
end Mine
end
section
open PySem PySem.W PySem.Calls PyProof.Rows
set_option maxRecDepth 100000
namespace Mine
noncomputable def hexZ (c : Int) : Int := if 48 ≤ c ∧ c ≤ 57 then c - 48 else if 65 ≤ c ∧ c ≤ 70 then c - 55 else if 97 ≤ c ∧ c ≤ 102 then c - 87 else -1
theorem hexZ_le (c : Int) : -1 ≤ hexZ c ∧ hexZ c ≤ 15 := by unfold hexZ; (repeat' split) <;> omega
set_option maxHeartbeats 8000000 in
theorem hex_worth_spec {w : World} {news : Led} {c : Int} {t : Tok} : Spec w 1 216 [.int c t] news (fun v nw => (∃ t, v = .int (hexZ c) t) ∧ nw = news) := by
  refine' spec_of (binds := [(Str.ofString "code", .int c t)]) ?ho ?hcd ?hb ?hl ?h1 ?h2 ?h3 ?h4 ?h
  case ho => k_is
  case hcd => k_is
  case hb => rfl
  case hl => rfl
  case h1 => rfl
  case h2 => rfl
  case h3 => rfl
  case h4 => decide
  intro dp un gd outer A₀ base g' L' h' tk' s' p loose mean mg mb B' F' X' N' T' hd hu
  k_steps
  all_goals (
    refine Ret.intro (by assumption) (by assumption) ⟨⟨_, congrArg (fun z => Value.int z _) ?_⟩, rfl⟩
    unfold hexZ
    (repeat' split) <;> omega)
noncomputable def quotedZ (b : List UInt8) (k : Nat) : Int :=
  if b.length ≤ k + 2 then -1 else
  if 0 ≤ hexZ ((b.getD (k + 1) 0).toNat : Int) ∧ 0 ≤ hexZ ((b.getD (k + 2) 0).toNat : Int) then 16 * hexZ ((b.getD (k + 1) 0).toNat : Int) + hexZ ((b.getD (k + 2) 0).toNat : Int) else -1
set_option maxHeartbeats 8000000 in
theorem quoted_at_spec {w : World} {news : Led} {b : List UInt8} {k : Nat} {tb t : Tok} (hb : b.length ≤ 1000) (hk : k < b.length) : Spec w 2 223 [.bytes b.toArray tb, .int (k : Int) t] news (fun v nw => (∃ t, v = .int (quotedZ b k) t) ∧ nw = news) := by
  refine' spec_of (binds := [(Str.ofString "data", .bytes b.toArray tb), (Str.ofString "at", .int (k : Int) t)]) ?ho ?hcd ?hb ?hl ?h1 ?h2 ?h3 ?h4 ?h
  case ho => k_is
  case hcd => k_is
  case hb => rfl
  case hl => rfl
  case h1 => rfl
  case h2 => rfl
  case h3 => rfl
  case h4 => decide
  intro dp un gd outer A₀ base g' L' h' tk' s' p loose mean mg mb B' F' X' N' T' hd hu
  have hsz : b.toArray.size = b.length := by simp
  have z1 := hexZ_le ((b.getD (k + 1) 0).toNat : Int)
  have z2 := hexZ_le ((b.getD (k + 2) 0).toNat : Int)
  obtain ⟨z1a, z1b⟩ := z1
  obtain ⟨z2a, z2b⟩ := z2
  k_steps
  · exact Ret.intro (by assumption) (by assumption) ⟨⟨_, by unfold quotedZ; rw [if_pos (by omega)]⟩, rfl⟩
  refine Spec.use hex_worth_spec B' (by assumption) X' (by assumption) T' rfl (by omega) (by omega) ?_
  rintro v nw' h2 tk2 ⟨⟨t1, rfl⟩, e9⟩ F2 N2
  rw [e9] at N2
  have e1 : ((k : Int) + 1).toNat = k + 1 := by omega
  have e2 : ((k : Int) + 2).toNat = k + 2 := by omega
  try simp only [e1]
  k_steps
  refine Spec.use hex_worth_spec B' (by assumption) X' (by assumption) T' rfl (by omega) (by omega) ?_
  rintro v nw' h2 tk2 ⟨⟨t1, rfl⟩, e9⟩ F2 N2
  rw [e9] at N2
  try simp only [e2]
  k_steps
  · exact Ret.intro (by assumption) (by assumption) ⟨⟨_, by unfold quotedZ; rw [if_neg (by omega), if_pos ⟨by assumption, by assumption⟩]⟩, rfl⟩
  · exact Ret.intro (by assumption) (by assumption) ⟨⟨_, by unfold quotedZ; rw [if_neg (by omega), if_neg (fun h => absurd h.2 (by assumption))]⟩, rfl⟩
  · exact Ret.intro (by assumption) (by assumption) ⟨⟨_, by unfold quotedZ; rw [if_neg (by omega), if_neg (fun h => absurd h.1 (by assumption))]⟩, rfl⟩
end Mine
end
local macro_rules
  | `(tactic| walk_at "getMethod bytes") => `(tactic| first | (refine Mine.m_find ?_) | (refine Mine.m_split ?_) | (refine Mine.m_strip ?_) | (refine Mine.m_rstrip ?_) | (refine Mine.m_join ?_))
  | `(tactic| walk_at "call builtin:bytes.find") => `(tactic| first | (refine Mine.call_find3 fun t' k' => ?_) | (refine Mine.call_find4 fun t' k' => ?_))
  | `(tactic| walk_at "subscriptTail Name Slice bytes ref") => `(tactic| refine Mine.stop ?_)
section
local macro_rules
  | `(tactic| walk_at "eval ListComp") => `(tactic| refine Mine.stop ?_)
  | `(tactic| walk_at "pyIter ref") => `(tactic| refine Mine.stop ?_)
  | `(tactic| walk_at "pyIter bytes") => `(tactic| refine Mine.stop ?_)
  | `(tactic| walk_at "exec While Compare cons nil") => `(tactic| refine Mine.stop ?_)
section
open PySem PySem.W PySem.Calls PyProof.Rows
set_option maxRecDepth 100000
namespace Mine
noncomputable def lowerZ (c : Int) : Int := if 65 ≤ c ∧ c ≤ 90 then c + 32 else c
set_option maxHeartbeats 4000000 in
theorem lower_code_spec {w : World} {news : Led} {c : Int} {t : Tok} : Spec w 1 85 [.int c t] news (fun v nw => (∃ t', v = .int (lowerZ c) t') ∧ nw = news) := by
  refine' spec_of (binds := [(Str.ofString "code", .int c t)]) ?ho ?hcd ?hb ?hl ?h1 ?h2 ?h3 ?h4 ?h
  case ho => k_is
  case hcd => k_is
  case hb => rfl
  case hl => rfl
  case h1 => rfl
  case h2 => rfl
  case h3 => rfl
  case h4 => decide
  intro dp un gd outer A₀ base g' L' h' tk' s' p loose mean mg mb B' F' X' N' T' hd hu
  k_steps
  · refine Ret.intro (by assumption) (by assumption) ⟨⟨_, congrArg (fun z => Value.int z _) ?_⟩, rfl⟩
    unfold lowerZ; rw [if_pos ⟨by assumption, by assumption⟩]
  · refine Ret.intro (by assumption) (by assumption) ⟨⟨_, congrArg (fun z => Value.int z _) ?_⟩, rfl⟩
    unfold lowerZ; rw [if_neg (by omega)]
  · refine Ret.intro (by assumption) (by assumption) ⟨⟨_, congrArg (fun z => Value.int z _) ?_⟩, rfl⟩
    unfold lowerZ; rw [if_neg (by omega)]
noncomputable def lowSign (c : Nat) : Str := ⟨#[(lowerZ (c : Int)).toNat]⟩
noncomputable def lowerS (x : Str) : Str := catS (x.cps.toList.map lowSign)
set_option maxHeartbeats 4000000 in
theorem lower_text_spec {w : World} {news : Led} {x : Str} {t : Tok} (hx : x.cps.size ≤ 1000) (hs : ∀ c ∈ x.cps.toList, c < 1000) : Spec w 2 90 [.str x t] news (fun v nw => (∃ t', v = .str (lowerS x) t') ∧ nw = news) := by
  refine' spec_of (binds := [(Str.ofString "text", .str x t)]) ?ho ?hcd ?hb ?hl ?h1 ?h2 ?h3 ?h4 ?h
  case ho => k_is
  case hcd => k_is
  case hb => rfl
  case hl => rfl
  case h1 => rfl
  case h2 => rfl
  case h3 => rfl
  case h4 => decide
  intro dp un gd outer A₀ base g' L' h' tk' s' p loose mean mg mb B' F' X' N' T' hd hu
  k_steps
  with_reducible refine Stop.go ?_
  refine comp_go (SignAt x) x.cps.size (fun i ys nw => nw = news ∧ StrsAre ys ((x.cps.toList.take i).map lowSign)) (by rfl) (by decide) (by rfl) (by decide) (by rfl) (by rw [sizeLine_eq]; omega) (by rfl) (by assumption) ?_
  k_steps
  refine SrcPost.intro (by assumption) (by assumption) src_str ⟨rfl, by simpa using StrsAre.nil⟩ (fun i ys nw hI => by rw [hI.1]) (fun g => ?_) (fun D ys nw h tk hI F₁ N₁ o1 => ?_)
  · rintro i v I oI C oC D m₂ ys nw h tk hi ⟨c, u, hc, rfl⟩ ⟨rfl, hys⟩ hC hx₂ F₁ N₁ off ne
    have hcm : c ∈ x.cps.toList := by rw [← Array.getElem?_toList] at hc; exact List.mem_of_getElem? hc
    have hc9 := hs c hcm
    have hz : 0 ≤ lowerZ (c : Int) ∧ lowerZ (c : Int) ≤ 2000 := by unfold lowerZ; split <;> omega
    have hz0 := hz.1
    have hz1 := hz.2
    k_steps
    refine Spec.use lower_code_spec B' (by assumption) X' (by assumption) T' rfl (by omega) (by omega) ?_
    rintro v nw' h2 tk2 ⟨⟨t2, rfl⟩, rfl⟩ F2 N2
    k_steps
    refine EltPost.intro (by assumption) (by assumption) (fun _ h => h) ⟨rfl, ?_⟩
    have e : (x.cps.toList.take (i + 1)) = x.cps.toList.take i ++ [c] := by
      rw [List.take_add_one, Array.getElem?_toList, hc]; rfl
    rw [e, List.map_append]
    exact StrsAre.snoc hys
  · obtain ⟨rfl, hys⟩ := hI
    k_steps
    have e : x.cps.toList.take x.cps.size = x.cps.toList := List.take_of_length_le (by simp)
    rw [e] at hys
    refine call_sjoin (N₁ _ (List.Mem.head _)).1 hys ?_ (by simp; omega) fun t' k => ?_
    · intro y hy
      obtain ⟨c, _, rfl⟩ := List.mem_map.mp hy
      exact (by decide : (1 : Nat) ≤ 8)
    k_steps
    exact Ret.drop F₁ N₁ ⟨⟨_, rfl⟩, rfl⟩ fun p hp => List.Mem.tail _ hp
end Mine
end
section
open PySem PySem.W PySem.Calls PyProof.Rows
set_option maxRecDepth 100000
namespace Mine
theorem big {w : World} {g : Heap} (X : (K w.params).In g) : sysModules < g.objs.size := by
  obtain ⟨o, ho⟩ : ∃ o, (K w.params).lookup 26 = some o := ⟨_, by k_is⟩
  exact Nat.lt_trans (by decide) (Heap.lt_size (X _ _ ho))
theorem size_one (n : Nat) : Builtin.Range.rangeSize 0 (n : Int) 1 = (n : Int) := by
  unfold Builtin.Range.rangeSize
  rw [if_pos (by decide)]
  by_cases h : (0 : Int) < (n : Int)
  · rw [if_pos h, Int.ediv_one]; omega
  · rw [if_neg h]; omega
theorem small_one (n : Nat) (h : n ≤ 1000) : Builtin.Range.small 0 (n : Int) 1 = true := by
  unfold Builtin.Range.small
  rw [size_one]
  unfold Builtin.Range.rangeFitsLong
  rw [if_pos (by decide)]
  simp only [Bool.and_eq_true, Bool.or_eq_true, decide_eq_true_eq]
  refine ⟨⟨⟨⟨?_, ?_⟩, ?_⟩, ?_⟩, .inr ?_⟩ <;> omega
noncomputable def TabIs (b : List UInt8) (i : Nat) (kvs : List (Int × Value)) : Prop :=
  kvs.length = i ∧ ∀ (j : Nat) (x : UInt8), j < i → b[j]? = some x → ∃ u, kvs[j]? = some ((x.toNat : Int), .int (j : Int) u)
noncomputable def PairInv (b : List UInt8) (c : Addr) (oc : Obj) (i : Nat) (ys : List Value) (nw : Led) : Prop :=
  ∃ (tl : Led) (kvs : List (Int × Value)), nw = (c, oc) :: tl ∧ ys.length = i ∧ TabIs b i kvs ∧ ∀ (j : Nat) (k : Int) (v : Value), kvs[j]? = some (k, v) → ∃ a t, ys[j]? = some (.ref a) ∧ (a, pairO k t v) ∈ tl
theorem TabIs.keys {b : List UInt8} {kvs : List (Int × Value)} (h : TabIs b b.length kvs) : kvs.map (·.1) = b.map fun x => (x.toNat : Int) := by
  apply List.ext_getElem?
  intro j
  rw [List.getElem?_map, List.getElem?_map]
  by_cases hj : j < b.length
  · obtain ⟨u, hu⟩ := h.2 j b[j] hj (List.getElem?_eq_getElem hj)
    rw [hu, List.getElem?_eq_getElem hj]; rfl
  · rw [List.getElem?_eq_none (by rw [h.1]; omega), List.getElem?_eq_none (by omega)]; rfl
theorem TabIs.nodup {b : List UInt8} {kvs : List (Int × Value)} (h : TabIs b b.length kvs) (hn : b.Nodup) : (kvs.map (·.1)).Nodup := by
  rw [h.keys]
  refine hn.map _ (fun x y hne e => hne ?_)
  exact UInt8.toNat_inj.mp (Int.ofNat.inj e)
set_option maxHeartbeats 8000000 in
theorem worth_table_spec {w : World} {b : List UInt8} {tb : Tok} (hb : b.length ≤ 1000) (hn : b.Nodup) : SpecR w 1 26 [.bytes b.toArray tb] (fun _ => True) (fun v tl => ∃ (d : Addr) (o : Obj) (kvs : List (Int × Value)), v = .ref d ∧ tl = [(d, o)] ∧ (d == sysModules) = false ∧ o.IsDictOf (intKind pw w) kvs ∧ TabIs b b.length kvs) := by
  refine' spec_roC (binds := [(Str.ofString "alphabet", .bytes b.toArray tb)]) (m := fun _ => none) (cm := fun y => if y = Str.ofString "alphabet" then some (.bytes b.toArray tb) else none) ?ho ?hcd ?hb ?hl ?hnd ?h1 ?h2 ?h3 ?hm ?hcm ?h
  case ho => k_is
  case hcd => k_is
  case hb => exact rfl
  case hl => rfl
  case hnd => decide
  case h1 => rfl
  case h2 => rfl
  case h3 => rfl
  case hm => intro L; rfl
  case hcm => intro L; rfl
  intro dp un gd outer A₀ base g' L' h' tk' cells s' p loose mean mg mb B' F' X' N' Y T' hd hu hpre
  have hsz : b.toArray.size = b.length := by simp
  obtain ⟨oc, rfl, hoc⟩ := CellsAre.one Y
  k_steps
  with_reducible refine Stop.go ?_
  refine comp_go2 (fun i v => ∃ t, v = .int (0 + (i : Int) * 1) t) b.length (PairInv b (L' + 1) oc) (by rfl) (by decide) (by rfl) (by decide) (by rfl) (by rw [sizeLine_eq]; omega) (by rfl) (by assumption) ?_
  k_steps
  refine SrcPost2.intro (by assumption) (by assumption) (src_range (n := b.length) (by assumption) ?_ ?_) ⟨_, [], rfl, rfl, ⟨rfl, fun j c hj => absurd hj (Nat.not_lt_zero _)⟩, fun j k v hj => by simp at hj⟩ (fun g => ?_) (fun D ys nw h tk hI F₁ N₁ o1 => ?_)
  · show Builtin.Range.small 0 (b.toArray.size : Int) 1 = true
    rw [hsz]; exact small_one b.length (by omega)
  · show Builtin.Range.rangeSize 0 (b.toArray.size : Int) 1 = _
    rw [hsz]; exact size_one b.length
  · rintro i v I oI C oC D m₂ ys nw h tk hi ⟨t, rfl⟩ ⟨tl, kvs, rfl, hyl, hkv, hys⟩ hC hx₂ F₁ N₁ off ne
    have kMark := kstMark
    have e1 : (0 + (i : Int) * 1) = (i : Int) := by omega
    rw [e1] at hx₂
    k_steps
    have hl := ‹_ ∧ _ ∧ _ ∧ _ ∧ AllLt _ tl›
    rename News _ _ _ _ => nE
    refine EltPost2.made2 (by assumption) nE off hl.1 hl.2.1 hl.2.2.1 ⟨_, kvs ++ [(((b.getD i 0).toNat : Int), .int (i : Int) t)], rfl, ?_, ⟨?_, ?_⟩, ?_⟩
    · rw [List.length_append, hyl]; rfl
    · rw [List.length_append, hkv.1]; rfl
    · intro j x hj hx
      rcases Nat.lt_succ_iff_lt_or_eq.mp hj with h1 | h1
      · obtain ⟨u', q1⟩ := hkv.2 j x h1 hx
        exact ⟨u', by rw [List.getElem?_append_left (by rw [hkv.1]; exact h1)]; exact q1⟩
      · subst h1
        refine ⟨t, ?_⟩
        rw [List.getElem?_append_right (by rw [hkv.1]; exact Nat.le_refl _), hkv.1, Nat.sub_self, List.getD_eq_getElem?_getD, hx]
        rfl
    · intro j k v hj
      by_cases h1 : j < i
      · rw [List.getElem?_append_left (by rw [hkv.1]; exact h1)] at hj
        obtain ⟨a, t', q1, q2⟩ := hys j k v hj
        exact ⟨a, t', by rw [List.getElem?_append_left (by rw [hyl]; exact h1)]; exact q1, List.Mem.tail _ q2⟩
      · rw [List.getElem?_append_right (by rw [hkv.1]; omega), hkv.1] at hj
        by_cases h2 : j = i
        · subst h2
          rw [Nat.sub_self] at hj
          cases hj
          exact ⟨_, _, by rw [List.getElem?_append_right (by rw [hyl]; exact Nat.le_refl _), hyl, Nat.sub_self]; rfl, List.Mem.head _⟩
        · rw [List.getElem?_eq_none (by show 1 ≤ _; omega)] at hj
          cases hj
  · obtain ⟨tl, kvs, rfl, hyl, hkv, hys⟩ := hI
    k_steps
    refine call_dict_pairs (kvs := kvs) (n := ys.length) (by rfl) (N₁ _ (List.Mem.head _)).1 rfl rfl rfl (hkv.nodup hn) (by rw [hkv.1, sizeLine_eq]; omega) ⟨by rw [hyl, hkv.1], fun j k v hj => ?_⟩ fun h2 k2 hk2 hd2 => ?_
    · obtain ⟨a, t, q1, q2⟩ := hys j k v hj
      exact ⟨a, t, q1, (N₁ _ (List.Mem.tail _ (List.Mem.tail _ q2))).1⟩
    · obtain ⟨o, ho, hd⟩ := Heap.dictOf_iff.mp hd2
      refine Ret.intro (news' := [(_, o)]) (F₁.keeps hk2) (fun p hp => ?_) ⟨_, _, kvs, rfl, rfl, ?_, hd, hkv⟩
      rw [List.mem_singleton.mp hp]
      exact ⟨ho, Nat.ne_of_gt F₁.ns.lt, next_is_new F₁⟩
      exact beq_false_of_ne (Nat.ne_of_gt (Nat.lt_trans (Nat.lt_of_lt_of_le (big X') F₁.above) F₁.ns.lt))
end Mine
end
section
open PySem PySem.W PySem.Calls PyProof.Rows
set_option maxRecDepth 100000
namespace Mine
noncomputable def totZ (ns : List Int) : Int := ns.foldl (fun t n => 64 * t + n) 0
theorem ints_at : ∀ {vs : List Value} {ns : List Int} {i : Nat} {v : Value}, IntsAre vs ns → vs[i]? = some v → ∃ n, ns[i]? = some n ∧ ∃ t, v = .int n t
  | _, _, i, _, .nil, h => by simp at h
  | _, _, 0, _, .cons n t _, h => by simp at h; exact ⟨n, rfl, t, h.symm⟩
  | _, _, i + 1, _, .cons n t r, h => by
    rw [List.getElem?_cons_succ] at h
    obtain ⟨m, hm, u, e⟩ := ints_at r h
    exact ⟨m, by rw [List.getElem?_cons_succ]; exact hm, u, e⟩
theorem totZ_succ {ns : List Int} {i : Nat} {n : Int} (h : ns[i]? = some n) : totZ (ns.take (i + 1)) = 64 * totZ (ns.take i) + n := by
  unfold totZ
  rw [List.take_add_one, h]
  simp [List.foldl_append]
structure GT where
  T : Int
  tk : Tok
theorem idx_len {vs : List Value} {ns : List Int} (h : IntsAre vs ns) : vs.toArray.size = ns.length := by rw [List.size_toArray, h.length]
theorem down_small (n : Nat) (h2 : 2 ≤ n) (h4 : n ≤ 4) : Builtin.Range.small ((n : Int) - 1 - 1) (-1) (-1) = true := by
  have hc : n = 2 ∨ n = 3 ∨ n = 4 := by omega
  rcases hc with rfl | rfl | rfl <;> decide
theorem down_size (n : Nat) {k : Nat} (h2 : 2 ≤ n) (h4 : n ≤ 4) (hk : k + 1 = n) : Builtin.Range.rangeSize ((n : Int) - 1 - 1) (-1) (-1) = (k : Int) := by
  have hc : k = 1 ∨ k = 2 ∨ k = 3 := by omega
  subst hk
  rcases hc with rfl | rfl | rfl <;> decide
set_option maxHeartbeats 8000000 in
theorem group_octets {w : World} {l : Addr} {vs : List Value} {ns : List Int} (hi : IntsAre vs ns) (h2 : 2 ≤ ns.length) (h4 : ns.length ≤ 4) {os : List UInt8} (hl : os.length + 1 = ns.length)
    (ho : ∀ j, j < os.length → Builtin.bitAnd (((totZ ns).fdiv (2 ^ (6 - 2 * os.length))).fdiv (2 ^ (8 * (os.length - 1 - j)))) 255 = ((os.getD j 0).toNat : Int)) :
    SpecR w 1 31 [.ref l] (fun h => h.IsList l vs.toArray) (fun v tl => ∃ (a : Addr) (t1 t2 : Tok) (sp : Int), v = .ref a ∧ tl = [(a, tupO [.bytes os.toArray t1, .int sp t2])]) := by
  refine' spec_roC (binds := [(Str.ofString "worth_row", .ref l)]) (m := fun y => if y = Str.ofString "worth_row" then some (.ref l) else none) (cm := fun _ => none) ?ho ?hcd ?hb ?hl ?hnd ?h1 ?h2 ?h3 ?hm ?hcm ?h
  case ho => k_is
  case hcd => k_is
  case hb => exact rfl
  case hl => rfl
  case hnd => decide
  case h1 => rfl
  case h2 => rfl
  case h3 => rfl
  case hm => intro L; rfl
  case hcm => intro L; rfl
  intro dp un gd outer A₀ base g' L' h' tk' cells s' p loose mean mg mb B' F' X' N' Y T' hd hu hpre
  obtain ⟨oc, rfl, hoc⟩ := CellsAre.one Y
  have hvs : vs.toArray.size = ns.length := idx_len hi
  k_steps
  refine For_invV g' (by rfl) (by rfl) ?_
  k_steps
  with_reducible refine Stop.go ?_
  refine for_list (σ := GT) (vs := vs) (fun _ => [(L' + 1, oc)]) (fun c => [(Str.ofString "total", .int c.T c.tk)]) (fun i c => c.T = totZ (ns.take i)) [Str.ofString "total", Str.ofString "number"] ⟨0, _⟩ (by rfl) hpre (by assumption) (by assumption) (fun _ => rfl) (by intro p hp; rw [List.mem_singleton.mp hp]; rfl) rfl ?_ ?_
  · rintro i v ⟨T, tkT⟩ u h tk I oI hin hv hlt hT F₁ N₁
    dsimp only [kstB] at F₁ N₁ hT
    obtain ⟨n, hn, t, rfl⟩ := ints_at hi hv
    k_steps
    rename News _ _ _ _ => nE
    refine ForEnd.intro ⟨_, _⟩ (by assumption) nE (fun p hp => hp) ?_ (by intro p hp; rw [List.mem_singleton.mp hp]; rfl) (by ksw_same)
    show _ = totZ (ns.take (i + 1))
    rw [totZ_succ hn, hT]
  · rintro ⟨T, tkT⟩ u h tk hT F₁ N₁
    dsimp only [kstB] at F₁ N₁ hT
    have hT2 : T = totZ ns := by rw [hT, List.take_of_length_le (by have := hi.length; omega)]
    k_steps
    rename Obj => oW
    with_reducible refine Stop.go ?_
    refine comp_go (fun i v => ∃ t, v = .int (((ns.length : Int) - 1 - 1) + (i : Int) * (-1)) t) os.length (fun i ys nw => nw = [(L' + 1, oW)] ∧ IntsAre ys (octI (os.take i))) (by rfl) (by decide) (by rfl) (by decide) (by rfl) (by rw [sizeLine_eq]; omega) (by rfl) (by assumption) ?_
    k_steps
    refine SrcPost.intro (by assumption) (by assumption) (src_range (by assumption) (down_small _ h2 h4) (down_size _ h2 h4 hl)) ⟨rfl, .nil⟩ (fun i ys nw hI => by rw [hI.1]) (fun g => ?_) (fun D ys nw h tk hI F₁ N₁ oD => ?_)
    · rintro i v I oI C oC D m₂ ys nw h tk hi9 ⟨t, rfl⟩ ⟨rfl, hys⟩ hC hx₂ F₁ N₁ off ne
      have hi8 : i < os.length := hi9
      have hp0 : 0 ≤ 8 * ((ns.length : Int) - 1 - 1 + (i : Int) * (-1)) := by omega
      k_steps
      refine EltPost.intro (by assumption) (by assumption) (fun _ h => h) ⟨rfl, ?_⟩
      rw [octI_snoc (os := os) (k := i) hi8]
      refine ints_eq hys ?_
      rw [hT2, ← ho i hi8]
      rw [show (6 * (ns.length : Int) - 8 * ((ns.length : Int) - 1)).toNat = 6 - 2 * os.length from by omega, show (8 * ((ns.length : Int) - 1 - 1 + (i : Int) * (-1))).toNat = 8 * (os.length - 1 - i) from by omega]
    · obtain ⟨rfl, hys⟩ := hI
      rw [List.take_length] at hys
      k_steps
      refine my_bytes (by assumption) (by assumption) (os := os) (List.Mem.head _) hys (by omega) (by rfl) fun h5 t5 k5 F5 N5 => ?_
      k_steps
      exact Ret.drop (by assumption) (by assumption) ⟨_, _, _, _, rfl, rfl⟩ (fun p hp => by rw [List.mem_singleton.mp hp]; exact List.Mem.head _)
end Mine
end
section
open PySem PySem.W PySem.Calls PyProof.Rows
set_option maxRecDepth 100000
namespace Mine
local macro_rules
  | `(tactic| walk_at "subscriptTail Name Slice ref ref") => `(tactic| refine Mine.stop ?_)
theorem valueAt_of_nodup : ∀ {kvs : List (Int × Value)} {k : Int} {v : Value}, (kvs.map (·.1)).Nodup → (k, v) ∈ kvs → valueAt kvs k = some v
  | [], _, _, _, h => nomatch h
  | (k', v') :: r, k, v, hn, h => by
    rw [List.map_cons, List.nodup_cons] at hn
    unfold valueAt
    rw [List.find?_cons]
    rcases List.mem_cons.mp h with e | h2
    · cases e; simp
    · have hne : k' ≠ k := fun e => hn.1 (e ▸ List.mem_map.mpr ⟨_, h2, rfl⟩)
      simp only [decide_eq_false hne]
      exact valueAt_of_nodup hn.2 h2
noncomputable def b64L : List UInt8 := [65, 66, 67, 68, 69, 70, 71, 72, 73, 74, 75, 76, 77, 78, 79, 80, 81, 82, 83, 84, 85, 86, 87, 88, 89, 90, 97, 98, 99, 100, 101, 102, 103, 104, 105, 106, 107, 108, 109, 110, 111, 112, 113, 114, 115, 116, 117, 118, 119, 120, 121, 122, 48, 49, 50, 51, 52, 53, 54, 55, 56, 57, 43, 47]
theorem b64_nodup : b64L.Nodup := by decide
theorem b64_get {x : Nat} (h : x < 64) : b64L[x]? = some (b64L.getD x 0) := by
  rw [List.getD_eq_getElem?_getD, List.getElem?_eq_getElem (by exact h)]; rfl
theorem b64_not {x : Nat} (h : x < 64) : ((b64L.getD x 0).toNat : Int) ≠ 61 := by
  have : ∀ y : Fin 64, ((b64L.getD y.val 0).toNat : Int) ≠ 61 := by decide
  exact this ⟨x, h⟩
theorem TabIs.at {b : List UInt8} {kvs : List (Int × Value)} (h : TabIs b b.length kvs) (hn : b.Nodup) {j : Nat} {c : UInt8} (hj : b[j]? = some c) : ∃ u, valueAt kvs (c.toNat : Int) = some (.int (j : Int) u) := by
  obtain ⟨hlt, _⟩ := List.getElem?_eq_some_iff.mp hj
  obtain ⟨u, hu⟩ := h.2 j c hlt hj
  refine ⟨u, ?_⟩
  exact valueAt_of_nodup (h.nodup hn) (List.mem_of_getElem? hu)
noncomputable def Grp (ss : List Nat) (os : List UInt8) : Prop :=
  (∃ a0 a1 o0, ss = [a0, a1] ∧ os = [o0] ∧ Builtin.bitAnd (((totZ [(a0 : Int), (a1 : Int)]).fdiv (2 ^ 4)).fdiv (2 ^ 0)) 255 = (o0.toNat : Int)) ∨
  (∃ a0 a1 a2 o0 o1, ss = [a0, a1, a2] ∧ os = [o0, o1] ∧ Builtin.bitAnd (((totZ [(a0 : Int), (a1 : Int), (a2 : Int)]).fdiv (2 ^ 2)).fdiv (2 ^ 8)) 255 = (o0.toNat : Int) ∧ Builtin.bitAnd (((totZ [(a0 : Int), (a1 : Int), (a2 : Int)]).fdiv (2 ^ 2)).fdiv (2 ^ 0)) 255 = (o1.toNat : Int)) ∨
  (∃ a0 a1 a2 a3 o0 o1 o2, ss = [a0, a1, a2, a3] ∧ os = [o0, o1, o2] ∧ Builtin.bitAnd (((totZ [(a0 : Int), (a1 : Int), (a2 : Int), (a3 : Int)]).fdiv (2 ^ 0)).fdiv (2 ^ 16)) 255 = (o0.toNat : Int) ∧ Builtin.bitAnd (((totZ [(a0 : Int), (a1 : Int), (a2 : Int), (a3 : Int)]).fdiv (2 ^ 0)).fdiv (2 ^ 8)) 255 = (o1.toNat : Int) ∧
    Builtin.bitAnd (((totZ [(a0 : Int), (a1 : Int), (a2 : Int), (a3 : Int)]).fdiv (2 ^ 0)).fdiv (2 ^ 0)) 255 = (o2.toNat : Int))
theorem group_spec {w : World} {l : Addr} {vs : List Value} {ss : List Nat} {os : List UInt8} (hi : IntsAre vs (ss.map fun (x : Nat) => (x : Int))) (h64 : ∀ x ∈ ss, x < 64) (hg : Grp ss os) :
    SpecR w 1 31 [.ref l] (fun h => h.IsList l vs.toArray) (fun v tl => ∃ (a : Addr) (t1 t2 : Tok) (sp : Int), v = .ref a ∧ tl = [(a, tupO [.bytes os.toArray t1, .int sp t2])]) := by
  rcases hg with ⟨a0, a1, o0, rfl, rfl, e0⟩ | ⟨a0, a1, a2, o0, o1, rfl, rfl, e0, e1⟩ | ⟨a0, a1, a2, a3, o0, o1, o2, rfl, rfl, e0, e1, e2⟩
  · exact group_octets hi (Nat.le_of_ble_eq_true rfl) (Nat.le_of_ble_eq_true rfl) rfl fun j hj => match j, hj with
      | 0, _ => e0
  · exact group_octets hi (Nat.le_of_ble_eq_true rfl) (Nat.le_of_ble_eq_true rfl) rfl fun j hj => match j, hj with
      | 0, _ => e0
      | 1, _ => e1
  · exact group_octets hi (Nat.le_of_ble_eq_true rfl) (Nat.le_of_ble_eq_true rfl) rfl fun j hj => match j, hj with
      | 0, _ => e0
      | 1, _ => e1
      | 2, _ => e2
theorem Grp.len {ss : List Nat} {os : List UInt8} (h : Grp ss os) : 2 ≤ ss.length ∧ ss.length ≤ 4 ∧ os.length + 1 = ss.length := by
  rcases h with ⟨a0, a1, o0, rfl, rfl, e0⟩ | ⟨a0, a1, a2, o0, o1, rfl, rfl, e0, e1⟩ | ⟨a0, a1, a2, a3, o0, o1, o2, rfl, rfl, e0, e1, e2⟩ <;> simp
inductive Dec : List Nat → List UInt8 → Prop
  | nil : Dec [] []
  | last {ss : List Nat} {os : List UInt8} : Grp ss os → Dec ss os
  | step {ss : List Nat} {os : List UInt8} {r : List Nat} {ro : List UInt8} : ss.length = 4 → Grp ss os → Dec r ro → Dec (ss ++ r) (os ++ ro)
/-- what stands ahead: a group, and what follows it -/
theorem Dec.head {ss : List Nat} {os : List UInt8} (h : Dec ss os) (hne : 0 < ss.length) : ∃ o r, Grp (ss.take 4) o ∧ Dec (ss.drop 4) r ∧ os = o ++ r ∧ 1 < ss.length := by
  cases h with
  | nil => simp at hne
  | last hg =>
    have hl := hg.len
    exact ⟨os, [], by rw [List.take_of_length_le hl.2.1]; exact hg, by rw [List.drop_eq_nil_of_le hl.2.1]; exact .nil, by simp, by omega⟩
  | step h4 hg hr =>
    rename_i s1 o1 r1 ro1
    refine ⟨o1, ro1, ?_, ?_, rfl, ?_⟩
    · rw [List.take_left' h4]; exact hg
    · rw [List.drop_left' h4]; exact hr
    · rw [List.length_append]; omega
theorem Dec.len {ss : List Nat} {os : List UInt8} (h : Dec ss os) : os.length ≤ ss.length := by
  induction h with
  | nil => exact Nat.le_refl _
  | last hg => have := hg.len; omega
  | step h4 hg _ ih => have := hg.len; rw [List.length_append, List.length_append]; omega
theorem slice4 (ss : List Nat) (i : Nat) : List.take (min (0 + (i : Int) * 4 + 4).toNat (ss.map fun (x : Nat) => (x : Int)).length - (0 + (i : Int) * 4).toNat) (List.drop (0 + (i : Int) * 4).toNat (ss.map fun (x : Nat) => (x : Int))) = ((ss.drop (4 * i)).take 4).map fun (x : Nat) => (x : Int) := by
  have e1 : (0 + (i : Int) * 4).toNat = 4 * i := by omega
  have e2 : (0 + (i : Int) * 4 + 4).toNat = 4 * i + 4 := by omega
  rw [e1, e2, ← List.map_drop, ← List.map_take, List.length_map]
  rw [take_min_drop]
theorem size_four (n : Nat) : Builtin.Range.rangeSize 0 (n : Int) 4 = (((n + 3) / 4 : Nat) : Int) := by
  unfold Builtin.Range.rangeSize
  rw [if_pos (by decide)]
  by_cases h : (0 : Int) < (n : Int)
  · rw [if_pos h]; omega
  · rw [if_neg h]; omega
theorem small_four (n : Nat) (h : n ≤ 1000) : Builtin.Range.small 0 (n : Int) 4 = true := by
  unfold Builtin.Range.small
  rw [size_four]
  unfold Builtin.Range.rangeFitsLong
  rw [if_pos (by decide)]
  simp only [Bool.and_eq_true, Bool.or_eq_true, decide_eq_true_eq]
  refine ⟨⟨⟨⟨?_, ?_⟩, ?_⟩, ?_⟩, .inr ?_⟩ <;> omega
structure FW where
  fs : List Value
  bs : List (Array UInt8)
  n : Nat
structure DW where
  ws : List Value
  n : Nat
set_option maxHeartbeats 8000000 in
theorem decoded_spec {w : World} {b : List UInt8} {tb : Tok} {ss : List Nat} {np : Nat} (hb : b.length ≤ 100) (hbs : b = ss.map (fun x => b64L.getD x 0) ++ List.replicate np 61) {os : List UInt8} (hs64 : ∀ x ∈ ss, x < 64) (hdec : Dec ss os) : SpecR w 3 38 [.bytes b.toArray tb] (fun _ => True) (fun v tl => (∃ t, v = .bytes os.toArray t) ∧ tl = []) := by
  refine' spec_ro (binds := [(Str.ofString "data", .bytes b.toArray tb)]) ?ho ?hcd ?hb ?hl ?h1 ?h2 ?h3 ?h4 ?h
  case ho => k_is
  case hcd => k_is
  case hb => exact binds_eq rfl
  case hl => rfl
  case h1 => rfl
  case h2 => rfl
  case h3 => rfl
  case h4 => decide
  intro dp un gd outer A₀ base g' L' h' tk' s' p loose mean mg mb B' F' X' N' T' hd hu hpre
  have hsz : b.toArray.size = b.length := by simp
  k_steps
  refine SpecR.use (worth_table_spec (b := b64L) (by decide) b64_nodup) B' (by assumption) X' (by assumption) T' rfl (by omega) (by omega) trivial ?_
  rintro v tl h2 tk2 ⟨d, od, kvs, rfl, rfl, hdS, hd2, hkv⟩ F2 N2 hne
  simp only [List.cons_append, List.nil_append] at N2
  k_steps
  have hge : ∀ i, i < ss.length → b[i]? = (ss[i]?).map (fun x => b64L.getD x 0) := by
    intro i hi
    rw [hbs, List.getElem?_append_left (by rw [List.length_map]; exact hi), List.getElem?_map]
  with_reducible refine Stop.go ?_
  refine for_goB (σ := DW) (fun i v => ∃ c u, b.toArray[i]? = some c ∧ v = .int (c.toNat : Int) u) b.toArray.size (fun c => [(_, listOf c.ws.toArray c.n), (d, od)]) (fun c => []) (fun i c => i ≤ ss.length ∧ IntsAre c.ws ((ss.take i).map fun (x : Nat) => (x : Int))) (fun c => IntsAre c.ws (ss.map fun (x : Nat) => (x : Int))) [Str.ofString "code"] ⟨[], 0⟩ (by rfl) src_bytes (by assumption) (by assumption) (fun _ => rfl) (fun p hp => nomatch hp) ⟨Nat.zero_le _, .nil⟩ ?_ ?_ ?_
  · rintro ⟨ws, n⟩ ⟨hi, hws⟩
    have hil : b.toArray.size = ss.length := by
      have : b.length = ss.length + np := by rw [hbs]; simp
      omega
    rw [hil, List.take_length] at hws
    exact hws
  · rintro i v ⟨ws, n⟩ u h tk I oI hin ⟨c, tc, hc, rfl⟩ hlt ⟨hi, hws⟩ F₁ N₁
    dsimp only [kstB, AllLt] at F₁ N₁ hws hlt
    have hv : ws.toArray.size ≤ sizeLine := by
      rw [List.size_toArray, hws.length, List.length_map, List.length_take, sizeLine_eq]; omega
    by_cases hi2 : i < ss.length
    · obtain ⟨x, hx⟩ : ∃ x, ss[i]? = some x := ⟨ss[i], List.getElem?_eq_getElem hi2⟩
      have hx64 := hs64 x (List.mem_of_getElem? hx)
      have hcs : c = b64L.getD x 0 := by
        have h1 := hge i hi2
        rw [hx] at h1
        have h2 : b.toArray[i]? = b[i]? := by simp
        rw [h2, h1] at hc
        exact (Option.some.inj hc).symm
      have hget : b64L[x]? = some c := by rw [hcs]; exact b64_get hx64
      have hcp : (c.toNat : Int) ≠ 61 := by rw [hcs]; exact b64_not hx64
      obtain ⟨uv, huv⟩ := hkv.at b64_nodup hget
      k_steps
      · exact absurd (by assumption) hcp
      refine wpAny_in_of (knd := intKind pw w) (intKind_is pw w _ _) hdS (Heap.DictOf.mapOf (kvs := kvs) (Heap.dictOf_iff.mpr ⟨od, (N₁ _ (List.Mem.tail _ (List.Mem.tail _ (List.Mem.head _)))).1, hd2⟩)) ?_
      rw [huv]
      k_steps
      · refine dict_item (kvs := kvs) (v := .int (x : Int) uv) (Heap.dictOf_iff.mpr ⟨od, ((by assumption : News g' _ _ ((I, oI) :: _ :: (d, od) :: [])) _ (List.Mem.tail _ (List.Mem.tail _ (List.Mem.head _)))).1, hd2⟩) huv ?_
        k_steps
        rename News _ _ _ _ => nE
        try simp only [List.push_toArray] at nE
        refine ForEnd.intro ⟨ws ++ [_], _⟩ (by assumption) nE (fun p hp => hp) ⟨hi2, ?_⟩ (fun p hp => nomatch hp) (by ksw_same)
        rw [List.take_add_one, hx, List.map_append]
        exact ints_snoc hws
      · exact absurd ‹(some _).isSome = false› (by simp)
    · have hil : i = ss.length := by omega
      have hcs : (c.toNat : Int) = 61 := by
        have h2 : b.toArray[i]? = b[i]? := by simp
        rw [h2, hbs, List.getElem?_append_right (by rw [List.length_map]; omega)] at hc
        rw [List.eq_of_mem_replicate (List.mem_of_getElem? hc)]
        rfl
      rw [hil, List.take_length] at hws
      k_steps
      · exact ForPostB.brk (ForEnd.intro ⟨ws, _⟩ (by assumption) (by assumption) (fun p hp => hp) hws (fun p hp => nomatch hp) (by ksw_same))
      · exact absurd hcs (by assumption)
  · rintro ⟨ws, n⟩ u h tk hws F₁ N₁
    dsimp only [kstB] at F₁ N₁ hws
    have hwl : ws.length = ss.length := by rw [hws.length, List.length_map]
    have hss : ss.length ≤ 100 := by have : b.length = ss.length + np := by rw [hbs]; simp
                                     omega
    have hv : ws.toArray.size ≤ sizeLine := by rw [List.size_toArray, hwl, sizeLine_eq]; omega
    k_steps
    with_reducible refine Stop.go ?_
    refine for_go (σ := FW) (fun i v => ∃ t, v = .int (0 + (i : Int) * 4) t) ((ss.length + 3) / 4) (fun c => (_, listOf c.fs.toArray c.n) :: _) (fun c => []) (fun i c => BytesAre c.fs c.bs ∧ c.bs.length = i ∧ ∃ ro, Dec (ss.drop (4 * i)) ro ∧ (c.bs.flatMap fun x => x.toList) ++ ro = os) [Str.ofString "begin"] ⟨[], [], 0⟩ (by rfl) (src_range (by assumption) ?_ ?_) (by assumption) (by assumption) (fun _ => rfl) (fun p hp => nomatch hp) ⟨.nil, rfl, os, hdec, rfl⟩ ?_ ?_
    · rw [List.length_map]; exact small_four _ (by omega)
    · rw [List.length_map]; exact size_four _
    · rintro i v ⟨fs, bs, nf⟩ uf h9 tk9 I9 oI9 hin9 ⟨tv, rfl⟩ hlt9 ⟨hfs, hbl, ro, hro, hcat⟩ F9 N9
      dsimp only [kstB, AllLt] at F9 N9 hlt9 hfs hbl hcat
      have hi4 : 4 * i < ss.length := by omega
      obtain ⟨o, r, hg, hr, e1, e2⟩ := hro.head (by rw [List.length_drop]; omega)
      have hfsz : fs.toArray.size ≤ sizeLine := by rw [List.size_toArray, hfs.length, sizeLine_eq]; omega
      k_steps
      · with_reducible refine Stop.go ?_
        refine' kmk_slice_ints ?F ?N ?l ?k1 ?k2 hws (kmk_run hws ?k3 ?k4) rfl ?k5 ?k6 ?k7 ?k8
        case F => assumption
        case N => assumption
        case l => kmk_list
        case k1 => kmk_part
        case k2 => kmk_part
        case k3 => omega
        case k4 => omega
        case k6 => with_unfolding_all rfl
        case k7 => kmk_pure
        case k8 => exact hv
        intro D6 ws6 h6 F6 N6 l6 hI6 hC6 hL6
        k_lt l6
        k_steps
        rename IntsAre _ (List.take _ _) => hIs
        rw [slice4] at hIs
        rename News _ _ _ _ => nE
        refine SpecR.use (group_spec hIs (fun x hx => hs64 x (List.mem_of_mem_drop (List.mem_of_mem_take hx))) hg) B' (by assumption) X' nE T' rfl (by omega) (by omega) ⟨_, (nE _ (List.Mem.head _)).1, rfl, _, rfl⟩ ?_
        rintro v tl h2 tk2 ⟨a, t1, t2, sp, rfl, rfl⟩ F2 N2 hne2
        simp only [List.cons_append, List.nil_append] at N2
        have hal1 := (hne2 _ (List.Mem.head _) _ (List.Mem.tail _ (List.Mem.tail _ (List.Mem.head _)))).symm
        dsimp only at hal1
        k_steps
        rename News _ _ _ _ => nE2
        try simp only [List.push_toArray] at nE2
        refine ForEnd.intro ⟨fs ++ [_], bs ++ [o.toArray], _⟩ (by assumption) nE2 (fun p hp => List.Mem.tail _ (List.Mem.tail _ hp)) ⟨hfs.snoc, by rw [List.length_append, hbl]; rfl, r, ?_, ?_⟩ (fun p hp => nomatch hp) (by ksw_same)
        · rw [List.drop_drop] at hr
          exact hr
        · rw [List.flatMap_append, List.append_assoc, ← hcat, e1]
          simp
      · rename ¬ _ => hno
        rw [List.length_map] at hno
        rw [List.length_drop] at e2
        omega
    · rintro ⟨fs, bs, nf⟩ uf h9 tk9 ⟨hfs, hbl, ro, hro, hcat⟩ F9 N9
      dsimp only [kstB] at F9 N9 hfs hbl hcat
      have hro2 : ro = [] := by
        rw [List.drop_eq_nil_of_le (by omega)] at hro
        generalize hz : ([] : List Nat) = z at hro
        cases hro with
        | nil => rfl
        | last hg => have := hg.len; rw [← hz] at this; simp at this
        | step h4 _ _ => rw [List.append_eq_nil_iff.mp hz.symm |>.1] at h4; cases h4
      rw [hro2, List.append_nil] at hcat
      k_steps
      refine my_join (os := os) N9 (by k_mem) hfs hcat ?_ fun t6 k6 => ?_
      · have := hdec.len; omega
      k_steps
      exact Ret.drop (by assumption) (by assumption) ⟨⟨_, rfl⟩, rfl⟩ (fun p hp => nomatch hp)
end Mine
end
section
open PySem PySem.W PySem.Calls PyProof.Rows
set_option maxRecDepth 100000
namespace Mine
/-- the sign that stands at a place of octets, under a charset: its code (below nought: none), its length -/
inductive SignIs (b : List UInt8) (k : Nat) : Str → Int → Nat → Prop
  | u1 : k < b.length → (b.getD k 0).toNat < 128 → SignIs b k (.ofString "utf-8") ((b.getD k 0).toNat : Int) 1
  | u2 : k + 1 < b.length → b.getD k 0 = 195 → b.getD (k + 1) 0 = 169 → SignIs b k (.ofString "utf-8") 233 2
  | l : k < b.length → SignIs b k (.ofString "iso-8859-1") ((b.getD k 0).toNat : Int) 1
  | a1 : k < b.length → (b.getD k 0).toNat < 128 → SignIs b k (.ofString "us-ascii") ((b.getD k 0).toNat : Int) 1
  | a2 : k < b.length → 128 ≤ (b.getD k 0).toNat → SignIs b k (.ofString "us-ascii") (-1) 1
set_option maxHeartbeats 8000000 in
theorem sign_at_spec {w : World} {news : Led} {ch : Str} {b : List UInt8} {k : Nat} {tc t u : Tok} {code : Int} {len : Nat} (hb : b.length ≤ 1000) (hs : SignIs b k ch code len) : Spec w 3 141 [.str ch tc, .bytes b.toArray t, .int (k : Int) u] news (TupR news (pairR code (len : Int))) := by
  refine' spec_of (binds := [(Str.ofString "charset", .str ch tc), (Str.ofString "octets", .bytes b.toArray t), (Str.ofString "at", .int (k : Int) u)]) ?ho ?hcd ?hb ?hl ?h1 ?h2 ?h3 ?h4 ?h
  case ho => k_is
  case hcd => k_is
  case hb => rfl
  case hl => rfl
  case h1 => rfl
  case h2 => rfl
  case h3 => rfl
  case h4 => decide
  intro dp un gd outer A₀ base g' L' h' tk' s' p loose mean mg mb B' F' X' N' T' hd hu
  cases hs with
  | u1 hk hl =>
    k_steps
    refine Spec.use (utf8_one hb hk hl) B' (by assumption) X' (by assumption) T' rfl (by omega) (by omega) ?_
    rintro v nw' h2 tk2 ⟨a1, vs1, rfl, rfl, hp⟩ F2 N2
    k_steps
    exact Ret.intro (by assumption) (by assumption) ⟨_, _, rfl, rfl, hp⟩
  | u2 hk hl hm =>
    k_steps
    refine Spec.use (utf8_two hb hk hl hm) B' (by assumption) X' (by assumption) T' rfl (by omega) (by omega) ?_
    rintro v nw' h2 tk2 ⟨a1, vs1, rfl, rfl, hp⟩ F2 N2
    k_steps
    exact Ret.intro (by assumption) (by assumption) ⟨_, _, rfl, rfl, hp⟩
  | l hk =>
    k_steps
    exact Ret.intro (by assumption) (by assumption) ⟨_, _, rfl, rfl, pairR_of rfl rfl⟩
  | a1 hk hl =>
    have hl' : ((b.getD ((k : Int)).toNat 0).toNat : Int) < 128 := Int.ofNat_lt.mpr hl
    k_steps
    exact Ret.intro (by assumption) (by assumption) ⟨_, _, rfl, rfl, pairR_of rfl rfl⟩
  | a2 hk hl =>
    have hl' : 128 ≤ ((b.getD ((k : Int)).toNat 0).toNat : Int) := Int.ofNat_le.mpr hl
    k_steps
    exact Ret.intro (by assumption) (by assumption) ⟨_, _, rfl, rfl, pairR_of rfl rfl⟩
end Mine
end
section
open PySem PySem.W PySem.Calls PyProof.Rows
set_option maxRecDepth 100000
namespace Mine
local macro_rules
  | `(tactic| walk_at "exec While") => `(tactic| refine Mine.stop ?_)
inductive CharsetIs : Str → Prop
  | u : CharsetIs (.ofString "utf-8")
  | l : CharsetIs (.ofString "iso-8859-1")
  | a : CharsetIs (.ofString "us-ascii")
set_option maxHeartbeats 8000000 in
theorem need_charset_spec {w : World} {news : Led} {ch : Str} {tc : Tok} (hc : CharsetIs ch) : Spec w 1 120 [.str ch tc] news (fun v nw => v = .none ∧ nw = news) := by
  refine' spec_of (binds := [(Str.ofString "charset", .str ch tc)]) ?ho ?hcd ?hb ?hl ?h1 ?h2 ?h3 ?h4 ?h
  case ho => k_is
  case hcd => k_is
  case hb => rfl
  case hl => rfl
  case h1 => rfl
  case h2 => rfl
  case h3 => rfl
  case h4 => decide
  intro dp un gd outer A₀ base g' L' h' tk' s' p loose mean mg mb B' F' X' N' T' hd hu
  cases hc
  all_goals (
    k_steps
    refine notin_tuple_strs (tupK (Frag.In.keeps X' (Fr.keep (by assumption))) (by k_is)) (.cons _ _ (.cons _ _ (.cons _ _ .nil))) ?_
    k_steps)
  all_goals exact Ret.nextI (by assumption) (by assumption) ⟨rfl, rfl⟩
/-- the signs that the octets tell from a place on -/
inductive Reads (ch : Str) (b : List UInt8) : Nat → List Nat → Prop
  | done : Reads ch b b.length []
  | sign {k : Nat} {code : Int} {len : Nat} {cs : List Nat} : k < b.length → SignIs b k ch code len → Reads ch b (k + len) cs → Reads ch b k ((if 0 ≤ code then code.toNat else 65533) :: cs)
theorem SignIs.le {b : List UInt8} {k : Nat} {ch : Str} {code : Int} {len : Nat} (h : SignIs b k ch code len) : code ≤ 255 ∧ -1 ≤ code ∧ 1 ≤ len := by
  have hb := (b.getD k 0).toNat_lt
  cases h <;> refine ⟨?_, ?_, ?_⟩ <;> omega
theorem Reads.le {ch : Str} {b : List UInt8} {k : Nat} {cs : List Nat} (h : Reads ch b k cs) : k ≤ b.length := by
  cases h with
  | done => exact Nat.le_refl _
  | sign hk _ _ => exact Nat.le_of_lt hk
noncomputable def oneSign (c : Nat) : Str := ⟨#[c]⟩
theorem cat_ones (cs : List Nat) : catS (cs.map oneSign) = ⟨cs.toArray⟩ := by
  refine str_ext ?_
  show ((cs.map oneSign).flatMap fun x => x.cps.toList).toArray.toList = cs.toArray.toList
  induction cs with
  | nil => rfl
  | cons c r ih =>
    simp only [List.map_cons, List.flatMap_cons] at ih ⊢
    rw [ih]
    rfl
structure TI where
  vs : List Value
  n : Nat
  k : Nat
  tk : Tok
  got : List Nat
  rest : List Nat
set_option maxHeartbeats 8000000 in
theorem text_in_spec {w : World} {news : Led} {ch : Str} {b : List UInt8} {tc t : Tok} {cs : List Nat} (hb : b.length ≤ 1000) (hc : CharsetIs ch) (hr : Reads ch b 0 cs) : Spec w 4 148 [.str ch tc, .bytes b.toArray t] news (fun v nw => (∃ t, v = .str ⟨cs.toArray⟩ t) ∧ nw = news) := by
  refine' spec_of (binds := [(Str.ofString "charset", .str ch tc), (Str.ofString "octets", .bytes b.toArray t)]) ?ho ?hcd ?hb ?hl ?h1 ?h2 ?h3 ?h4 ?h
  case ho => k_is
  case hcd => k_is
  case hb => rfl
  case hl => rfl
  case h1 => rfl
  case h2 => rfl
  case h3 => rfl
  case h4 => decide
  intro dp un gd outer A₀ base g' L' h' tk' s' p loose mean mg mb B' F' X' N' T' hd hu
  k_steps
  refine Spec.use (need_charset_spec hc) B' (by assumption) X' (by assumption) T' rfl (by omega) (by omega) ?_
  rintro v nw' h2 tk2 ⟨rfl, e9⟩ F2 N2
  rw [e9] at N2
  have kMark := kstMark
  k_steps
  refine Stop.go (while1 (σ := TI) TI.vs TI.n (fun c => [(Str.ofString "at", .int (c.k : Int) c.tk)]) (fun c => StrsAre c.vs (c.got.map oneSign)) [Str.ofString "code", Str.ofString "length", Str.ofString "at"]
    (fun c => Reads ch b c.k c.rest ∧ c.got ++ c.rest = cs ∧ c.got.length ≤ c.k) (fun c => b.length - c.k) ⟨[], 0, 0, _, [], cs⟩ (by assumption) (by assumption) .nil (by intro p hp; rw [List.mem_singleton.mp hp]; rfl) ⟨hr, rfl, Nat.le_refl _⟩ ?_)
  rintro ⟨vs, n, k, tk1, got, rest⟩ u h tk hf ⟨hr, hcat, hlen⟩ F₁ N₁
  dsimp only [kstB] at F₁ N₁ hf hr hcat hlen
  have hkl := hr.le
  cases hr with
  | done =>
    k_steps
    refine call_sjoin (N₁ _ (List.Mem.head _)).1 hf ?_ (by simp; omega) fun t' k' => ?_
    · intro y hy
      obtain ⟨c, _, rfl⟩ := List.mem_map.mp hy
      exact (by decide : (1 : Nat) ≤ 8)
    k_steps
    rw [List.append_nil] at hcat
    subst hcat
    exact Ret.drop F₁ N₁ ⟨⟨_, by rw [cat_ones]⟩, rfl⟩ fun p hp => List.Mem.tail _ hp
  | sign hk hsg hr2 =>
    have hle := hsg.le
    have hle1 := hle.1
    have hr2l := hr2.le
    k_steps
    refine Spec.use (sign_at_spec hb hsg) B' (by assumption) X' (by assumption) T' rfl (by omega) (by omega) ?_
    rintro v nw2 h2 tk2 ⟨a1, vs1, rfl, e8, t1, t2, rfl⟩ F2 N2
    rw [e8] at N2
    have hne := news_ne N2 (List.Mem.head _) (List.Mem.tail _ (List.Mem.head _)) (fun e => by injection e with e; exact absurd e (by decide))
    have hle3 := hle.2.2
    k_steps
    · rename News _ _ _ _ => nE
      simp only [List.push_toArray] at nE
      refine ksw_end ⟨vs ++ [_], _, k + _, _, got ++ [_], _⟩ (by assumption) nE (fun p hp => List.Mem.tail _ hp) (by rw [List.map_append]; exact StrsAre.snoc hf) (by intro p hp; rw [List.mem_singleton.mp hp]; rfl) (by ksw_same) ⟨hr2, ?_, ?_⟩ ?_
      · rw [← hcat, if_pos (by assumption), List.append_assoc]
        rfl
      · show (got ++ [_]).length ≤ k + _
        rw [List.length_append]
        show got.length + 1 ≤ _
        omega
      · show b.length - (k + _) < b.length - k
        omega
    · rename News _ _ _ _ => nE
      simp only [List.push_toArray] at nE
      refine ksw_end ⟨vs ++ [_], _, k + _, _, got ++ [65533], _⟩ (by assumption) nE (fun p hp => List.Mem.tail _ hp) (by rw [List.map_append]; exact StrsAre.snoc hf) (by intro p hp; rw [List.mem_singleton.mp hp]; rfl) (by ksw_same) ⟨hr2, ?_, ?_⟩ ?_
      · rw [← hcat, if_neg (by assumption), List.append_assoc]
        rfl
      · show (got ++ [_]).length ≤ k + _
        rw [List.length_append]
        show got.length + 1 ≤ _
        omega
      · show b.length - (k + _) < b.length - k
        omega
end Mine
end
section
open PySem PySem.W PySem.Calls PyProof.Rows
set_option maxRecDepth 100000
namespace Mine
noncomputable def encU (c : Nat) : List UInt8 := if c = 233 then [195, 169] else [c.toUInt8]
theorem eAc_iff (c : Nat) : (({ cps := #[c] } : Str) == Str.ofString "é") = true ↔ c = 233 := by
  rw [beq_iff_eq]
  have e : Str.ofString "é" = ⟨#[233]⟩ := by decide +kernel
  rw [e]
  constructor
  · intro h; simpa using h
  · intro h; rw [h]
theorem take_map_snoc {α β : Type} (f : α → β) {l : List α} {i : Nat} {c : α} (h : l[i]? = some c) : (l.take (i + 1)).map f = (l.take i).map f ++ [f c] := by
  rw [List.take_add_one, h, List.map_append]; rfl
theorem encU_len : ∀ cs : List Nat, (cs.flatMap encU).length ≤ 2 * cs.length
  | [] => by simp
  | c :: r => by
    rw [List.flatMap_cons, List.length_append, List.length_cons]
    have := encU_len r
    have h2 : (encU c).length ≤ 2 := by unfold encU; split <;> simp
    omega
noncomputable def figL : List UInt8 := [48, 49, 50, 51, 52, 53, 54, 55, 56, 57, 65, 66, 67, 68, 69, 70]
noncomputable def quo (c : UInt8) : List UInt8 := [61, figL.getD (c.toNat / 16) 0, figL.getD (c.toNat % 16) 0]
set_option maxHeartbeats 8000000 in
theorem law_octets_o {w : World} {cs : List Nat} {so : Str} {t ts : Tok} (hb : cs.length ≤ 100) (hs : so = Str.ofString "l" ∨ so = Str.ofString "a") (hc : ∀ c ∈ cs, c < 256) : SpecR w 2 395 [.str ⟨cs.toArray⟩ t, .str so ts] (fun _ => True) (fun v tl => (∃ t, v = .bytes (cs.map Nat.toUInt8).toArray t) ∧ tl = []) := by
  refine' spec_ro (binds := [(Str.ofString "text", .str ⟨cs.toArray⟩ t), (Str.ofString "sort", .str so ts)]) ?ho ?hcd ?hb ?hl ?h1 ?h2 ?h3 ?h4 ?h
  case ho => k_is
  case hcd => k_is
  case hb => exact binds_eq rfl
  case hl => rfl
  case h1 => rfl
  case h2 => rfl
  case h3 => rfl
  case h4 => decide
  intro dp un gd outer A₀ base g' L' h' tk' s' p loose mean mg mb B' F' X' N' T' hd hu hpre
  rcases hs with rfl | rfl
  all_goals (
    k_steps
    with_reducible refine Stop.go ?_
    refine comp_go (SignAt ⟨cs.toArray⟩) cs.length (fun i ys nw => nw = [] ∧ IntsAre ys (octI ((cs.map Nat.toUInt8).take i))) (by rfl) (by decide) (by rfl) (by decide) (by rfl) (by rw [sizeLine_eq]; omega) (by rfl) (by assumption) ?_
    k_steps
    refine SrcPost.intro (by assumption) (by assumption) src_str ⟨rfl, .nil⟩ (fun i ys nw hI => by rw [hI.1]) (fun g => ?_) (fun D ys nw h tk hI F₁ N₁ oD => ?_)
    · rintro i v I oI C oC D m₂ ys nw h tk hi ⟨c, u, hcc, rfl⟩ ⟨rfl, hys⟩ hC hx₂ F₁ N₁ off ne
      have hc2 : cs[i]? = some c := by simpa using hcc
      have hc256 := hc c (List.mem_of_getElem? hc2)
      k_steps
      refine EltPost.intro (by assumption) (by assumption) (fun _ h => h) ⟨rfl, ?_⟩
      rw [octI_snoc (by rw [List.length_map]; exact hi)]
      refine ints_eq hys ?_
      rw [List.getD_eq_getElem?_getD, List.getElem?_map, hc2]
      show (c : Int) = ((c.toUInt8.toNat : Nat) : Int)
      rw [Nat.toUInt8_eq, UInt8.toNat_ofNat_of_lt' hc256]
    · obtain ⟨rfl, hys⟩ := hI
      rw [List.take_of_length_le (by rw [List.length_map]; exact Nat.le_refl _)] at hys
      k_steps
      refine my_bytes (by assumption) (by assumption) (os := cs.map Nat.toUInt8) (List.Mem.head _) hys (by rw [List.length_map]; omega) (by rfl) fun h5 t5 k5 F5 N5 => ?_
      k_steps
      exact Ret.drop (by assumption) (by assumption) ⟨⟨_, rfl⟩, rfl⟩ (fun p hp => nomatch hp))
set_option maxHeartbeats 8000000 in
theorem law_octets_u {w : World} {cs : List Nat} {t ts : Tok} (hb : cs.length ≤ 100) (hc : ∀ c ∈ cs, c < 128 ∨ c = 233) : SpecR w 2 395 [.str ⟨cs.toArray⟩ t, .str (Str.ofString "u") ts] (fun _ => True) (fun v tl => (∃ t, v = .bytes (cs.flatMap encU).toArray t) ∧ tl = []) := by
  refine' spec_ro (binds := [(Str.ofString "text", .str ⟨cs.toArray⟩ t), (Str.ofString "sort", .str (Str.ofString "u") ts)]) ?ho ?hcd ?hb ?hl ?h1 ?h2 ?h3 ?h4 ?h
  case ho => k_is
  case hcd => k_is
  case hb => exact binds_eq rfl
  case hl => rfl
  case h1 => rfl
  case h2 => rfl
  case h3 => rfl
  case h4 => decide
  intro dp un gd outer A₀ base g' L' h' tk' s' p loose mean mg mb B' F' X' N' T' hd hu hpre
  k_steps
  with_reducible refine Stop.go ?_
  refine comp_go (SignAt ⟨cs.toArray⟩) cs.length (fun i ys nw => nw = [] ∧ BytesAre ys ((cs.take i).map fun c => (encU c).toArray)) (by rfl) (by decide) (by rfl) (by decide) (by rfl) (by rw [sizeLine_eq]; omega) (by rfl) (by assumption) ?_
  k_steps
  refine SrcPost.intro (by assumption) (by assumption) src_str ⟨rfl, .nil⟩ (fun i ys nw hI => by rw [hI.1]) (fun g => ?_) (fun D ys nw h tk hI F₁ N₁ oD => ?_)
  · rintro i v I oI C oC D m₂ ys nw h tk hi ⟨c, u, hcc, rfl⟩ ⟨rfl, hys⟩ hC hx₂ F₁ N₁ off ne
    have hc2 : cs[i]? = some c := by simpa using hcc
    have hc256 := hc c (List.mem_of_getElem? hc2)
    k_steps
    · refine EltPost.intro (by assumption) (by assumption) (fun _ h => h) ⟨rfl, ?_⟩
      have e9 : c = 233 := (eAc_iff c).mp ‹_›
      rw [take_map_snoc _ hc2]
      exact bytes_eq hys (by rw [e9]; rfl)
    · refine EltPost.intro (by assumption) (by assumption) (fun p hp => List.Mem.tail _ (by rw [List.append_nil] at hp; exact hp)) ⟨rfl, ?_⟩
      have e9 : ¬ c = 233 := fun h => absurd ((eAc_iff c).mpr h) (by rw [‹(({ cps := #[c] } : Str) == Str.ofString "é") = false›]; decide)
      rw [take_map_snoc _ hc2]
      refine bytes_eq hys ?_
      unfold encU
      rw [if_neg e9]
      rfl
  · obtain ⟨rfl, hys⟩ := hI
    rw [List.take_length] at hys
    k_steps
    refine my_join (os := cs.flatMap encU) (by assumption) (List.Mem.head _) hys (by rw [List.flatMap_map]) ?_ fun t6 k6 => ?_
    · refine Nat.le_trans (encU_len cs) (by omega)
    k_steps
    exact Ret.drop (by assumption) (by assumption) ⟨⟨_, rfl⟩, rfl⟩ (fun p hp => nomatch hp)
theorem fdiv_nat (n k : Nat) : ((n : Int).fdiv (k : Int)).toNat = n / k := by
  rw [Int.fdiv_eq_ediv_of_nonneg _ (by omega), ← Int.natCast_ediv, Int.toNat_natCast]
theorem fmod_nat (n k : Nat) : ((n : Int).fmod (k : Int)).toNat = n % k := by
  rw [Int.fmod_eq_emod_of_nonneg _ (by omega), ← Int.natCast_emod, Int.toNat_natCast]
theorem octI_quo (c : UInt8) : octI (quo c) = [61, ((figL.getD ((c.toNat : Int).fdiv 16).toNat 0).toNat : Int), ((figL.getD ((c.toNat : Int).fmod 16).toNat 0).toNat : Int)] := by
  have e1 := fdiv_nat c.toNat 16
  have e2 := fmod_nat c.toNat 16
  have e1' : ((c.toNat : Int).fdiv 16).toNat = c.toNat / 16 := e1
  have e2' : ((c.toNat : Int).fmod 16).toNat = c.toNat % 16 := e2
  rw [e1', e2']
  rfl
theorem quo_len : ∀ b : List UInt8, (b.flatMap quo).length = 3 * b.length
  | [] => rfl
  | c :: r => by
    rw [List.flatMap_cons, List.length_append, List.length_cons, quo_len r]
    have h2 : (quo c).length = 3 := rfl
    omega
set_option maxHeartbeats 8000000 in
theorem law_quoted_spec {w : World} {b : List UInt8} {tb : Tok} (hb : b.length ≤ 100) : SpecR w 1 390 [.bytes b.toArray tb] (fun _ => True) (fun v tl => (∃ t, v = .bytes (b.flatMap quo).toArray t) ∧ tl = []) := by
  refine' spec_roC (binds := [(Str.ofString "octets", .bytes b.toArray tb)]) (m := fun y => if y = Str.ofString "octets" then some (.bytes b.toArray tb) else none) (cm := fun _ => none) ?ho ?hcd ?hb ?hl ?hnd ?h1 ?h2 ?h3 ?hm ?hcm ?h
  case ho => k_is
  case hcd => k_is
  case hb => exact rfl
  case hl => rfl
  case hnd => decide
  case h1 => rfl
  case h2 => rfl
  case h3 => rfl
  case hm => intro L; rfl
  case hcm => intro L; rfl
  intro dp un gd outer A₀ base g' L' h' tk' cells s' p loose mean mg mb B' F' X' N' Y T' hd hu hpre
  obtain ⟨oc, rfl, hoc⟩ := CellsAre.one Y
  have hsz : b.toArray.size = b.length := by simp
  k_steps
  rename Obj => oF
  with_reducible refine Stop.go ?_
  refine comp_go (fun i v => ∃ c u, b.toArray[i]? = some c ∧ v = .int (c.toNat : Int) u) b.toArray.size (fun i ys nw => nw = [(L' + 1, oF)] ∧ BytesAre ys ((b.take i).map fun c => (quo c).toArray)) (by rfl) (by decide) (by rfl) (by decide) (by rfl) (by rw [sizeLine_eq]; omega) (by rfl) (by assumption) ?_
  k_steps
  refine SrcPost.intro (by assumption) (by assumption) src_bytes ⟨rfl, .nil⟩ (fun i ys nw hI => by rw [hI.1]) (fun g => ?_) (fun D ys nw h tk hI F₁ N₁ oD => ?_)
  · rintro i v I oI C oC D m₂ ys nw h tk hi ⟨c, u, hcc, rfl⟩ ⟨rfl, hys⟩ hC hx₂ F₁ N₁ off ne
    have hc256 := c.toNat_lt
    have hcc2 : b[i]? = some c := by simpa using hcc
    k_steps
    rename News _ _ _ _ => nE
    refine my_bytes (by assumption) nE (os := quo c) (List.Mem.head _) (by rw [octI_quo]; exact .cons _ _ (.cons _ _ (.cons _ _ .nil))) (by show (3 : Nat) ≤ 1000; decide) (by rfl) fun h5 t5 k5 F5 N5 => ?_
    k_steps
    refine EltPost.intro (by assumption) (by assumption) (fun p hp => List.Mem.tail _ hp) ⟨rfl, ?_⟩
    rw [take_map_snoc _ hcc2]
    exact bytes_eq hys rfl
  · obtain ⟨rfl, hys⟩ := hI
    rw [hsz, List.take_length] at hys
    k_steps
    refine my_join (os := b.flatMap quo) (by assumption) (List.Mem.head _) hys (by rw [List.flatMap_map]) (by rw [quo_len]; omega) fun t6 k6 => ?_
    k_steps
    exact Ret.drop (by assumption) (by assumption) ⟨⟨_, rfl⟩, rfl⟩ (fun p hp => nomatch hp)
end Mine
end
section
open PySem PySem.W PySem.Calls PyProof.Rows
set_option maxRecDepth 100000
namespace Mine
local macro_rules
  | `(tactic| walk_at "exec Assign cons ListComp") => `(tactic| refine Mine.stop ?_)
  | `(tactic| walk_at "CompSrc") => `(tactic| refine Mine.stop ?_)
theorem octI_app (a b : List UInt8) : octI (a ++ b) = octI a ++ octI b := List.map_append
theorem five_in {α : Type} {a b c d e : α} {l : List α} (h1 : a ∈ l) (h2 : b ∈ l) (h3 : c ∈ l) (h4 : d ∈ l) (h5 : e ∈ l) : ∀ x ∈ [a, b, c, d, e], x ∈ l := by
  intro x hx
  simp only [List.mem_cons, List.not_mem_nil, or_false] at hx
  rcases hx with rfl | rfl | rfl | rfl | rfl <;> assumption
theorem sz_add {a b : List Int} (ha : a.length ≤ 1000) (hb : b.length ≤ 1000) : a.length + b.length ≤ sizeLine := by rw [sizeLine_eq]; omega
structure BW where
  F : Addr
  fs : List Value
  n : Nat
  o2 : Obj
  o3 : Obj
/-- the sextet at a place of a worth -/
noncomputable def sxt (w : Nat) (j : Nat) : Nat := w / 64 ^ (3 - j) % 64
noncomputable def sgn (w : Nat) (j : Nat) : UInt8 := b64L.getD (sxt w j) 0
theorem sgn_of (W : Int) (w j : Nat) (hj : j ≤ 3) (hW : W = (w : Int)) : ((b64L.getD ((W.fdiv (64 ^ (3 - (0 + (j : Int))).toNat)).fmod 64).toNat 0).toNat : Int) = ((sgn w j).toNat : Int) := by
  subst hW
  have e : (3 - (0 + (j : Int))).toNat = 3 - j := by omega
  have e2 : ((64 : Int) ^ (3 - j)) = ((64 ^ (3 - j) : Nat) : Int) := by rw [Int.natCast_pow]; rfl
  have e3 : ((w : Int).fdiv ((64 ^ (3 - j) : Nat) : Int)) = ((w / 64 ^ (3 - j) : Nat) : Int) := by rw [Int.fdiv_eq_ediv_of_nonneg _ (Int.natCast_nonneg _), ← Int.natCast_ediv]
  have e4 := fmod_nat (w / 64 ^ (3 - j)) 64
  rw [e, e2, e3]
  have e5 : (((w / 64 ^ (3 - j) : Nat) : Int).fmod 64).toNat = w / 64 ^ (3 - j) % 64 := e4
  rw [e5]
  rfl
noncomputable def fourL (w : Nat) : List UInt8 := [sgn w 0, sgn w 1, sgn w 2, sgn w 3]
theorem ints_cast {vs : List Value} {a b : List Int} (e : a = b) (h : IntsAre vs b) : IntsAre vs a := e ▸ h
theorem fourL_len (w : Nat) : (fourL w).length = 4 := rfl
theorem get_sgn (w j : Nat) (hj : j < 4) : (fourL w).getD j 0 = sgn w j := by
  have hc : j = 0 ∨ j = 1 ∨ j = 2 ∨ j = 3 := by omega
  rcases hc with rfl | rfl | rfl | rfl <;> rfl
theorem pow64_ne (j : Nat) (hj : j < 4) : (64 : Int) ^ (3 - (0 + (j : Int))).toNat ≠ 0 := by
  have hc : j = 0 ∨ j = 1 ∨ j = 2 ∨ j = 3 := by omega
  rcases hc with rfl | rfl | rfl | rfl <;> decide
theorem pow64_py (j : Nat) (hj : j < 4) (a : Int) : Builtin.divisionGoesByPylong a ((64 : Int) ^ (3 - (0 + (j : Int))).toNat) = false := by
  refine PyProof.noPylong_small ?_
  have hc : j = 0 ∨ j = 1 ∨ j = 2 ∨ j = 3 := by omega
  rcases hc with rfl | rfl | rfl | rfl <;> decide
noncomputable def e64 : List UInt8 → List UInt8
  | [] => []
  | [x] => [sgn (x.toNat * 65536) 0, sgn (x.toNat * 65536) 1, 61, 61]
  | [x, y] => [sgn (x.toNat * 65536 + y.toNat * 256) 0, sgn (x.toNat * 65536 + y.toNat * 256) 1, sgn (x.toNat * 65536 + y.toNat * 256) 2, 61]
  | x :: y :: z :: r => sgn (x.toNat * 65536 + y.toNat * 256 + z.toNat) 0 :: sgn (x.toNat * 65536 + y.toNat * 256 + z.toNat) 1 :: sgn (x.toNat * 65536 + y.toNat * 256 + z.toNat) 2 :: sgn (x.toNat * 65536 + y.toNat * 256 + z.toNat) 3 :: e64 r
theorem e64_len : ∀ b : List UInt8, (e64 b).length ≤ 4 * b.length
  | [] => by simp [e64]
  | [x] => by simp [e64]
  | [x, y] => by simp [e64]
  | x :: y :: z :: r => by have := e64_len r; simp only [e64, List.length_cons]; omega
theorem size_three (n : Nat) : Builtin.Range.rangeSize 0 (n : Int) 3 = (((n + 2) / 3 : Nat) : Int) := by
  unfold Builtin.Range.rangeSize
  rw [if_pos (by decide)]
  by_cases h : (0 : Int) < (n : Int)
  · rw [if_pos h]; omega
  · rw [if_neg h]; omega
theorem small_three (n : Nat) (h : n ≤ 1000) : Builtin.Range.small 0 (n : Int) 3 = true := by
  unfold Builtin.Range.small
  rw [size_three]
  unfold Builtin.Range.rangeFitsLong
  rw [if_pos (by decide)]
  simp only [Bool.and_eq_true, Bool.or_eq_true, decide_eq_true_eq]
  refine ⟨⟨⟨⟨?_, ?_⟩, ?_⟩, ?_⟩, .inr ?_⟩ <;> omega
theorem slice3 (b : List UInt8) (i : Nat) : sliceZ b (some (0 + (i : Int) * 3)) (some (0 + (i : Int) * 3 + 3)) = (b.drop (3 * i)).take 3 := by
  have e1 : (0 + (i : Int) * 3) = ((3 * i : Nat) : Int) := by omega
  have e2 : (((3 * i : Nat) : Int) + 3) = ((3 * i + 3 : Nat) : Int) := by omega
  unfold sliceZ
  rw [e1, e2]
  show (b.drop (clipAt b.length _)).take (clipAt b.length _ - clipAt b.length _) = _
  rw [clipAt_nat, clipAt_nat]
  by_cases h : 3 * i ≤ b.length
  · rw [Nat.min_eq_left h, take_min_drop]
  · have e3 : b.drop (3 * i) = [] := List.drop_eq_nil_of_le (by omega)
    have e4 : min (3 * i) b.length = b.length := Nat.min_eq_right (by omega)
    rw [e3, e4]
    simp
/-- the worths of a group's octets -/
noncomputable def parts (T : List UInt8) : List Int := (List.range T.length).map fun j => ((T.getD j 0).toNat : Int) * 256 ^ (2 - j)
theorem take_parts (T : List UInt8) : (parts T).take T.length = parts T := List.take_of_length_le (by unfold parts; simp)
theorem parts_snoc {T : List UInt8} {j : Nat} (h : j < T.length) : (parts T).take (j + 1) = (parts T).take j ++ [((T.getD j 0).toNat : Int) * 256 ^ (2 - j)] := by
  have e : j < (parts T).length := by unfold parts; simpa using h
  rw [List.take_add_one, List.getElem?_eq_getElem e]
  unfold parts
  simp
theorem byte_mul_ok (c : UInt8) (x : Int) : IntMulOk (c.toNat : Int) x := IntMulOk.of_left (intBits_le_64 (by omega) (by have := c.toNat_lt; omega))
theorem part_at (T : List UInt8) (j : Nat) (h : j ≤ 2) : ((T.getD (0 + (j : Int) * 1).toNat 0).toNat : Int) * 256 ^ (2 - (0 + (j : Int) * 1)).toNat = ((T.getD j 0).toNat : Int) * 256 ^ (2 - j) := by
  rw [show (0 + (j : Int) * 1).toNat = j from by omega, show (2 - (0 + (j : Int) * 1)).toNat = 2 - j from by omega]
noncomputable def wT (T : List UInt8) : Nat := (parts T).sum.toNat
theorem sum_parts : ∀ T : List UInt8, T.length ≤ 3 → (parts T).sum = (wT T : Int)
  | [], _ => rfl
  | [x], _ => by unfold wT; simp [parts, List.range_succ]; omega
  | [x, y], _ => by unfold wT; simp [parts, List.range_succ]; omega
  | [x, y, z], _ => by unfold wT; simp [parts, List.range_succ]; omega
  | _ :: _ :: _ :: _ :: _, h => by simp at h
/-- the signs of one group -/
noncomputable def grpE (T : List UInt8) : List UInt8 := (fourL (wT T)).take (T.length + 1) ++ List.replicate (3 - T.length) 61
theorem w1 (x : UInt8) : wT [x] = x.toNat * 65536 := by unfold wT; simp [parts, List.range_succ]; omega
theorem w2 (x y : UInt8) : wT [x, y] = x.toNat * 65536 + y.toNat * 256 := by unfold wT; simp [parts, List.range_succ]; omega
theorem w3 (x y z : UInt8) : wT [x, y, z] = x.toNat * 65536 + y.toNat * 256 + z.toNat := by unfold wT; simp [parts, List.range_succ]; omega
theorem e64_step : ∀ l : List UInt8, 0 < l.length → e64 l = grpE (l.take 3) ++ e64 (l.drop 3)
  | [], h => by simp at h
  | [x], _ => by show _ = grpE [x] ++ []; unfold grpE; rw [w1]; rfl
  | [x, y], _ => by show _ = grpE [x, y] ++ []; unfold grpE; rw [w2]; rfl
  | x :: y :: z :: r, _ => by show _ = grpE [x, y, z] ++ e64 r; unfold grpE; rw [w3]; rfl
theorem grp_ints (T : List UInt8) : octI (grpE T) = (octI (fourL (wT T))).take (T.length + 1) ++ (List.replicate (3 - T.length) [(61 : Int)]).flatten := by
  unfold grpE
  rw [octI_app]
  unfold octI
  rw [List.map_take]
  congr 1
  rw [List.map_replicate]
  generalize 3 - T.length = k
  induction k with
  | zero => rfl
  | succ k ih => rw [List.replicate_succ, List.replicate_succ, List.flatten_cons, ← ih]; rfl
set_option maxHeartbeats 8000000 in
theorem law_base64_spec {w : World} {b : List UInt8} {tb : Tok} (hb : b.length ≤ 100) : SpecR w 1 385 [.bytes b.toArray tb] (fun _ => True) (fun v tl => (∃ t, v = .bytes (e64 b).toArray t) ∧ tl = []) := by
  refine' spec_roC (binds := [(Str.ofString "octets", .bytes b.toArray tb)]) (m := fun y => if y = Str.ofString "octets" then some (.bytes b.toArray tb) else none) (cm := fun _ => none) ?ho ?hcd ?hb ?hl ?hnd ?h1 ?h2 ?h3 ?hm ?hcm ?h
  case ho => k_is
  case hcd => k_is
  case hb => exact rfl
  case hl => rfl
  case hnd => decide
  case h1 => rfl
  case h2 => rfl
  case h3 => rfl
  case hm => intro L; rfl
  case hcm => intro L; rfl
  intro dp un gd outer A₀ base g' L' h' tk' cells s' p loose mean mg mb B' F' X' N' Y T' hd hu hpre
  k_cells Y
  have hsz : b.toArray.size = b.length := by simp
  k_steps
  rename_i lF _ _ _ _ _ _ _ _ _ _ _ _
  rename Obj => oS
  refine Stop.go (for_goN (σ := BW) (fun i v => ∃ t, v = .int (0 + (i : Int) * 3) t) ((b.length + 2) / 3) (fun c => [(c.F, listOf c.fs.toArray c.n), (L' + 1 + 1 + 1, c.o3), (L' + 1 + 1, c.o2), (L' + 1, oS)]) (fun c => [(Str.ofString "found", .ref c.F)])
    (fun i c => (∃ x, c.o2.data = .cell x) ∧ (∃ x, c.o3.data = .cell x) ∧ @LT.lt Nat _ (L' + 1 + 1 + 1) c.F ∧ ∃ ns, IntsAre c.fs (octI ns) ∧ ns ++ e64 (b.drop (3 * i)) = e64 b) [Str.ofString "at", Str.ofString "four", Str.ofString "found"] ⟨_, [], 0, _, _⟩ (by rfl) (src_range (by assumption) ?_ ?_) (by assumption) (by assumption) (by intro p hp; rw [List.mem_singleton.mp hp]; rfl) ⟨⟨_, by assumption⟩, ⟨_, by assumption⟩, lF.1, [], .nil, rfl⟩ ?_ ?_)
  · rw [hsz]; exact small_three _ (by omega)
  · rw [hsz]; exact size_three _
  · rintro i v ⟨lf, fs, nf, o2, o3⟩ u h tk I oI hin ⟨t, rfl⟩ hne ⟨⟨x2, hx2⟩, ⟨x3, hx3⟩, hlf, ns, hns, hcat⟩ F₁ N₁
    dsimp only [kstB] at F₁ N₁ hne hx2 hx3 hlf hns hcat
    have hn1 : @Ne Nat lf I := hne _ (List.Mem.head _)
    have hn2 : @Ne Nat (L' + 1 + 1 + 1) I := hne _ (List.Mem.tail _ (List.Mem.head _))
    have hn3 : @Ne Nat (L' + 1 + 1) I := hne _ (List.Mem.tail _ (List.Mem.tail _ (List.Mem.head _)))
    have hn4 : @Ne Nat (L' + 1) I := hne _ (List.Mem.tail _ (List.Mem.tail _ (List.Mem.tail _ (List.Mem.head _))))
    have kMark := kstMark
    have hlen : ns.length ≤ 400 := by
      have h1 := congrArg List.length hcat
      rw [List.length_append] at h1
      have := e64_len b
      omega
    have hfsz : fs.toArray.size ≤ sizeLine := by rw [List.size_toArray, hns.length, sizeLine_eq]; unfold octI; rw [List.length_map]; omega
    have hpos : 0 < (b.drop (3 * i)).length := by rw [List.length_drop]; omega
    obtain ⟨T, hT⟩ : ∃ T, T = (b.drop (3 * i)).take 3 := ⟨_, rfl⟩
    have hT1 : 0 < T.length := by rw [hT, List.length_take]; omega
    have hT3 : T.length ≤ 3 := by rw [hT, List.length_take]; omega
    k_steps
    with_reducible refine Stop.go ?_
    refine my_slice T (by assumption) (by assumption) (by constructor) (by constructor) (by omega) (by rw [slice3, hT]) fun h3 t3 k3 F3 N3 => ?_
    k_steps
    rename Obj => oT
    with_reducible refine Stop.go ?_
    refine comp_go (fun i v => ∃ t, v = .int (0 + (i : Int) * 1) t) T.length (fun i ys nw => nw = [(I, oI), (lf, listOf fs.toArray nf), (L' + 1 + 1 + 1, o3), (L' + 1 + 1, oT), (L' + 1, oS)] ∧ IntsAre ys ((parts T).take i)) (by rfl) (by decide) (by rfl) (by decide) (by rfl) (by rw [sizeLine_eq]; omega) (by rfl) (by assumption) ?_
    k_steps
    refine SrcPost.intro (by assumption) (by assumption) (src_range (by assumption) (small_one T.length (by omega)) (size_one T.length)) ⟨rfl, .nil⟩ (fun i ys nw hI => by rw [hI.1]) (fun g => ?_) (fun D ys nw h tk hI F₁ N₁ oD => ?_)
    · rintro j v I' oI' C oC D m₂ ys nw h tk hj ⟨t, rfl⟩ ⟨rfl, hys⟩ hC hx₂ F₁ N₁ off ne
      have hj2 : j < T.length := hj
      have hsT : T.toArray.size = T.length := by simp
      k_steps
      refine mul_int ?_ (byte_mul_ok _ _)
      k_steps
      refine EltPost.intro (by assumption) (by assumption) (fun _ h => h) ⟨rfl, ?_⟩
      rw [parts_snoc hj2]
      exact ints_eq hys (part_at T j (by omega))
    · obtain ⟨rfl, hys⟩ := hI
      have hys2 : IntsAre ys (parts T) := by rw [← take_parts T]; exact hys
      clear hys
      have hpl : (parts T).length ≤ 3 := by unfold parts; simpa using hT3
      obtain ⟨q1, q2, q3, q4, q5, _⟩ := oD
      change @Ne Nat _ _ at q1 q2 q3 q4 q5
      k_steps
      rename Obj => oW
      with_reducible refine Stop.go ?_
      refine LCg.Assign_ListComp_U (F₀ := by assumption) (by rfl) (by with_unfolding_all rfl) (by rfl) (by decide) (by rfl) (by decide) (by rfl) (by rfl) (by rfl) ?_
      k_steps
      with_reducible refine Stop.go ?_
      refine LCg.CompSrc.range (n := 4) (by rfl) (by assumption) (by assumption) (by assumption) (by decide) (by decide) (by rw [sizeLine_eq]; omega) fun g => ?_
      refine rest_of (n := 4) (Inv := fun i ys2 nw => nw = [(D, LCg.lst ys), (I, oI), (lf, listOf fs.toArray nf), (L' + 1 + 1 + 1, oW), (L' + 1 + 1, oT), (L' + 1, oS)] ∧ IntsAre ys2 (octI ((fourL (wT T)).take i))) (adr := [D, I, lf, L' + 1 + 1 + 1, L' + 1 + 1, L' + 1]) (fun i ys nw hI => by rw [hI.1]; rfl) ?_ (fun ys2 nw hI => ?_) 4 0 [] _ (by rfl) ⟨rfl, .nil⟩
      · rintro j v I' oI' C oC D m₂ ys2 nw h tk hj ⟨t, rfl⟩ ⟨rfl, hys⟩ hC hx₂ F₁ N₁ off ne
        k_steps
        refine floordiv_int (pow64_ne j hj) ?_ (Or.inl (pow64_py j hj _))
        k_steps
        refine EltPost.intro (by assumption) (by assumption) (fun _ h => h) ⟨rfl, ?_⟩
        have hjl : j < (fourL (wT T)).length := by rw [fourL_len]; exact hj
        have e9 := octI_snoc hjl
        rw [get_sgn (wT T) j hj] at e9
        refine ints_cast e9 ?_
        refine ints_eq hys ?_
        exact sgn_of _ (wT T) j (by have : j < 4 := hj; omega) (sum_parts T hT3)
      · obtain ⟨rfl, hys4⟩ := hI
        intro D4 h4 tk4 F4 N4 oD4
        have hys5 : IntsAre ys2 (octI (fourL (wT T))) := hys4
        clear hys4
        have hl5 : ys2.length = 4 := hys5.length
        obtain ⟨r1, r2, r3, r4, r5, r6, _⟩ := oD4
        change @Ne Nat _ _ at r1 r2 r3 r4 r5 r6
        k_steps
        rename News _ _ _ _ => nE
        rename IntsAre _ (List.take _ _) => hIw
        have hl6 : (octI (fourL (wT T))).length = 4 := rfl
        have hlw : (List.take ((T.toArray.size : Int) + 1).toNat (octI (fourL (wT T)))).length ≤ 4 := by rw [List.length_take, hl6]; exact Nat.min_le_right _ _
        have hoct : (octI ns).length ≤ 400 := by unfold octI; rw [List.length_map]; exact hlen
        refine kmk_add_ints (by assumption) nE (News.isList nE (by k_mem)) (News.isList nE (by k_mem)) (by assumption : IntsAre fs (octI ns)) hIw (fun D6 us h6 F6 N6 l6 hI6 => ?_) (sz_add (Nat.le_trans hoct (by decide)) (Nat.le_trans hlw (by decide)))
        k_lt l6
        k_steps
        rename IntsAre _ (_ ++ _ ++ _) => hI8
        rename News _ _ _ _ => nE3
        have hd : b.drop (3 * (i + 1)) = (b.drop (3 * i)).drop 3 := by rw [List.drop_drop, Nat.mul_succ]
        have es : T.toArray.size = T.length := by simp
        rw [es, show ((T.length : Int) + 1).toNat = T.length + 1 from by omega, show (3 - (T.length : Int)).toNat = 3 - T.length from by omega, List.append_assoc, ← grp_ints, ← octI_app] at hI8
        refine ForEnd.intro ⟨_, _, 0, oT, oW⟩ (by assumption) nE3 (five_in (by k_mem) (by k_mem) (by k_mem) (by k_mem) (by k_mem)) ⟨⟨⟨_, by assumption⟩, ⟨_, by assumption⟩, ?_, ns ++ grpE T, hI8, ?_⟩, ?_⟩ (by intro p hp; rw [List.mem_singleton.mp hp]; rfl) (by ksw_same)
        · dsimp only; omega
        · rw [hd, List.append_assoc, hT, ← e64_step _ hpos]; exact hcat
        · intro p hp
          simp only [List.mem_cons, List.not_mem_nil, or_false] at hp
          rcases hp with rfl | rfl | rfl | rfl
          · show @Ne Nat _ _; omega
          · exact hn2
          · exact hn3
          · exact hn4
  · rintro ⟨lf, fs, nf, o2, o3⟩ u h tk ⟨⟨x2, hx2⟩, ⟨x3, hx3⟩, hlf, ns, hns, hcat⟩ F₁ N₁
    dsimp only [kstB] at F₁ N₁ hx2 hx3 hlf hns hcat
    have hd : b.drop (3 * ((b.length + 2) / 3)) = [] := List.drop_eq_nil_of_le (by omega)
    rw [hd] at hcat
    have hcat2 : ns = e64 b := by rw [← hcat]; simp [e64]
    k_steps
    refine my_bytes (by assumption) (by assumption) (os := e64 b) (List.Mem.head _) (hcat2 ▸ hns) (by have := e64_len b; omega) (by rfl) fun h5 t5 k5 F5 N5 => ?_
    k_steps
    exact Ret.drop (by assumption) (by assumption) ⟨⟨_, rfl⟩, rfl⟩ (fun p hp => nomatch hp)
end Mine
end
section
open PySem PySem.W PySem.Calls PyProof.Rows
set_option maxRecDepth 100000
namespace Mine
noncomputable def FieldAt (h : Heap) (x : Addr) (nm raw : List UInt8) : Prop :=
  ∃ (dx : Addr) (ox : Obj) (es : List DictEntry) (n : Nat) (t u : Tok), InstAt h x ox 177 (some (dictOf es n)) ∧ getL "name" es = some (some (.bytes nm.toArray t)) ∧ getL "raw" es = some (some (.bytes raw.toArray u)) ∧ getL "word" es = some none
theorem instAt_keeps {h h' : Heap} {x C : Addr} {ox : Obj} {od : Option Obj} (I : W.InstAt h x ox C od) (hk : ∀ b o, h.get? b = some o → h'.get? b = some o) : W.InstAt h' x ox C od := by
  obtain ⟨a, b, c, d⟩ := I
  refine ⟨hk _ _ a, b, c, ?_⟩
  revert d
  cases ox.dict <;> cases od <;> intro d
  · exact d
  · exact d
  · exact d
  · exact hk _ _ d
noncomputable def codeS (b : List UInt8) : Str := ⟨(b.map UInt8.toNat).toArray⟩
set_option maxHeartbeats 8000000 in
theorem field_word_spec {w : World} {x : Addr} {nm raw : List UInt8} (hb : nm.length ≤ 1000) : SpecR w 3 167 [.ref x] (fun h => FieldAt h x nm raw) (fun v tl => (∃ t, v = .str (lowerS (codeS nm)) t) ∧ tl = []) := by
  refine' spec_ro (binds := [(Str.ofString "self", .ref x)]) ?ho ?hcd ?hb ?hl ?h1 ?h2 ?h3 ?h4 ?h
  case ho => k_is
  case hcd => k_is
  case hb => exact binds_eq rfl
  case hl => rfl
  case h1 => rfl
  case h2 => rfl
  case h3 => rfl
  case h4 => decide
  intro dp un gd outer A₀ base g' L' h' tk' s' p loose mean mg mb B' F' X' N' T' hd hu hpre
  obtain ⟨dx, ox, es, n, tn, tr, hI, hname, hraw, hword⟩ := hpre
  have hsz : nm.toArray.size = nm.length := by simp
  k_steps
  with_reducible refine Stop.go ?_
  refine comp_go (fun i v => ∃ c u, nm.toArray[i]? = some c ∧ v = .int (c.toNat : Int) u) nm.toArray.size (fun i ys nw => nw = [] ∧ StrsAre ys (((nm.take i).map UInt8.toNat).map oneSign)) (by rfl) (by decide) (by rfl) (by decide) (by rfl) (by rw [sizeLine_eq]; omega) (by rfl) (by assumption) ?_
  k_steps
  refine get_own (by assumption) X' (instAt_keeps hI (Fr.keep (by assumption))) (by k_is) (by k_is) (by k_is) (by k_is) hname (by k_handed) ?_
  refine SrcPost.intro (by assumption) (by assumption) src_bytes ⟨rfl, .nil⟩ (fun i ys nw hI => by rw [hI.1]) (fun g => ?_) (fun D ys nw h tk hI F₁ N₁ oD => ?_)
  · rintro i v I oI C oC D m₂ ys nw h tk hi ⟨c, u, hc, rfl⟩ ⟨rfl, hys⟩ hC hx₂ F₁ N₁ off ne
    have hc256 := c.toNat_lt
    k_steps
    refine EltPost.intro (by assumption) (by assumption) (fun _ h => h) ⟨rfl, ?_⟩
    have hc2 : nm[i]? = some c := by simpa using hc
    rw [List.take_add_one, hc2, List.map_append, List.map_append]
    exact StrsAre.snoc hys
  · obtain ⟨rfl, hys⟩ := hI
    rw [hsz, List.take_length] at hys
    k_steps
    refine call_sjoin (N₁ _ (List.Mem.head _)).1 hys ?_ (by simp; omega) fun t' k => ?_
    · intro y hy
      obtain ⟨c, _, rfl⟩ := List.mem_map.mp hy
      exact (by decide : (1 : Nat) ≤ 8)
    rw [cat_ones]
    k_steps
    refine Spec.use (lower_text_spec (x := codeS nm) (by simp [codeS]; omega) (fun c hc => ?_)) B' (by assumption) X' (by assumption) T' rfl (by omega) (by omega) ?_
    · obtain ⟨y, _, rfl⟩ := List.mem_map.mp (show c ∈ nm.map UInt8.toNat by simpa [codeS] using hc)
      have := y.toNat_lt
      omega
    rintro v nw' h2 tk2 ⟨⟨t1, rfl⟩, e9⟩ F2 N2
    rw [e9] at N2
    k_steps
    exact Ret.drop (by assumption) (by assumption) ⟨⟨_, rfl⟩, rfl⟩ (fun p hp => nomatch hp)
set_option maxHeartbeats 8000000 in
theorem line_at_spec {w : World} {b : List UInt8} {e : Nat} {tb t0 te : Tok} (hb : b.length ≤ 1000) (hf : findZ b.toArray #[10] (some 0) (some (e : Int)) = -1) : SpecR w 1 188 [.bytes b.toArray tb, .int 0 t0, .int (e : Int) te] (fun _ => True) (fun v tl => ∃ (a : Addr) (t1 t2 : Tok), v = .ref a ∧ tl = [(a, tupO [.int (e : Int) t1, .int (e : Int) t2])]) := by
  refine' spec_ro (binds := [(Str.ofString "data", .bytes b.toArray tb), (Str.ofString "at", .int 0 t0), (Str.ofString "end", .int (e : Int) te)]) ?ho ?hcd ?hb ?hl ?h1 ?h2 ?h3 ?h4 ?h
  case ho => k_is
  case hcd => k_is
  case hb => exact binds_eq rfl
  case hl => rfl
  case h1 => rfl
  case h2 => rfl
  case h3 => rfl
  case h4 => decide
  intro dp un gd outer A₀ base g' L' h' tk' s' p loose mean mg mb B' F' X' N' T' hd hu hpre
  k_steps
  exact Ret.intro (by assumption) (by assumption) ⟨_, _, _, rfl, rfl⟩
set_option maxHeartbeats 8000000 in
theorem rows_of_spec {w : World} {b : List UInt8} {tb : Tok} (hb : b.length ≤ 1000) (hf : findZ b.toArray #[10] (some 0) (some (b.length : Int)) = -1) : SpecR w 2 195 [.bytes b.toArray tb] (fun _ => True) (fun v tl => ∃ (a : Addr) (n : Nat) (t1 : Tok), v = .ref a ∧ tl = [(a, listOf #[.bytes b.toArray t1] n)]) := by
  refine' spec_ro (binds := [(Str.ofString "raw", .bytes b.toArray tb)]) ?ho ?hcd ?hb ?hl ?h1 ?h2 ?h3 ?h4 ?h
  case ho => k_is
  case hcd => k_is
  case hb => exact binds_eq rfl
  case hl => rfl
  case h1 => rfl
  case h2 => rfl
  case h3 => rfl
  case h4 => decide
  intro dp un gd outer A₀ base g' L' h' tk' s' p loose mean mg mb B' F' X' N' T' hd hu hpre
  have hsz : b.toArray.size = b.length := by simp
  have hf' : findZ b.toArray #[10] (some 0) (some (b.toArray.size : Int)) = -1 := by rw [hsz]; exact hf
  k_steps
  refine SpecR.use (line_at_spec (e := b.toArray.size) hb hf') B' (by assumption) X' (by assumption) T' rfl (by omega) (by omega) trivial ?_
  rintro v tl h2 tk2 ⟨a, t1, t2, rfl, rfl⟩ F2 N2 hne
  simp only [List.cons_append, List.nil_append] at N2
  have hal := (hne _ (List.Mem.head _) _ (List.Mem.head _)).symm
  dsimp only at hal
  k_steps
  with_reducible refine Stop.go ?_
  refine my_slice (s := ⟨_, _, _, _, _⟩) b (by assumption) (by assumption) (by constructor) (by constructor) hb ?_ fun h3 t3 k3 F3 N3 => ?_
  · unfold sliceZ
    show (b.drop (clipAt b.length ((0 : Nat) : Int))).take (clipAt b.length ((b.toArray.size : Nat) : Int) - clipAt b.length ((0 : Nat) : Int)) = b
    rw [clipAt_nat, clipAt_nat, hsz]
    simp
  k_steps
  · rename News _ _ _ _ => nE
    exact Ret.drop (by assumption) nE ⟨_, _, _, rfl, rfl⟩ (fun p hp => by rw [List.mem_singleton.mp hp]; first | exact List.Mem.head _ | exact List.Mem.tail _ (List.Mem.head _) | exact List.Mem.tail _ (List.Mem.tail _ (List.Mem.head _)))
  · exact absurd rfl ‹(b.toArray.size : Int) ≠ _›
set_option maxHeartbeats 8000000 in
theorem unfolded_spec {w : World} {b : List UInt8} {tb : Tok} (hb : b.length ≤ 1000) (hf : findZ b.toArray #[10] (some 0) (some (b.length : Int)) = -1) : SpecR w 3 202 [.bytes b.toArray tb] (fun _ => True) (fun v tl => (∃ t, v = .bytes (stripZ true b.toArray #[32, 9]).toArray t) ∧ tl = []) := by
  refine' spec_ro (binds := [(Str.ofString "raw", .bytes b.toArray tb)]) ?ho ?hcd ?hb ?hl ?h1 ?h2 ?h3 ?h4 ?h
  case ho => k_is
  case hcd => k_is
  case hb => exact binds_eq rfl
  case hl => rfl
  case h1 => rfl
  case h2 => rfl
  case h3 => rfl
  case h4 => decide
  intro dp un gd outer A₀ base g' L' h' tk' s' p loose mean mg mb B' F' X' N' T' hd hu hpre
  have hsz : b.toArray.size = b.length := by simp
  k_steps
  refine SpecR.use (rows_of_spec hb hf) B' (by assumption) X' (by assumption) T' rfl (by omega) (by omega) trivial ?_
  rintro v tl h2 tk2 ⟨a, n, t1, rfl, rfl⟩ F2 N2 hne
  simp only [List.cons_append, List.nil_append] at N2
  k_steps
  refine my_join (os := b) N2 (List.Mem.head _) (.cons _ _ .nil) (by simp) hb fun t3 k3 => ?_
  k_steps
  refine call_strip (by simp; omega) fun t4 k4 => ?_
  k_steps
  exact Ret.drop (by assumption) (by assumption) ⟨⟨_, rfl⟩, rfl⟩ (fun p hp => nomatch hp)
end Mine
end
section
open PySem PySem.W PySem.Calls PyProof.Rows
set_option maxRecDepth 100000
namespace Mine
local macro_rules
  | `(tactic| walk_at "exec For Name Name") => `(tactic| refine Mine.stop ?_)
  | `(tactic| walk_at "getMethod ref") => `(tactic| refine Mine.stop ?_)
noncomputable abbrev Fld := List UInt8 × List UInt8
/-- a list of fields that stands in the heap -/
noncomputable def FieldsAt (h : Heap) (l : Addr) (fs : List Value) (flds : List Fld) : Prop :=
  h.IsList l fs.toArray ∧ fs.length = flds.length ∧ ∀ (i : Nat) (p : Fld), flds[i]? = some p → ∃ x, fs[i]? = some (.ref x) ∧ FieldAt h x p.1 p.2
theorem FieldAt.keeps {h h' : Heap} {x : Addr} {nm raw : List UInt8} (H : FieldAt h x nm raw) (hk : ∀ b o, h.get? b = some o → h'.get? b = some o) : FieldAt h' x nm raw := by
  obtain ⟨dx, ox, es, n, t, u, hI, a, b, c⟩ := H
  exact ⟨dx, ox, es, n, t, u, instAt_keeps hI hk, a, b, c⟩
theorem FieldsAt.keeps {h h' : Heap} {l : Addr} {fs : List Value} {flds : List Fld} (H : FieldsAt h l fs flds) (hk : ∀ b o, h.get? b = some o → h'.get? b = some o) : FieldsAt h' l fs flds := by
  obtain ⟨hl, hlen, hat⟩ := H
  refine ⟨hl.at fun o e => hk _ _ e, hlen, fun i p hp => ?_⟩
  obtain ⟨x, hx, hF⟩ := hat i p hp
  exact ⟨x, hx, hF.keeps hk⟩
noncomputable def FldOk (p : Fld) : Prop := p.1.length ≤ 1000 ∧ p.2.length ≤ 1000 ∧ findZ p.2.toArray #[10] (some 0) (some (p.2.length : Int)) = -1
noncomputable def hitF (w : Str) (p : Fld) : Bool := lowerS (codeS p.1) == lowerS w
/-- what first_body finds -/
noncomputable def BodyIs (w : Str) (flds : List Fld) (v : Value) : Prop :=
  (∃ p t, flds.find? (hitF w) = some p ∧ v = .bytes (stripZ true p.2.toArray #[32, 9]).toArray t) ∨ (flds.find? (hitF w) = none ∧ v = .none)
theorem find_at {w : Str} {flds : List Fld} {i : Nat} {p : Fld} (hp : flds[i]? = some p) (hno : ∀ j q, j < i → flds[j]? = some q → hitF w q = false) (h : hitF w p = true) : flds.find? (hitF w) = some p := by
  induction flds generalizing i with
  | nil => simp at hp
  | cons a r ih =>
    rw [List.find?_cons]
    cases i with
    | zero =>
      simp only [List.getElem?_cons_zero, Option.some.injEq] at hp
      subst hp
      rw [h]
    | succ i =>
      rw [hno 0 a (Nat.succ_pos _) rfl]
      exact ih (by simpa using hp) fun j q hj hq => hno (j + 1) q (Nat.succ_lt_succ hj) (by simpa using hq)
theorem find_none {w : Str} {flds : List Fld} (hno : ∀ j q, j < flds.length → flds[j]? = some q → hitF w q = false) : flds.find? (hitF w) = none := by
  rw [List.find?_eq_none]
  intro q hq
  obtain ⟨j, hj⟩ := List.mem_iff_getElem?.mp hq
  obtain ⟨hlt, _⟩ := List.getElem?_eq_some_iff.mp hj
  rw [hno j q hlt hj]
  exact Bool.false_ne_true
set_option maxHeartbeats 8000000 in
theorem first_body_spec {w : World} {l : Addr} {wd : Str} {tw : Tok} {fs : List Value} {flds : List Fld} (hw : wd.cps.size ≤ 1000) (hws : ∀ c ∈ wd.cps.toList, c < 1000) (hok : ∀ p ∈ flds, FldOk p) (hfl : flds.length ≤ 10) : SpecR w 4 209 [.ref l, .str wd tw] (fun h => FieldsAt h l fs flds) (fun v tl => BodyIs wd flds v ∧ tl = []) := by
  refine' spec_ro (binds := [(Str.ofString "fields", .ref l), (Str.ofString "word", .str wd tw)]) ?ho ?hcd ?hb ?hl ?h1 ?h2 ?h3 ?h4 ?h
  case ho => k_is
  case hcd => k_is
  case hb => exact binds_eq rfl
  case hl => rfl
  case h1 => rfl
  case h2 => rfl
  case h3 => rfl
  case h4 => decide
  intro dp un gd outer A₀ base g' L' h' tk' s' p loose mean mg mb B' F' X' N' T' hd hu hpre
  obtain ⟨hl, hlen, hat⟩ := hpre
  k_steps
  refine Spec.use (lower_text_spec hw hws) B' (by assumption) X' (by assumption) T' rfl (by omega) (by omega) ?_
  rintro v nw' h2 tk2 ⟨⟨t1, rfl⟩, e9⟩ F2 N2
  rw [e9] at N2
  have kMark := kstMark
  k_steps
  with_reducible refine Stop.go ?_
  refine For_invV g' (by rfl) (by rfl) ?_
  k_steps
  with_reducible refine Stop.go ?_
  refine for_list (σ := Unit) (vs := fs) (fun _ => []) (fun _ => []) (fun i _ => ∀ j q, j < i → flds[j]? = some q → hitF wd q = false) [Str.ofString "field"] () (by rfl) hl (by assumption) (by assumption) (fun _ => rfl) (fun p hp => nomatch hp) (fun j q hj => absurd hj (Nat.not_lt_zero _)) ?_ ?_
  · rintro i v _ u h tk I oI hin hv _ hno F₁ N₁
    dsimp only [kstB] at F₁ N₁
    obtain ⟨p, hp⟩ : ∃ p, flds[i]? = some p := ⟨flds[i]'(by omega), List.getElem?_eq_getElem (by omega)⟩
    obtain ⟨x, hx, hF⟩ := hat i p hp
    rw [hv] at hx
    cases hx
    obtain ⟨hok1, hok2, hok3⟩ := hok p (List.mem_of_getElem? hp)
    obtain ⟨dx, ox, es, ne, tn, tr, hI, hname, hraw, hword⟩ := id hF
    k_steps
    with_reducible refine Stop.go ?_
    refine' method_inst F₁ X' (instAt_keeps hI F₁.keep) ?k4 ?k5 ?k6 hword ?_
    case k4 => k_is
    case k5 => k_is
    case k6 => k_is
    k_steps
    refine SpecR.use (field_word_spec hok1) B' F₁ X' N₁ T' rfl (by omega) (by omega) (FieldAt.keeps hF F₁.keep) ?_
    rintro v tl h3 tk3 ⟨⟨t3, rfl⟩, rfl⟩ F3 N3 hne3
    rw [List.nil_append] at N3
    k_steps
    · refine' get_own F3 X' (instAt_keeps hI F3.keep) ?k4 ?k5 ?k6 ?k7 hraw ?k8 ?_
      case k4 => k_is
      case k5 => k_is
      case k6 => k_is
      case k7 => k_is
      case k8 => k_handed
      k_steps
      refine SpecR.use (unfolded_spec hok2 hok3) B' F3 X' N3 T' rfl (by omega) (by omega) trivial ?_
      rintro v tl h4 tk4 ⟨⟨t4, rfl⟩, rfl⟩ F4 N4 hne4
      rw [List.nil_append] at N4
      k_steps
      unfold ForPost
      dsimp only
      exact Ret.drop (by assumption) (by assumption) ⟨.inl ⟨p, _, find_at hp hno ‹_ = true›, rfl⟩, rfl⟩ (fun p hp => nomatch hp)
    · refine ForEnd.intro () (by assumption) (by assumption) (fun p hp => hp) ?_ (fun p hp => nomatch hp) (by ksw_same)
      intro j q hj hq
      rcases Nat.lt_succ_iff_lt_or_eq.mp hj with h9 | h9
      · exact hno j q h9 hq
      · subst h9
        rw [hp] at hq
        cases hq
        assumption
  · rintro _ u h tk hno F₁ N₁
    dsimp only [kstB] at F₁ N₁
    k_steps
    show Ret _ _ _ _ (Flow.ret _) _
    exact Ret.drop (by assumption) (by assumption) ⟨.inr ⟨find_none fun j q hj => hno j q (by omega), rfl⟩, rfl⟩ (fun p hp => nomatch hp)
end Mine
end
section
open PySem PySem.W PySem.Calls PyProof.Rows
set_option maxRecDepth 100000
namespace Mine
theorem two_in {α : Type} {a b : α} {l : List α} (h1 : a ∈ l) (h2 : b ∈ l) : ∀ x ∈ [a, b], x ∈ l := by
  intro x hx
  rcases List.mem_cons.mp hx with rfl | hx
  · exact h1
  · rw [List.mem_singleton.mp hx]; exact h2
set_option maxHeartbeats 8000000 in
theorem line_parts_spec {w : World} {b : List UInt8} {tb : Tok} (hb : b.length ≤ 1000) (hf : findZ b.toArray #[10] (some 0) none = -1) : SpecR w 1 230 [.bytes b.toArray tb] (fun _ => True) (fun v tl => ∃ (l a : Addr) (n : Nat) (t1 t2 : Tok), v = .ref l ∧ tl = [(l, listOf #[.ref a] n), (a, tupO [.bytes b.toArray t1, .bytes #[] t2])]) := by
  refine' spec_ro (binds := [(Str.ofString "data", .bytes b.toArray tb)]) ?ho ?hcd ?hb ?hl ?h1 ?h2 ?h3 ?h4 ?h
  case ho => k_is
  case hcd => k_is
  case hb => exact binds_eq rfl
  case hl => rfl
  case h1 => rfl
  case h2 => rfl
  case h3 => rfl
  case h4 => decide
  intro dp un gd outer A₀ base g' L' h' tk' s' p loose mean mg mb B' F' X' N' T' hd hu hpre
  have hsz : b.toArray.size = b.length := by simp
  k_steps
  try rw [hf]
  k_steps
  with_reducible refine Stop.go ?_
  refine my_slice (s := ⟨_, _, _, _, _⟩) b (by assumption) (by assumption) (by constructor) (by constructor) hb ?_ fun h2 t2 k2 F2 N2 => ?_
  · unfold sliceZ
    show (b.drop (clipAt b.length ((0 : Nat) : Int))).take (b.length - clipAt b.length ((0 : Nat) : Int)) = b
    rw [clipAt_nat]
    simp
  k_steps
  exact Ret.drop (by assumption) (by assumption) ⟨_, _, _, _, _, rfl, rfl⟩ (two_in (.head _) (.tail _ (.tail _ (.head _))))
structure UQ where
  vs : List Value
  n : Nat
  k : Nat
  tk : Tok
set_option maxHeartbeats 8000000 in
theorem unquoted_spec {w : World} {b os : List UInt8} {tb : Tok} (hb : b.length ≤ 1000) (ho : b.length = 3 * os.length) (he : ∀ k, k < os.length → b.getD (3 * k) 0 = 61 ∧ quotedZ b (3 * k) = ((os.getD k 0).toNat : Int)) : SpecR w 3 237 [.bytes b.toArray tb] (fun _ => True) (fun v tl => (∃ t, v = .bytes os.toArray t) ∧ tl = []) := by
  refine' spec_ro (binds := [(Str.ofString "line", .bytes b.toArray tb)]) ?ho ?hcd ?hb ?hl ?h1 ?h2 ?h3 ?h4 ?h
  case ho => k_is
  case hcd => k_is
  case hb => exact binds_eq rfl
  case hl => rfl
  case h1 => rfl
  case h2 => rfl
  case h3 => rfl
  case h4 => decide
  intro dp un gd outer A₀ base g' L' h' tk' s' p loose mean mg mb B' F' X' N' T' hd hu hpre
  have hsz : b.toArray.size = b.length := by simp
  k_steps
  refine Stop.go (while1 (σ := UQ) UQ.vs UQ.n (fun c => [(Str.ofString "at", .int ((3 * c.k : Nat) : Int) c.tk)]) (fun c => IntsAre c.vs (octI (os.take c.k))) [Str.ofString "code", Str.ofString "at"]
    (fun c => c.k ≤ os.length) (fun c => os.length - c.k) ⟨[], 0, 0, _⟩ (by assumption) (by assumption) .nil (by intro p hp; rw [List.mem_singleton.mp hp]; rfl) (Nat.zero_le _) ?_)
  rintro ⟨vs, n, k, tk1⟩ u h tk hf hk F₁ N₁
  dsimp only [kstB] at F₁ N₁ hf hk
  by_cases hlt : k < os.length
  · obtain ⟨hq1, hq2⟩ := he k hlt
    have hk3 : 3 * k < b.length := by omega
    have hq3 : ((b.getD (3 * k) 0).toNat : Int) = 61 := by rw [hq1]; rfl
    have e1 : (((3 * k : Nat) : Int)).toNat = 3 * k := by omega
    have hq4 : ((b.getD (((3 * k : Nat) : Int)).toNat 0).toNat : Int) = 61 := by rw [e1]; exact hq3
    have hq5 : 0 ≤ quotedZ b (3 * k) ∧ quotedZ b (3 * k) ≤ 255 := by rw [hq2]; have := (os.getD k 0).toNat_lt; omega
    obtain ⟨hq6, hq7⟩ := hq5
    k_steps
    refine Spec.use (quoted_at_spec hb hk3) B' (by assumption) X' (by assumption) T' rfl (by omega) (by omega) ?_
    rintro v nw' h2 tk2 ⟨⟨t1, rfl⟩, e9⟩ F2 N2
    rw [e9] at N2
    have kMark := kstMark
    have hv : vs.toArray.size ≤ sizeLine := by
      rw [List.size_toArray, hf.length, sizeLine_eq]; unfold octI; rw [List.length_map, List.length_take]; omega
    k_steps
    · rename News _ _ _ _ => nE
      try simp only [List.push_toArray] at nE
      refine ksw_end ⟨vs ++ [_], _, k + 1, _⟩ (by assumption) nE (fun p hp => hp) ?_ (by intro p hp; rw [List.mem_singleton.mp hp]; rfl) (by ksw_same) (by show k + 1 ≤ os.length; omega) (by show os.length - (k + 1) < os.length - k; omega)
      show IntsAre (vs ++ [_]) _
      rw [octI_snoc hlt, ← hq2]
      exact ints_snoc hf
    · exact absurd hq4 (by assumption)
  · have e3 : k = os.length := by omega
    subst e3
    rw [List.take_length] at hf
    k_steps
    refine my_bytes F₁ N₁ (List.Mem.head _) hf (by omega) (by rfl) fun h5 t5 k5 F5 N5 => ?_
    k_steps
    exact Ret.drop F5 N5 ⟨⟨_, rfl⟩, rfl⟩ (fun p hp => nomatch hp)
end Mine
end
section
open PySem PySem.W PySem.Calls PyProof.Rows
set_option maxRecDepth 100000
namespace Mine
local macro_rules
  | `(tactic| walk_at "exec While BoolOp") => `(tactic| refine Mine.stop ?_)
noncomputable def cte : Str := Str.ofString "content-transfer-encoding"
noncomputable def endB (c : UInt8) : Bool := c == 32 || c == 9 || c == 40 || c == 59
theorem ends_eq {c : UInt8} {i : Int} (e : i = (c.toNat : Int)) : (#[32, 9, 40, 59] : Array UInt8).contains i.toNat.toUInt8 = endB c := by
  subst e
  have e2 : ((c.toNat : Int)).toNat.toUInt8 = c := by rw [Int.toNat_natCast]; exact UInt8.ofNat_toNat
  rw [e2]
  unfold endB
  simp only [List.contains_toArray, List.contains_cons, List.contains_nil, Bool.or_false]
  simp only [Bool.or_assoc]
noncomputable def wordB (b : List UInt8) : List UInt8 := b.takeWhile fun c => !endB c
theorem word_at {b : List UInt8} {k : Nat} (hk : k ≤ b.length) (hno : ∀ j, j < k → endB (b.getD j 0) = false) (hend : b.length = k ∨ endB (b.getD k 0) = true) : b.take k = wordB b := by
  unfold wordB
  induction b generalizing k with
  | nil => simp
  | cons c r ih =>
    cases k with
    | zero =>
      rcases hend with h | h
      · simp at h
      · have h2 : endB c = true := h
        rw [List.takeWhile_cons]
        simp [h2]
    | succ k =>
      have h0 : endB c = false := hno 0 (Nat.succ_pos _)
      rw [List.takeWhile_cons, h0, List.take_succ_cons]
      simp only [Bool.not_false, if_true]
      rw [ih (Nat.le_of_succ_le_succ hk) (fun j hj => hno (j + 1) (Nat.succ_lt_succ hj)) (hend.imp (fun h => by simpa using h) id)]
noncomputable def wordS (b : List UInt8) : Str := if lowerS (codeS (wordB b)) == Str.ofString "" then Str.ofString "7bit" else lowerS (codeS (wordB b))
/-- the word of the transfer encoding that the fields tell -/
noncomputable def EncIs (flds : List Fld) (w : Str) : Prop :=
  (∃ p, flds.find? (hitF cte) = some p ∧ w = wordS (stripZ true p.2.toArray #[32, 9])) ∨ (flds.find? (hitF cte) = none ∧ w = Str.ofString "7bit")
set_option maxHeartbeats 8000000 in
theorem encoding_of_spec {w : World} {l : Addr} {fs : List Value} {flds : List Fld} (hok : ∀ p ∈ flds, FldOk p) (hfl : flds.length ≤ 10) : SpecR w 5 277 [.ref l] (fun h => FieldsAt h l fs flds) (fun v tl => (∃ w t, v = .str w t ∧ EncIs flds w) ∧ tl = []) := by
  refine' spec_ro (binds := [(Str.ofString "fields", .ref l)]) ?ho ?hcd ?hb ?hl ?h1 ?h2 ?h3 ?h4 ?h
  case ho => k_is
  case hcd => k_is
  case hb => exact binds_eq rfl
  case hl => rfl
  case h1 => rfl
  case h2 => rfl
  case h3 => rfl
  case h4 => decide
  intro dp un gd outer A₀ base g' L' h' tk' s' p loose mean mg mb B' F' X' N' T' hd hu hpre
  k_steps
  refine SpecR.use (first_body_spec (wd := cte) (flds := flds) (fs := fs) (by decide +kernel) (by decide +kernel) hok hfl) B' (by assumption) X' (by assumption) T' rfl (by omega) (by omega) ?_ ?_
  · exact FieldsAt.keeps hpre (Fr.keep (by assumption))
  rintro v tl h2 tk2 ⟨hB, rfl⟩ F2 N2 hne2
  rw [List.nil_append] at N2
  rcases hB with ⟨p, t, hf, rfl⟩ | ⟨hf, rfl⟩
  · have kMark := kstMark
    have hpo := hok p (List.mem_of_find?_eq_some hf)
    obtain ⟨hpo1, hpo2, hpo3⟩ := hpo
    have hres : ∀ w, w = wordS (stripZ true p.2.toArray #[32, 9]) → EncIs flds w := fun w e => .inl ⟨p, hf, e⟩
    have hb : (stripZ true p.2.toArray #[32, 9]).length ≤ 1000 := Nat.le_trans strip_len (by rw [List.size_toArray]; exact hpo2)
    generalize stripZ true p.2.toArray #[32, 9] = b at hb hres ⊢
    have hsz : b.toArray.size = b.length := by simp
    k_steps
    refine Stop.go (ksw_while (σ := Nat × Tok) (fun _ => []) (fun c => [(Str.ofString "at", .int (c.1 : Int) c.2)]) (fun _ => True) [Str.ofString "at"] (fun c => c.1 ≤ b.length ∧ ∀ j, j < c.1 → endB (b.getD j 0) = false) (fun c => b.length - c.1) (0, _)
      (by assumption) (by assumption) trivial (by intro p hp; rw [List.mem_singleton.mp hp]; rfl) ⟨Nat.zero_le _, fun j hj => absurd hj (Nat.not_lt_zero _)⟩ ?_ (fun _ _ h => h.elim))
    rintro ⟨k, tk1⟩ u h tk _ ⟨hk, hbf⟩ F₁ N₁
    dsimp only [kstB] at F₁ N₁ hk hbf
    have hsz2 : (wordB b).toArray.size = (wordB b).length := by simp
    have hw9 : (wordB b).length ≤ 1000 := Nat.le_trans (List.takeWhile_prefix _).length_le hb
    by_cases hlt : k < b.length
    · cases hc : endB (b.getD k 0) with
      | false =>
        have hc' : endB (b.getD ((k : Int)).toNat 0) = false := hc
        k_steps
        refine notin_bytes (by omega) (by have := (b.getD ((k : Int)).toNat 0).toNat_lt; omega) ?_
        rw [ends_eq (c := b.getD ((k : Int)).toNat 0) rfl, hc']
        k_steps
        refine ksw_end (k + 1, _) (by assumption) (by assumption) (fun p hp => hp) trivial (by intro p hp; rw [List.mem_singleton.mp hp]; rfl) (by ksw_same) ⟨hlt, fun j hj => ?_⟩ (by show b.length - (k + 1) < b.length - k; omega)
        rcases Nat.lt_succ_iff_lt_or_eq.mp hj with h9 | h9
        · exact hbf j h9
        · rw [h9]; exact hc
      | true =>
        have hc' : endB (b.getD ((k : Int)).toNat 0) = true := hc
        have hw := word_at hk hbf (.inr hc)
        k_steps
        refine notin_bytes (by omega) (by have := (b.getD ((k : Int)).toNat 0).toNat_lt; omega) ?_
        rw [ends_eq (c := b.getD ((k : Int)).toNat 0) rfl, hc']
        k_steps
        with_reducible refine Stop.go ?_
        refine comp_go (fun i v => ∃ c u, (wordB b).toArray[i]? = some c ∧ v = .int (c.toNat : Int) u) (wordB b).toArray.size (fun i ys nw => nw = [] ∧ StrsAre ys ((((wordB b).take i).map UInt8.toNat).map oneSign)) (by rfl) (by decide) (by rfl) (by decide) (by rfl) (by rw [sizeLine_eq]; omega) (by rfl) (by assumption) ?_
        k_steps
        with_reducible refine Stop.go ?_
        refine my_slice (s := ⟨_, _, _, _, _⟩) (wordB b) (by assumption) (by assumption) (by constructor) (by constructor) hb ?_ fun h3 t3 k3 F3 N3 => ?_
        · unfold sliceZ
          show (b.drop 0).take (clipAt b.length ((k : Nat) : Int) - 0) = _
          rw [clipAt_nat, Nat.min_eq_left hk, Nat.sub_zero, List.drop_zero]
          exact hw
        k_steps
        refine SrcPost.intro (by assumption) (by assumption) src_bytes ⟨rfl, .nil⟩ (fun i ys nw hI => by rw [hI.1]) (fun g => ?_) (fun D ys nw h tk hI F₁ N₁ oD => ?_)
        · rintro i v I oI C oC D m₂ ys nw h tk hi ⟨c, u, hc, rfl⟩ ⟨rfl, hys⟩ hC hx₂ F₁ N₁ off ne
          have hc256 := c.toNat_lt
          k_steps
          refine EltPost.intro (by assumption) (by assumption) (fun _ h => h) ⟨rfl, ?_⟩
          have hc2 : (wordB b)[i]? = some c := by simpa using hc
          rw [List.take_add_one, hc2, List.map_append, List.map_append]
          exact StrsAre.snoc hys
        · obtain ⟨rfl, hys⟩ := hI
          rw [List.size_toArray, List.take_length] at hys
          k_steps
          refine call_sjoin (N₁ _ (List.Mem.head _)).1 hys ?_ (by rw [List.length_map, List.length_map]; omega) fun t' k => ?_
          · intro y hy
            obtain ⟨c, _, rfl⟩ := List.mem_map.mp hy
            exact (by decide : (1 : Nat) ≤ 8)
          rw [cat_ones]
          k_steps
          refine Spec.use (lower_text_spec (x := codeS (wordB b)) (by simp [codeS]; omega) (fun c hc => ?_)) B' (by assumption) X' (by assumption) T' rfl (by omega) (by omega) ?_
          · obtain ⟨y, _, rfl⟩ := List.mem_map.mp (show c ∈ (wordB b).map UInt8.toNat by simpa [codeS] using hc)
            have := y.toNat_lt
            omega
          rintro v nw' h2 tk2 ⟨⟨t1, rfl⟩, e9⟩ F2 N2
          rw [e9] at N2
          k_steps
          · exact Ret.drop (by assumption) (by assumption) ⟨⟨_, _, rfl, hres _ (by unfold wordS; rw [if_pos ‹_ = true›])⟩, rfl⟩ (fun p hp => nomatch hp)
          · exact Ret.drop (by assumption) (by assumption) ⟨⟨_, _, rfl, hres _ (by unfold wordS; rw [if_neg (by rw [‹(lowerS (codeS (wordB b)) == Str.ofString "") = false›]; exact Bool.false_ne_true)])⟩, rfl⟩ (fun p hp => nomatch hp)
    · have hw := word_at hk hbf (.inl (by omega))
      k_steps
      with_reducible refine Stop.go ?_
      refine comp_go (fun i v => ∃ c u, (wordB b).toArray[i]? = some c ∧ v = .int (c.toNat : Int) u) (wordB b).toArray.size (fun i ys nw => nw = [] ∧ StrsAre ys ((((wordB b).take i).map UInt8.toNat).map oneSign)) (by rfl) (by decide) (by rfl) (by decide) (by rfl) (by rw [sizeLine_eq]; omega) (by rfl) (by assumption) ?_
      k_steps
      with_reducible refine Stop.go ?_
      refine my_slice (s := ⟨_, _, _, _, _⟩) (wordB b) (by assumption) (by assumption) (by constructor) (by constructor) hb ?_ fun h3 t3 k3 F3 N3 => ?_
      · unfold sliceZ
        show (b.drop 0).take (clipAt b.length ((k : Nat) : Int) - 0) = _
        rw [clipAt_nat, Nat.min_eq_left hk, Nat.sub_zero, List.drop_zero]
        exact hw
      k_steps
      refine SrcPost.intro (by assumption) (by assumption) src_bytes ⟨rfl, .nil⟩ (fun i ys nw hI => by rw [hI.1]) (fun g => ?_) (fun D ys nw h tk hI F₁ N₁ oD => ?_)
      · rintro i v I oI C oC D m₂ ys nw h tk hi ⟨c, u, hc, rfl⟩ ⟨rfl, hys⟩ hC hx₂ F₁ N₁ off ne
        have hc256 := c.toNat_lt
        k_steps
        refine EltPost.intro (by assumption) (by assumption) (fun _ h => h) ⟨rfl, ?_⟩
        have hc2 : (wordB b)[i]? = some c := by simpa using hc
        rw [List.take_add_one, hc2, List.map_append, List.map_append]
        exact StrsAre.snoc hys
      · obtain ⟨rfl, hys⟩ := hI
        rw [List.size_toArray, List.take_length] at hys
        k_steps
        refine call_sjoin (N₁ _ (List.Mem.head _)).1 hys ?_ (by rw [List.length_map, List.length_map]; omega) fun t' k => ?_
        · intro y hy
          obtain ⟨c, _, rfl⟩ := List.mem_map.mp hy
          exact (by decide : (1 : Nat) ≤ 8)
        rw [cat_ones]
        k_steps
        refine Spec.use (lower_text_spec (x := codeS (wordB b)) (by simp [codeS]; omega) (fun c hc => ?_)) B' (by assumption) X' (by assumption) T' rfl (by omega) (by omega) ?_
        · obtain ⟨y, _, rfl⟩ := List.mem_map.mp (show c ∈ (wordB b).map UInt8.toNat by simpa [codeS] using hc)
          have := y.toNat_lt
          omega
        rintro v nw' h2 tk2 ⟨⟨t1, rfl⟩, e9⟩ F2 N2
        rw [e9] at N2
        k_steps
        · exact Ret.drop (by assumption) (by assumption) ⟨⟨_, _, rfl, hres _ (by unfold wordS; rw [if_pos ‹_ = true›])⟩, rfl⟩ (fun p hp => nomatch hp)
        · exact Ret.drop (by assumption) (by assumption) ⟨⟨_, _, rfl, hres _ (by unfold wordS; rw [if_neg (by rw [‹(lowerS (codeS (wordB b)) == Str.ofString "") = false›]; exact Bool.false_ne_true)])⟩, rfl⟩ (fun p hp => nomatch hp)
  · k_steps
    show Ret _ _ _ _ (Flow.ret _) _
    exact Ret.drop (by assumption) (by assumption) ⟨⟨_, _, rfl, .inr ⟨hf, rfl⟩⟩, rfl⟩ (fun p hp => nomatch hp)
end Mine
end
section
open PySem PySem.W PySem.Calls PyProof.Rows
set_option maxRecDepth 100000
namespace Mine
/-- the lines of octets from a place to an end, counted -/
inductive LinesN (b : List UInt8) (e : Nat) : Nat → Nat → Prop
  | done {i : Nat} : e ≤ i → LinesN b e i 0
  | last {i : Nat} : i < e → findZ b.toArray #[10] (some (i : Int)) (some (e : Int)) = -1 → LinesN b e i 1
  | more {i f n : Nat} : i < e → findZ b.toArray #[10] (some (i : Int)) (some (e : Int)) = (f : Int) → i ≤ f → f < e → LinesN b e (f + 1) n → LinesN b e i (n + 1)
structure LS where
  vs : List Value
  n : Nat
  k : Nat
  tk : Tok
  left : Nat
set_option maxHeartbeats 8000000 in
theorem line_spans_spec {w : World} {b : List UInt8} {i e N : Nat} {tb t u : Tok} (hb : b.length ≤ 1000) (hi : i ≤ e) (he : e ≤ b.length) (hN : LinesN b e i N) : SpecR w 1 98 [.bytes b.toArray tb, .int (i : Int) t, .int (e : Int) u] (fun _ => True) (fun v tl => ∃ (l : Addr) (vs : List Value) (n : Nat), v = .ref l ∧ tl = [(l, listOf vs.toArray n)] ∧ vs.length = N) := by
  refine' spec_ro (binds := [(Str.ofString "data", .bytes b.toArray tb), (Str.ofString "at", .int (i : Int) t), (Str.ofString "end", .int (e : Int) u)]) ?ho ?hcd ?hb ?hl ?h1 ?h2 ?h3 ?h4 ?h
  case ho => k_is
  case hcd => k_is
  case hb => exact fun s Xs => binds_K Xs rfl (by k_is) rfl rfl rfl
  case hl => rfl
  case h1 => rfl
  case h2 => rfl
  case h3 => rfl
  case h4 => decide
  intro dp un gd outer A₀ base g' L' h' tk' s' p loose mean mg mb B' F' X' N' T' hd hu hpre
  have hsz : b.toArray.size = b.length := by simp
  have he0 : ¬ ((e : Int) < 0) := by omega
  k_steps
  have ebe : (if (b.toArray.size : Int) < (e : Int) then (b.toArray.size : Int) else (e : Int)) = (e : Int) := by rw [if_neg (by omega)]
  rename Fr _ _ _ _ => nF
  rw [ebe] at nF
  refine Stop.go (while1 (σ := LS) LS.vs LS.n (fun c => [(Str.ofString "begin", .int (c.k : Int) c.tk)]) (fun c => c.vs.length + c.left = N ∧ c.vs.length ≤ c.k) [Str.ofString "feed", Str.ofString "last", Str.ofString "begin"]
    (fun c => LinesN b e c.k c.left ∧ c.k ≤ e) (fun c => e - c.k) ⟨[], 0, i, _, N⟩ (by assumption) (by assumption) ⟨by simp, by simp⟩ (by intro p hp; rw [List.mem_singleton.mp hp]; rfl) ⟨hN, hi⟩ ?_)
  rintro ⟨vs, n, k, tk1, left⟩ u2 h tk hfx ⟨hL, hke⟩ F₁ N₁
  dsimp only [kstB] at F₁ N₁ hfx hL hke
  obtain ⟨hfx, hv0⟩ := hfx
  have hv : vs.toArray.size ≤ sizeLine := by rw [List.size_toArray, sizeLine_eq]; omega
  have kMark := kstMark
  cases hL with
  | done hle =>
    k_steps
    exact Ret.intro (by assumption) (by assumption) ⟨_, _, _, rfl, rfl, by omega⟩
  | last hlt hf =>
    k_steps
    rename News _ _ _ _ => nE
    try simp only [List.push_toArray] at nE
    refine Ret.drop (by assumption) nE ⟨_, _, _, rfl, rfl, ?_⟩ (by intro p hp; first | exact hp | exact List.Mem.tail _ hp)
    rw [List.length_append]; exact hfx
  | more hlt hf h1 h2 h3 =>
    rename_i f nn
    have hf0 : 0 ≤ findZ b.toArray #[10] (some (k : Int)) (some (e : Int)) := by omega
    have hf1 : findZ b.toArray #[10] (some (k : Int)) (some (e : Int)) < (b.length : Int) := by omega
    k_steps
    all_goals (
      rename News _ _ _ _ => nE
      rename Fr _ _ _ _ => nF
      try simp only [List.push_toArray] at nE
      try simp only [hf] at nF
      refine ksw_end ⟨vs ++ [_], _, f + 1, _, nn⟩ nF nE (by intro p hp; first | exact hp | exact List.Mem.tail _ hp) ⟨?_, ?_⟩ (by intro p hp; rw [List.mem_singleton.mp hp]; rfl) (by ksw_same) ⟨h3, ?_⟩ ?_
      · show (vs ++ [_]).length + nn = N
        rw [List.length_append]
        show vs.length + 1 + nn = N
        omega
      · show (vs ++ [_]).length ≤ f + 1
        rw [List.length_append]
        show vs.length + 1 ≤ f + 1
        omega
      · show f + 1 ≤ e
        omega
      · show e - (f + 1) < e - k
        omega)
end Mine
end
section
open PySem PySem.W PySem.Calls PyProof.Rows
set_option maxRecDepth 100000
namespace Mine
open Builtin
/-- octets cut at each 10 -/
noncomputable def sp : List UInt8 → List (List UInt8)
  | [] => [[]]
  | c :: r => if c = 10 then [] :: sp r else match sp r with
    | h :: t => (c :: h) :: t
    | [] => [[c]]
theorem sp_ne : ∀ r : List UInt8, sp r ≠ []
  | [] => by simp [sp]
  | c :: r => by
    unfold sp
    split
    · simp
    · split <;> simp
noncomputable def glue (x : List UInt8) : List (List UInt8) → List (List UInt8)
  | [] => [x]
  | h :: t => (x ++ h) :: t
theorem glue_nil {l : List (List UInt8)} (h : l ≠ []) : glue [] l = l := by
  cases l with
  | nil => exact absurd rfl h
  | cons a t => rfl
theorem sp_other {c : UInt8} {r : List UInt8} (h : c ≠ 10) (x : List UInt8) : glue x (sp (c :: r)) = glue (x ++ [c]) (sp r) := by
  have hn := sp_ne r
  rw [sp, if_neg h]
  cases hs : sp r with
  | nil => exact absurd hs hn
  | cons a t => simp [glue]
noncomputable def posL (k : Nat) : List UInt8 → List Nat
  | [] => []
  | c :: r => if c = 10 then k :: posL (k + 1) r else posL (k + 1) r
theorem posL_hit {c : UInt8} {r : List UInt8} {k : Nat} (h : c = 10) : posL k (c :: r) = k :: posL (k + 1) r := by rw [posL, if_pos h]
theorem posL_miss {c : UInt8} {r : List UInt8} {k : Nat} (h : c ≠ 10) : posL k (c :: r) = posL (k + 1) r := by rw [posL, if_neg h]
theorem sp_hit {c : UInt8} {r : List UInt8} (h : c = 10) : sp (c :: r) = [] :: sp r := by rw [sp, if_pos h]
theorem posL_len : ∀ (r : List UInt8) (k : Nat), (posL k r).length ≤ r.length
  | [], _ => Nat.le_refl _
  | c :: r, k => by
    have := posL_len r (k + 1)
    unfold posL
    split <;> simp only [List.length_cons] <;> omega
noncomputable def stepO (b : List UInt8) (acc : List Nat × Nat) (i : Nat) : List Nat × Nat :=
  if i ≥ acc.2 && b.toArray.extract i (i + (#[10] : Array UInt8).size) == #[10] then (i :: acc.1, i + (#[10] : Array UInt8).size) else acc
theorem occ_go (b : List UInt8) : ∀ (r : List UInt8) (k : Nat) (acc : List Nat) (last : Nat), b.drop k = r → last ≤ k → ((List.range' k r.length).foldl (stepO b) (acc, last)).1.reverse = acc.reverse ++ posL k r
  | [], k, acc, last, _, _ => by simp [posL]
  | c :: r, k, acc, last, hd, hl => by
    have hk : b[k]? = some c := by
      have : (b.drop k)[0]? = some c := by rw [hd]; rfl
      simpa using this
    have hd2 : b.drop (k + 1) = r := by rw [← List.drop_drop, hd]; rfl
    rw [List.length_cons, List.range'_succ, List.foldl_cons]
    have he : (b.toArray.extract k (k + (#[10] : Array UInt8).size) == #[10]) = (c == 10) := by
      show (b.toArray.extract k (k + 1) == #[10]) = _
      rw [ext_one, hk]
      rw [Bool.eq_iff_iff]; simp
    by_cases hc : c = 10
    · have e : stepO b (acc, last) k = (k :: acc, k + 1) := by
        unfold stepO
        rw [he]
        subst hc
        simp only [ge_iff_le, hl, decide_true, beq_self_eq_true, Bool.and_self, if_true]
        rfl
      rw [e, occ_go b r (k + 1) (k :: acc) (k + 1) hd2 (Nat.le_refl _)]
      rw [posL_hit hc]
      simp
    · have e : stepO b (acc, last) k = (acc, last) := by
        unfold stepO
        rw [he]
        simp [hc]
      rw [e, occ_go b r (k + 1) acc last hd2 (by omega), posL_miss hc]
theorem occ_is (b : List UInt8) : Bytes.occurrences b.toArray #[10] 0 b.length = posL 0 b := by
  have key := occ_go b b 0 [] 0 rfl (Nat.le_refl _)
  rw [List.reverse_nil, List.nil_append] at key
  rw [← key]
  unfold Bytes.occurrences
  have e : b.length + 1 - (0 + (#[10] : Array UInt8).size) = b.length := by show b.length + 1 - (0 + 1) = _; omega
  rw [e, List.range_eq_range']
  have e2 : (List.range' 0 b.length).map (· + 0) = List.range' 0 b.length := by simp
  rw [e2]
  rfl
noncomputable def stepB (b : List UInt8) (x : Array (Array UInt8) × Nat) (p : Nat) : Array (Array UInt8) × Nat := (x.1.push (b.toArray.extract x.2 p), p + 1)
theorem ext_list (b : List UInt8) (i j : Nat) : (b.toArray.extract i j) = ((b.take j).drop i).toArray := by
  apply Array.toList_inj.mp
  simp [List.drop_take]
theorem bet_go (b : List UInt8) : ∀ (r : List UInt8) (k last : Nat) (parts : Array (Array UInt8)), b.drop k = r → last ≤ k → k ≤ b.length →
    (((posL k r).foldl (stepB b) (parts, last)).1.push (b.toArray.extract ((posL k r).foldl (stepB b) (parts, last)).2 b.length)).toList = parts.toList ++ (glue ((b.take k).drop last) (sp r)).map List.toArray
  | [], k, last, parts, hd, hl, hk => by
    have hk2 : k = b.length := by
      have := congrArg List.length hd
      rw [List.length_drop, List.length_nil] at this
      omega
    subst hk2
    simp only [posL, List.foldl_nil, Array.toList_push, sp, glue, List.append_nil, List.map_cons, List.map_nil]
    rw [ext_list]
  | c :: r, k, last, parts, hd, hl, hk => by
    have hlt : k < b.length := by
      have := congrArg List.length hd
      rw [List.length_drop, List.length_cons] at this
      omega
    have hd2 : b.drop (k + 1) = r := by rw [← List.drop_drop, hd]; rfl
    have hck : b[k]? = some c := by
      have : (b.drop k)[0]? = some c := by rw [hd]; rfl
      simpa using this
    by_cases hc : c = 10
    · have e : posL k (c :: r) = k :: posL (k + 1) r := posL_hit hc
      rw [e, List.foldl_cons]
      have e2 : stepB b (parts, last) k = (parts.push (b.toArray.extract last k), k + 1) := rfl
      rw [e2, bet_go b r (k + 1) (k + 1) _ hd2 (Nat.le_refl _) hlt]
      have e3 : (b.take (k + 1)).drop (k + 1) = [] := List.drop_eq_nil_of_le (by rw [List.length_take]; exact Nat.min_le_left _ _)
      rw [e3, glue_nil (sp_ne r)]
      have e4 : sp (c :: r) = [] :: sp r := sp_hit hc
      rw [e4]
      simp only [glue, List.append_nil, List.map_cons, Array.toList_push, List.append_assoc, List.singleton_append]
      rw [ext_list]
    · have e : posL k (c :: r) = posL (k + 1) r := posL_miss hc
      rw [e, bet_go b r (k + 1) last parts hd2 (by omega) hlt, sp_other hc]
      have e5 : (b.take (k + 1)).drop last = (b.take k).drop last ++ [c] := by
        rw [List.take_add_one, hck, List.drop_append_of_le_length (by rw [List.length_take]; omega)]
        rfl
      rw [e5]
theorem split_is (b : List UInt8) : splitZ b.toArray #[10] = (sp b).map List.toArray := by
  unfold splitZ
  have hs : b.toArray.size = b.length := by simp
  rw [hs, occ_is, List.take_of_length_le (Nat.le_trans (posL_len b 0) (Nat.le_succ _))]
  have key := bet_go b b 0 0 #[] rfl (Nat.le_refl _) (Nat.zero_le _)
  have e : (b.take 0).drop 0 = [] := by simp
  rw [e, glue_nil (sp_ne b)] at key
  unfold Bytes.between
  rw [hs]
  exact key
theorem sp_free : ∀ {p : List UInt8}, (10 : UInt8) ∉ p → sp p = [p]
  | [], _ => rfl
  | c :: r, h => by
    have hc : c ≠ 10 := fun e => h (e ▸ List.Mem.head _)
    have hr := sp_free (p := r) (fun hm => h (List.Mem.tail _ hm))
    rw [sp, if_neg hc, hr]
theorem sp_cut : ∀ {p q : List UInt8}, (10 : UInt8) ∉ p → sp (p ++ 10 :: q) = p :: sp q
  | [], q, _ => by
    exact sp_hit rfl
  | c :: r, q, h => by
    have hc : c ≠ 10 := fun e => h (e ▸ List.Mem.head _)
    have hr := sp_cut (p := r) (q := q) (fun hm => h (List.Mem.tail _ hm))
    rw [List.cons_append, sp, if_neg hc, hr]
/-- the lines of octets -/
noncomputable def cnt (b : List UInt8) : Nat := (sp b).length - (if (sp b).getLastD [] = [] then 1 else 0)
theorem cnt_cut {p q : List UInt8} (h : (10 : UInt8) ∉ p) : cnt (p ++ 10 :: q) = cnt q + 1 := by
  unfold cnt
  rw [sp_cut h]
  have hn := sp_ne q
  cases hs : sp q with
  | nil => exact absurd hs hn
  | cons a t =>
    have e : (p :: a :: t).getLastD [] = (a :: t).getLastD [] := by simp [List.getLastD]
    rw [e, List.length_cons, List.length_cons]
    split <;> omega
theorem lines_go (d : List UInt8) (e : Nat) (he : e ≤ d.length) : ∀ (n : Nat) (r : List UInt8) (i : Nat), r.length = n → i + r.length = e → (∀ j, j < r.length → d[i + j]? = r[j]?) → LinesN d e i (cnt r) := by
  intro n
  induction n using Nat.strongRecOn with
  | _ n ih =>
    intro r i hn hi hat
    by_cases h10 : (10 : UInt8) ∈ r
    · obtain ⟨p, q, rfl, hp⟩ := List.eq_append_cons_of_mem h10
      rw [cnt_cut hp]
      rw [List.length_append, List.length_cons] at hn hi
      have hlen : (p ++ 10 :: q).length = p.length + (q.length + 1) := by rw [List.length_append, List.length_cons]
      refine .more (f := i + p.length) (by omega) (findZ_at he (by omega) (by omega) ?_ ?_) (by omega) (by omega) ?_
      · rw [hat p.length (by omega)]; simp
      · intro j h1 h2
        have e1 : j = i + (j - i) := by omega
        rw [e1, hat (j - i) (by omega), List.getElem?_append_left (by omega)]
        intro e2
        exact hp (List.mem_of_getElem? e2)
      · refine ih q.length (by omega) q _ rfl (by omega) fun j hj => ?_
        have e1 : i + p.length + 1 + j = i + (p.length + 1 + j) := by omega
        rw [e1, hat _ (by omega), List.getElem?_append_right (by omega)]
        have e2 : p.length + 1 + j - p.length = j + 1 := by omega
        rw [e2, List.getElem?_cons_succ]
    · cases r with
      | nil =>
        have : cnt [] = 0 := rfl
        rw [this]
        exact .done (by simp at hi; omega)
      | cons c r =>
        have : cnt (c :: r) = 1 := by unfold cnt; rw [sp_free h10]; rfl
        rw [this]
        rw [List.length_cons] at hi hn
        refine .last (by omega) (findZ_no he fun j h1 h2 => ?_)
        have e1 : j = i + (j - i) := by omega
        rw [e1, hat (j - i) (by simp; omega)]
        intro e2
        exact h10 (List.mem_of_getElem? e2)
end Mine
end
section
open PySem PySem.W PySem.Calls PyProof.Rows
set_option maxRecDepth 100000
namespace Mine
theorem and_255 (m : Nat) : Builtin.bitAnd (m : Int) 255 = ((m % 256 : Nat) : Int) := by
  have h : (m &&& 255) = m % 256 := Nat.and_two_pow_sub_one_eq_mod m 8
  rw [← h]
  unfold Builtin.bitAnd
  rfl
theorem shift_nat (n a b : Nat) : (((n : Int).fdiv (2 ^ a)).fdiv (2 ^ b)) = ((n / 2 ^ a / 2 ^ b : Nat) : Int) := by
  have e : ∀ k : Nat, ((2 : Int) ^ k) = ((2 ^ k : Nat) : Int) := fun k => by rw [Int.natCast_pow]; rfl
  have e2 : ∀ x y : Nat, ((x : Int).fdiv (y : Int)) = ((x / y : Nat) : Int) := fun x y => by rw [Int.fdiv_eq_ediv_of_nonneg _ (Int.natCast_nonneg _), ← Int.natCast_ediv]
  rw [e, e, e2, e2]
theorem oct_of (n a b : Nat) (T : Int) (o : UInt8) (hT : T = (n : Int)) (h : n / 2 ^ a / 2 ^ b % 256 = o.toNat) : Builtin.bitAnd ((T.fdiv (2 ^ a)).fdiv (2 ^ b)) 255 = (o.toNat : Int) := by
  rw [hT, shift_nat, and_255, h]
noncomputable def sx : List UInt8 → List Nat
  | [] => []
  | [x] => [sxt (x.toNat * 65536) 0, sxt (x.toNat * 65536) 1]
  | [x, y] => [sxt (x.toNat * 65536 + y.toNat * 256) 0, sxt (x.toNat * 65536 + y.toNat * 256) 1, sxt (x.toNat * 65536 + y.toNat * 256) 2]
  | x :: y :: z :: r => sxt (x.toNat * 65536 + y.toNat * 256 + z.toNat) 0 :: sxt (x.toNat * 65536 + y.toNat * 256 + z.toNat) 1 :: sxt (x.toNat * 65536 + y.toNat * 256 + z.toNat) 2 :: sxt (x.toNat * 65536 + y.toNat * 256 + z.toNat) 3 :: sx r
noncomputable def padN : List UInt8 → Nat
  | [] => 0
  | [_] => 2
  | [_, _] => 1
  | _ :: _ :: _ :: r => padN r
theorem e64_sx : ∀ os : List UInt8, e64 os = (sx os).map (fun x => b64L.getD x 0) ++ List.replicate (padN os) 61
  | [] => rfl
  | [x] => rfl
  | [x, y] => rfl
  | x :: y :: z :: r => by
    have ih := e64_sx r
    show _ :: _ :: _ :: _ :: e64 r = _ :: _ :: _ :: _ :: ((sx r).map (fun x => b64L.getD x 0) ++ List.replicate (padN r) 61)
    rw [ih]
    rfl
theorem sxt_lt (w j : Nat) : sxt w j < 64 := Nat.mod_lt _ (by decide)
theorem sx_lt : ∀ (os : List UInt8), ∀ x ∈ sx os, x < 64
  | [], x, h => by cases h
  | [a], x, h => by
    simp only [sx, List.mem_cons, List.not_mem_nil, or_false] at h
    rcases h with rfl | rfl <;> exact sxt_lt _ _
  | [a, b], x, h => by
    simp only [sx, List.mem_cons, List.not_mem_nil, or_false] at h
    rcases h with rfl | rfl | rfl <;> exact sxt_lt _ _
  | a :: b :: c :: r, x, h => by
    simp only [sx, List.mem_cons] at h
    rcases h with rfl | rfl | rfl | rfl | h
    · exact sxt_lt _ _
    · exact sxt_lt _ _
    · exact sxt_lt _ _
    · exact sxt_lt _ _
    · exact sx_lt r x h
theorem tot2 (a b : Nat) : totZ [(a : Int), (b : Int)] = ((64 * a + b : Nat) : Int) := by
  show 64 * (64 * 0 + (a : Int)) + (b : Int) = _
  omega
theorem tot3 (a b c : Nat) : totZ [(a : Int), (b : Int), (c : Int)] = ((64 * (64 * a + b) + c : Nat) : Int) := by
  show 64 * (64 * (64 * 0 + (a : Int)) + (b : Int)) + (c : Int) = _
  omega
theorem tot4 (a b c d : Nat) : totZ [(a : Int), (b : Int), (c : Int), (d : Int)] = ((64 * (64 * (64 * a + b) + c) + d : Nat) : Int) := by
  show 64 * (64 * (64 * (64 * 0 + (a : Int)) + (b : Int)) + (c : Int)) + (d : Int) = _
  omega
theorem sxt_is (w : Nat) : sxt w 0 = w / 262144 % 64 ∧ sxt w 1 = w / 4096 % 64 ∧ sxt w 2 = w / 64 % 64 ∧ sxt w 3 = w % 64 := by
  refine ⟨rfl, rfl, rfl, ?_⟩
  show w / 1 % 64 = w % 64
  rw [Nat.div_one]
theorem grp1 (x : UInt8) : Grp (sx [x]) [x] := by
  have hx := x.toNat_lt
  obtain ⟨h0, h1, _, _⟩ := sxt_is (x.toNat * 65536)
  refine .inl ⟨_, _, _, rfl, rfl, oct_of _ _ _ _ _ (tot2 _ _) ?_⟩
  rw [h0, h1]
  show (64 * (x.toNat * 65536 / 262144 % 64) + x.toNat * 65536 / 4096 % 64) / 16 / 1 % 256 = x.toNat
  omega
theorem grp2 (x y : UInt8) : Grp (sx [x, y]) [x, y] := by
  have hx := x.toNat_lt
  have hy := y.toNat_lt
  obtain ⟨h0, h1, h2, _⟩ := sxt_is (x.toNat * 65536 + y.toNat * 256)
  refine .inr (.inl ⟨_, _, _, _, _, rfl, rfl, oct_of _ _ _ _ _ (tot3 _ _ _) ?_, oct_of _ _ _ _ _ (tot3 _ _ _) ?_⟩)
  · rw [h0, h1, h2]
    generalize x.toNat = a at *
    generalize y.toNat = b at *
    show (64 * (64 * ((a * 65536 + b * 256) / 262144 % 64) + (a * 65536 + b * 256) / 4096 % 64) + (a * 65536 + b * 256) / 64 % 64) / 4 / 256 % 256 = a
    omega
  · rw [h0, h1, h2]
    generalize x.toNat = a at *
    generalize y.toNat = b at *
    show (64 * (64 * ((a * 65536 + b * 256) / 262144 % 64) + (a * 65536 + b * 256) / 4096 % 64) + (a * 65536 + b * 256) / 64 % 64) / 4 / 1 % 256 = b
    omega
theorem join4 (w : Nat) (h : w < 16777216) : 64 * (64 * (64 * (w / 262144 % 64) + w / 4096 % 64) + w / 64 % 64) + w % 64 = w := by omega
theorem grp3 (x y z : UInt8) : Grp [sxt (x.toNat * 65536 + y.toNat * 256 + z.toNat) 0, sxt (x.toNat * 65536 + y.toNat * 256 + z.toNat) 1, sxt (x.toNat * 65536 + y.toNat * 256 + z.toNat) 2, sxt (x.toNat * 65536 + y.toNat * 256 + z.toNat) 3] [x, y, z] := by
  have hx := x.toNat_lt
  have hy := y.toNat_lt
  have hz := z.toNat_lt
  have e : totZ [((sxt (x.toNat * 65536 + y.toNat * 256 + z.toNat) 0 : Nat) : Int), ((sxt (x.toNat * 65536 + y.toNat * 256 + z.toNat) 1 : Nat) : Int), ((sxt (x.toNat * 65536 + y.toNat * 256 + z.toNat) 2 : Nat) : Int), ((sxt (x.toNat * 65536 + y.toNat * 256 + z.toNat) 3 : Nat) : Int)] = ((x.toNat * 65536 + y.toNat * 256 + z.toNat : Nat) : Int) := by
    rw [tot4]
    obtain ⟨h0, h1, h2, h3⟩ := sxt_is (x.toNat * 65536 + y.toNat * 256 + z.toNat)
    rw [h0, h1, h2, h3, join4 _ (by omega)]
  refine .inr (.inr ⟨_, _, _, _, _, _, _, rfl, rfl, oct_of _ _ _ _ _ e ?_, oct_of _ _ _ _ _ e ?_, oct_of _ _ _ _ _ e ?_⟩)
  · generalize x.toNat = a at *; generalize y.toNat = b at *; generalize z.toNat = c at *
    show (a * 65536 + b * 256 + c) / 1 / 65536 % 256 = a
    omega
  · generalize x.toNat = a at *; generalize y.toNat = b at *; generalize z.toNat = c at *
    show (a * 65536 + b * 256 + c) / 1 / 256 % 256 = b
    omega
  · generalize x.toNat = a at *; generalize y.toNat = b at *; generalize z.toNat = c at *
    show (a * 65536 + b * 256 + c) / 1 / 1 % 256 = c
    omega
theorem dec_sx : ∀ os : List UInt8, Dec (sx os) os
  | [] => .nil
  | [x] => .last (grp1 x)
  | [x, y] => .last (grp2 x y)
  | x :: y :: z :: r => Dec.step (ss := [_, _, _, _]) (os := [x, y, z]) rfl (grp3 x y z) (dec_sx r)
/-- quoted -/
theorem quo_at : ∀ (os : List UInt8) (k : Nat), (os.flatMap quo).drop (3 * k) = (os.drop k).flatMap quo
  | [], k => by simp
  | c :: r, 0 => by simp
  | c :: r, k + 1 => by
    have ih := quo_at r k
    rw [List.drop_succ_cons, ← ih, List.flatMap_cons]
    have e : 3 * (k + 1) = (quo c).length + 3 * k := by show _ = 3 + 3 * k; omega
    rw [e, ← List.drop_drop, List.drop_left]
theorem hex_fig : ∀ n : Fin 16, hexZ ((figL.getD n.val 0).toNat : Int) = (n.val : Int) := by decide
theorem fig_ok : ∀ n : Fin 16, figL.getD n.val 0 ≠ 10 ∧ figL.getD n.val 0 ≠ 32 ∧ figL.getD n.val 0 ≠ 9 ∧ figL.getD n.val 0 ≠ 61 := by decide
theorem quo_mem {os : List UInt8} : ∀ c ∈ os.flatMap quo, c ≠ 10 ∧ c ≠ 32 ∧ c ≠ 9 := by
  intro c hc
  obtain ⟨x, _, hx⟩ := List.mem_flatMap.mp hc
  have h1 := x.toNat_lt
  have f1 := fig_ok ⟨x.toNat / 16, by omega⟩
  have f2 := fig_ok ⟨x.toNat % 16, by omega⟩
  simp only [quo, List.mem_cons, List.not_mem_nil, or_false] at hx
  rcases hx with rfl | rfl | rfl
  · decide
  · exact ⟨f1.1, f1.2.1, f1.2.2.1⟩
  · exact ⟨f2.1, f2.2.1, f2.2.2.1⟩
theorem quoted_ok {os : List UInt8} {k : Nat} (h : k < os.length) : (os.flatMap quo).getD (3 * k) 0 = 61 ∧ quotedZ (os.flatMap quo) (3 * k) = ((os.getD k 0).toNat : Int) := by
  have hd := quo_at os k
  rw [List.drop_eq_getElem_cons h, List.flatMap_cons] at hd
  have hc : os.getD k 0 = os[k] := by rw [List.getD_eq_getElem?_getD, List.getElem?_eq_getElem h]; rfl
  rw [hc]
  generalize os[k] = c at hd
  have hat : ∀ j, j < 3 → (os.flatMap quo).getD (3 * k + j) 0 = (quo c).getD j 0 := by
    intro j hj
    have : ((os.flatMap quo).drop (3 * k))[j]? = (quo c)[j]? := by
      rw [hd, List.getElem?_append_left (by show j < 3; exact hj)]
    rw [List.getElem?_drop] at this
    rw [List.getD_eq_getElem?_getD, this, ← List.getD_eq_getElem?_getD]
  have h0 := hat 0 (by decide)
  have h1 := hat 1 (by decide)
  have h2 := hat 2 (by decide)
  refine ⟨h0, ?_⟩
  have hl : ¬ (os.flatMap quo).length ≤ 3 * k + 2 := by rw [quo_len]; omega
  have hlt := c.toNat_lt
  have f1 := hex_fig ⟨c.toNat / 16, by omega⟩
  have f2 := hex_fig ⟨c.toNat % 16, by omega⟩
  have g1 : hexZ (((os.flatMap quo).getD (3 * k + 1) 0).toNat : Int) = ((c.toNat / 16 : Nat) : Int) := by rw [h1]; exact f1
  have g2 : hexZ (((os.flatMap quo).getD (3 * k + 2) 0).toNat : Int) = ((c.toNat % 16 : Nat) : Int) := by rw [h2]; exact f2
  unfold quotedZ
  rw [if_neg hl, g1, g2, if_pos ⟨by omega, by omega⟩]
  omega
theorem strip_none {b : List UInt8} (h : ∀ c ∈ b, c ≠ 32 ∧ c ≠ 9) : stripZ false b.toArray #[32, 9] = b := by
  unfold stripZ
  have e : (b.toArray.toList.reverse.dropWhile (#[32, 9] : Array UInt8).contains) = b.reverse := by
    show b.reverse.dropWhile _ = _
    cases hr : b.reverse with
    | nil => rfl
    | cons c r =>
      have hc := h c (List.mem_reverse.mp (by rw [hr]; exact List.Mem.head _))
      rw [List.dropWhile_cons]
      have : (#[32, 9] : Array UInt8).contains c = false := by
        simp [hc.1, hc.2]
      rw [this]
      rfl
  simp only [Bool.false_eq_true, if_false]
  rw [e, List.reverse_reverse]
theorem quo_last {os : List UInt8} : sliceZ (os.flatMap quo) (some (-1)) none ≠ [61] := by
  intro he
  have hmem : ∃ k, k < os.length ∧ (os.flatMap quo).drop (3 * k + 2) = [61] := by
    unfold sliceZ at he
    rcases Nat.eq_zero_or_pos os.length with h0 | h0
    · have : os = [] := List.length_eq_zero_iff.mp h0
      subst this
      simp at he
    · refine ⟨os.length - 1, by omega, ?_⟩
      have hl := quo_len os
      have e1 : clipAt (os.flatMap quo).length (-1) = 3 * (os.length - 1) + 2 := by
        unfold clipAt
        rw [hl]
        split <;> omega
      have he2 : ((os.flatMap quo).drop (clipAt (os.flatMap quo).length (-1))).take ((os.flatMap quo).length - clipAt (os.flatMap quo).length (-1)) = [61] := he
      rw [e1] at he2
      rw [List.take_of_length_le (by rw [List.length_drop]; omega)] at he2
      exact he2
  obtain ⟨k, hk, h⟩ := hmem
  have hd := quo_at os k
  rw [List.drop_eq_getElem_cons hk, List.flatMap_cons] at hd
  rw [← List.drop_drop, hd] at h
  have hlt := (os[k]).toNat_lt
  have f := fig_ok ⟨os[k].toNat % 16, by omega⟩
  have h2 : (quo os[k] ++ (os.drop (k + 1)).flatMap quo).drop 2 = figL.getD (os[k].toNat % 16) 0 :: (os.drop (k + 1)).flatMap quo := rfl
  rw [h2] at h
  exact f.2.2.2 (List.cons.inj h).1
end Mine
end
end
section
open PySem PySem.W PySem.Calls PyProof.Rows
set_option maxRecDepth 100000
namespace Mine
local macro_rules
  | `(tactic| walk_at "exec For Name Tuple") => `(tactic| refine Mine.stop ?_)
local macro_rules
  | `(tactic| walk_at "ItemsRest") => `(tactic| refine Mine.stop ?_)
theorem z30 {n m : Nat} (h : n + m ≤ 30) : n ≤ sizeLine := by rw [sizeLine_eq]; omega
noncomputable def AllStr : List Itm → Prop
  | [] => True
  | .val (.str _ _) :: r => AllStr r
  | _ => False
noncomputable def keyOf : Itm → Str
  | .val (.str x _) => x
  | _ => Str.ofString ""
section
variable {prog : Program} {w : World} {A : Around} {E : Value → Shared → Prop} {s : Shared} {env : Env} {h₀ : Heap} {target : Expr} {body : List Stmt} {Q : Flow → Shared → Prop}
theorem items_go {ws : List (Addr × String)} {keep : Led} (IsD : Nat → Obj → List (Str × Value) → Prop) (ins : List (Str × Value) → Str → List (Str × Value)) (mS : Option Value → Str → Option Value) (nS : Obj → Led)
    (turn : ∀ (x : Str) (t : Tok) (r : List Itm) (av : Option Value) (o : Obj) (kvs : List (Str × Value)), IsD (r.length + 1) o kvs → (∀ (m' : Str → Option Value) (o' : Obj), m' = mS (some (.str x t)) → IsD r.length o' (ins kvs x) → ItemsRest prog w A E h₀ env target body Q s ws keep r m' (nS o')) →
      ItemsRest prog w A E h₀ env target body Q s ws keep (.val (.str x t) :: r) (mS av) (nS o)) :
    ∀ (l : List Itm), AllStr l → ∀ (av : Option Value) (m : Str → Option Value) (o : Obj) (kvs : List (Str × Value)), m = mS av → IsD l.length o kvs →
      (∀ (av' : Option Value) (o' : Obj), IsD 0 o' (l.foldl (fun k i => ins k (keyOf i)) kvs) → ItemsRest prog w A E h₀ env target body Q s ws keep [] (mS av') (nS o')) →
      ItemsRest prog w A E h₀ env target body Q s ws keep l m (nS o)
  | [], _, av, m, o, kvs, e, hd, fin => e ▸ fin av o hd
  | .val (.str x t) :: r, hl, av, m, o, kvs, e, hd, fin => by
    subst e
    exact turn x t r av o kvs hd fun m' o' e' hd' => items_go IsD ins mS nS turn r hl (some (.str x t)) m' o' _ e' hd' fin
end
noncomputable def namesK : List (Str × Value) := [(.ofString "us-ascii", .str (.ofString "us-ascii") 318), (.ofString "ascii", .str (.ofString "us-ascii") 318), (.ofString "ansi_x3.4-1968", .str (.ofString "us-ascii") 318), (.ofString "iso_646.irv:1991", .str (.ofString "us-ascii") 318), (.ofString "iso-ir-6", .str (.ofString "us-ascii") 318), (.ofString "iso646-us", .str (.ofString "us-ascii") 318), (.ofString "us", .str (.ofString "us-ascii") 318), (.ofString "cp367", .str (.ofString "us-ascii") 318), (.ofString "ibm367", .str (.ofString "us-ascii") 318), (.ofString "iso-8859-1", .str (.ofString "iso-8859-1") 320), (.ofString "iso_8859-1", .str (.ofString "iso-8859-1") 320), (.ofString "iso_8859-1:1987", .str (.ofString "iso-8859-1") 320), (.ofString "iso-ir-100", .str (.ofString "iso-8859-1") 320), (.ofString "latin1", .str (.ofString "iso-8859-1") 320), (.ofString "l1", .str (.ofString "iso-8859-1") 320), (.ofString "cp819", .str (.ofString "iso-8859-1") 320), (.ofString "ibm819", .str (.ofString "iso-8859-1") 320), (.ofString "utf-8", .str (.ofString "utf-8") 322), (.ofString "utf8", .str (.ofString "utf-8") 322)]
theorem dict_eq {K : Type} [DecidableEq K] {prog : Program} {w : World} {knd : KeyKind prog w K} {o : Obj} {a b : List (K × Value)} (h : o.IsDictOf knd a) (e : a = b) : o.IsDictOf knd b := e ▸ h
set_option maxHeartbeats 8000000 in
theorem charset_names_spec {w : World}  : SpecR w 1 106 [] (fun _ => True) (fun v tl => ∃ (d : Addr) (o : Obj), v = .ref d ∧ tl = [(d, o)] ∧ (d == sysModules) = false ∧ o.IsDictOf (strKind pw w) namesK) := by
  refine' spec_ro (binds := []) ?ho ?hcd ?hb ?hl ?h1 ?h2 ?h3 ?h4 ?h
  case ho => k_is
  case hcd => k_is
  case hb => exact binds_eq rfl
  case hl => rfl
  case h1 => rfl
  case h2 => rfl
  case h3 => rfl
  case h4 => decide
  intro dp un gd outer A₀ base g' L' h' tk' s' p loose mean mg mb B' F' X' N' T' hd hu hpre
  have kMark := kstMark
  k_steps
  with_reducible refine Stop.go ?_
  with_reducible refine' For_turns ?hF ?_ ?hs ?hE
  case hF => assumption
  case hs => intro _; rfl
  case hE => passes_own
  k_steps
  rename_i d h0 o lo hs fs hi fi l1 h1 D h2 N1 l2 i l3
  with_reducible refine Stop.go ?_
  refine items_go (fun n o kvs => o.IsDictOf (strKind pw w) kvs ∧ kvs.length + n ≤ 30) (fun kvs x => stored kvs x (.str (Str.ofString "us-ascii") 318)) (fun av y => if y = Str.ofString "alias" then av else if y = Str.ofString "found" then some (.ref d) else none) (fun o => [(D, _), (d, o)]) ?turn1 _ ?al1 none _ o [] ?hm1 ⟨hs, Nat.le_of_ble_eq_true rfl⟩ ?fin1
  case al1 => exact trivial
  case hm1 =>
    funext y
    by_cases h : y = Str.ofString "alias"
    · subst h; rfl
    · rw [if_neg h] <;> rfl
  case turn1 =>
    intro x t r av o1 kvs hk ih
    dsimp only at hk ih ⊢
    (with_unfolding_all refine (ItemsRest.val (fun h' tk' F' => ?_) : _)); ktu_objs
    k_steps
    k_dflt (refine' kda_set (knd := PySem.strKind _ _) ?F ?N ?U ?d (strKind_is _ _ _ _) ?z ?_; (case F => k_asm); (case N => k_asm); (case U => k_updF); (case d => exact hk.1); (case z => exact z30 hk.2))
    intro h5 o5 F5 N5 hd5
    try dsimp only at N5
    k_steps
    with_reducible refine Stop.go ?_
    refine ih _ o5 ?_ ⟨hd5, ?_⟩
    · funext y
      by_cases h : y = Str.ofString "alias"
      · subst h; rfl
      · simp only [if_neg h]
    · have := stored_length_le kvs x (.str (Str.ofString "us-ascii") 318); have := hk.2; omega
  case fin1 =>
    rintro av1 o1 ⟨hd1, -⟩
    dsimp only at hd1 ⊢
    (with_unfolding_all refine (ItemsRest.zero (fun h1' tk1' F1' N1' => ?_) : _))
    have q1 : @LT.lt Nat _ d h1'.objs.size := Heap.lt_size (N1' (d, o1) (by k_mem)).1
    have p1 : @LT.lt Nat _ D h1'.objs.size := Heap.lt_size (N1' (D, _) (by k_mem)).1
    dsimp only
    have hd1 := dict_eq hd1 (show _ = namesK.take 9 from by kernel_rfl)
    k_steps
    with_reducible refine Stop.go ?_
    refine items_go (fun n o kvs => o.IsDictOf (strKind pw w) kvs ∧ kvs.length + n ≤ 30) (fun kvs x => stored kvs x (.str (Str.ofString "iso-8859-1") 320)) (fun av y => if y = Str.ofString "alias" then av else if y = Str.ofString "found" then some (.ref d) else none) (fun o => [(_, _), (D, _), (d, o)]) ?turn2 _ ?al2 av1 _ o1 (namesK.take 9) ?hm2 ⟨hd1, Nat.le_of_ble_eq_true rfl⟩ ?fin2
    case al2 => exact trivial
    case hm2 =>
      funext y
      by_cases h : y = Str.ofString "alias"
      · subst h; rfl
      · rw [if_neg h] <;> rfl
    case turn2 =>
      intro x t r av o1 kvs hk ih
      dsimp only at hk ih ⊢
      (with_unfolding_all refine (ItemsRest.val (fun h' tk' F' => ?_) : _)); ktu_objs
      k_steps
      k_dflt (refine' kda_set (knd := PySem.strKind _ _) ?F ?N ?U ?d (strKind_is _ _ _ _) ?z ?_; (case F => k_asm); (case N => k_asm); (case U => k_updF); (case d => exact hk.1); (case z => exact z30 hk.2))
      intro h5 o5 F5 N5 hd5
      try dsimp only at N5
      k_steps
      with_reducible refine Stop.go ?_
      refine ih _ o5 ?_ ⟨hd5, ?_⟩
      · funext y
        by_cases h : y = Str.ofString "alias"
        · subst h; rfl
        · simp only [if_neg h]
      · have := stored_length_le kvs x (.str (Str.ofString "iso-8859-1") 320); have := hk.2; omega
    case fin2 =>
      rintro av2 o2 ⟨hd2, -⟩
      dsimp only at hd2 ⊢
      (with_unfolding_all refine (ItemsRest.zero (fun h2' tk2' F2' N2' => ?_) : _))
      have q2 : @LT.lt Nat _ d h2'.objs.size := Heap.lt_size (N2' (d, o2) (by k_mem)).1
      have p2 : @LT.lt Nat _ D h2'.objs.size := Heap.lt_size (N2' (D, _) (by k_mem)).1
      dsimp only
      have hd2 := dict_eq hd2 (show _ = namesK.take 17 from by kernel_rfl)
      k_steps
      with_reducible refine Stop.go ?_
      refine items_go (fun n o kvs => o.IsDictOf (strKind pw w) kvs ∧ kvs.length + n ≤ 30) (fun kvs x => stored kvs x (.str (Str.ofString "utf-8") 322)) (fun av y => if y = Str.ofString "alias" then av else if y = Str.ofString "found" then some (.ref d) else none) (fun o => [(_, _), (_, _), (D, _), (d, o)]) ?turn3 _ ?al3 av2 _ o2 (namesK.take 17) ?hm3 ⟨hd2, Nat.le_of_ble_eq_true rfl⟩ ?fin3
      case al3 => exact trivial
      case hm3 =>
        funext y
        by_cases h : y = Str.ofString "alias"
        · subst h; rfl
        · rw [if_neg h] <;> rfl
      case turn3 =>
        intro x t r av o1 kvs hk ih
        dsimp only at hk ih ⊢
        (with_unfolding_all refine (ItemsRest.val (fun h' tk' F' => ?_) : _)); ktu_objs
        k_steps
        k_dflt (refine' kda_set (knd := PySem.strKind _ _) ?F ?N ?U ?d (strKind_is _ _ _ _) ?z ?_; (case F => k_asm); (case N => k_asm); (case U => k_updF); (case d => exact hk.1); (case z => exact z30 hk.2))
        intro h5 o5 F5 N5 hd5
        try dsimp only at N5
        k_steps
        with_reducible refine Stop.go ?_
        refine ih _ o5 ?_ ⟨hd5, ?_⟩
        · funext y
          by_cases h : y = Str.ofString "alias"
          · subst h; rfl
          · simp only [if_neg h]
        · have := stored_length_le kvs x (.str (Str.ofString "utf-8") 322); have := hk.2; omega
      case fin3 =>
        rintro av3 o3 ⟨hd3, -⟩
        dsimp only at hd3 ⊢
        (with_unfolding_all refine (ItemsRest.zero (fun h3' tk3' F3' N3' => ?_) : _))
        have q3 : @LT.lt Nat _ d h3'.objs.size := Heap.lt_size (N3' (d, o3) (by k_mem)).1
        have p3 : @LT.lt Nat _ D h3'.objs.size := Heap.lt_size (N3' (D, _) (by k_mem)).1
        dsimp only
        have hd3 := dict_eq hd3 (show _ = namesK from by kernel_rfl)
        k_steps
        show Ret _ _ _ _ (Flow.ret _) _
        exact Ret.drop (by assumption) (by assumption) ⟨_, _, rfl, rfl, lo, hd3⟩ (by intro p hp; rw [List.mem_singleton.mp hp]; k_mem)
set_option maxHeartbeats 8000000 in
theorem charset_name_spec {w : World} {x r : Str} {t : Tok} (hx : x.cps.size ≤ 1000) (hs : ∀ c ∈ x.cps.toList, c < 1000) (hr : (∃ tk, valueAt namesK (lowerS x) = some (.str r tk)) ∨ (valueAt namesK (lowerS x) = none ∧ r = Str.ofString "")) : SpecR w 3 113 [.str x t] (fun _ => True) (fun v tl => (∃ t, v = .str r t) ∧ tl = []) := by
  refine' spec_ro (binds := [(Str.ofString "text", .str x t)]) ?ho ?hcd ?hb ?hl ?h1 ?h2 ?h3 ?h4 ?h
  case ho => k_is
  case hcd => k_is
  case hb => exact binds_eq rfl
  case hl => rfl
  case h1 => rfl
  case h2 => rfl
  case h3 => rfl
  case h4 => decide
  intro dp un gd outer A₀ base g' L' h' tk' s' p loose mean mg mb B' F' X' N' T' hd hu hpre
  k_steps
  refine SpecR.use charset_names_spec B' (by assumption) X' (by assumption) T' rfl (by omega) (by omega) trivial ?_
  rintro v tl h2 tk2 ⟨d, od, rfl, rfl, lo, hd2⟩ F2 N2 hne
  simp only [List.cons_append, List.nil_append] at N2
  k_steps
  refine Spec.use (lower_text_spec hx hs) B' (by assumption) X' (by assumption) T' rfl (by omega) (by omega) ?_
  rintro v nw' h3 tk3 ⟨⟨t1, rfl⟩, e9⟩ F3 N3
  rw [e9] at N3
  k_steps
  rcases hr with ⟨tk9, hr⟩ | ⟨hr, rfl⟩
  · refine kdg_get2 (knd := strKind _ _) N3 (List.Mem.head _) hd2 lo (strKind_is _ _ _ _) _ hr ?_
    k_steps
    exact Ret.drop (by assumption) (by assumption) ⟨⟨_, rfl⟩, rfl⟩ (fun p hp => nomatch hp)
  · refine kdg_get2 (knd := strKind _ _) N3 (List.Mem.head _) hd2 lo (strKind_is _ _ _ _) _ hr ?_
    k_steps
    exact Ret.drop (by assumption) (by assumption) ⟨⟨_, rfl⟩, rfl⟩ (fun p hp => nomatch hp)
end Mine
end
section
open PySem PySem.W PySem.Calls PyProof.Rows
set_option maxRecDepth 100000
namespace Mine
local macro_rules
  | `(tactic| walk_at "compareOp Eq bytes bytes") => `(tactic| refine Mine.stop ?_)
set_option maxHeartbeats 8000000 in
theorem quoted_decoded_spec {w : World} {b os : List UInt8} {tb : Tok} (hb : b.length ≤ 100) (hf : findZ b.toArray #[10] (some 0) none = -1) (hs : stripZ false b.toArray #[32, 9] = b) (hl : sliceZ b (some (-1)) none ≠ [61]) (ho : b.length = 3 * os.length) (he : ∀ k, k < os.length → b.getD (3 * k) 0 = 61 ∧ quotedZ b (3 * k) = ((os.getD k 0).toNat : Int)) : SpecR w 4 244 [.bytes b.toArray tb] (fun _ => True) (fun v tl => (∃ t, v = .bytes os.toArray t) ∧ tl = []) := by
  refine' spec_ro (binds := [(Str.ofString "data", .bytes b.toArray tb)]) ?ho ?hcd ?hb ?hl ?h1 ?h2 ?h3 ?h4 ?h
  case ho => k_is
  case hcd => k_is
  case hb => exact binds_eq rfl
  case hl => rfl
  case h1 => rfl
  case h2 => rfl
  case h3 => rfl
  case h4 => decide
  intro dp un gd outer A₀ base g' L' h' tk' s' p loose mean mg mb B' F' X' N' T' hd hu hpre
  have hsz : b.toArray.size = b.length := by simp
  k_steps
  refine For_turns (by assumption) ?_
  k_steps
  refine SpecR.use (line_parts_spec (by omega) hf) B' (by assumption) X' (by assumption) T' rfl (by omega) (by omega) trivial ?_
  rintro v tl h2 tk2 ⟨l, a, n, t1, t2, rfl, rfl⟩ F2 N2 hne
  simp only [List.cons_append, List.nil_append] at N2
  have hal1 := (hne _ (List.Mem.head _) _ (List.Mem.head _)).symm
  have hal2 := (hne _ (List.Mem.tail _ (List.Mem.head _)) _ (List.Mem.head _)).symm
  dsimp only at hal1 hal2
  have kMark := kstMark
  k_steps
  refine call_rstrip (by simp; omega) fun t' k' => ?_
  rw [hs]
  k_steps
  with_reducible refine Stop.go ?_
  refine my_slice (s := ⟨_, _, _, _, _⟩) (sliceZ b (some (-1)) none) (by assumption) (by assumption) (by constructor) (by constructor) (by omega) rfl fun h3 t3 k3 F3 N3 => ?_
  k_steps
  with_reducible refine Stop.go ?_
  refine my_eq_bytes (c := [(Int.toNat 61).toUInt8]) (r := false) (decide_eq_false fun h => hl (h.trans (by rfl))) ?_
  k_steps
  refine SpecR.use (unquoted_spec (by omega) ho he) B' (by assumption) X' (by assumption) T' rfl (by omega) (by omega) trivial ?_
  rintro v tl h5 tk5 ⟨⟨t5, rfl⟩, rfl⟩ F5 N5 hne5
  k_steps
  rename News _ _ _ _ => nE
  try simp only [List.push_toArray] at nE
  refine my_join (os := os) (by assumption) (by k_mem) (.cons _ _ .nil) (by simp) (by omega) fun t6 k6 => ?_
  k_steps
  exact Ret.drop (by assumption) (by assumption) ⟨⟨_, rfl⟩, rfl⟩ (fun p hp => nomatch hp)
end Mine
end
section
open PySem PySem.W PySem.Calls PyProof.Rows
set_option maxRecDepth 100000
namespace Mine
noncomputable def B64 (b os : List UInt8) : Prop := ∃ (ss : List Nat) (np : Nat), b = ss.map (fun x => b64L.getD x 0) ++ List.replicate np 61 ∧ (∀ x ∈ ss, x < 64) ∧ Dec ss os
noncomputable def QP (b os : List UInt8) : Prop := findZ b.toArray #[10] (some 0) none = -1 ∧ stripZ false b.toArray #[32, 9] = b ∧ sliceZ b (some (-1)) none ≠ [61] ∧ b.length = 3 * os.length ∧ (∀ k, k < os.length → b.getD (3 * k) 0 = 61 ∧ quotedZ b (3 * k) = ((os.getD k 0).toNat : Int))
/-- what an encoding's word makes of octets -/
inductive Undo (b os : List UInt8) : Str → Prop
  | b64 : B64 b os → Undo b os (.ofString "base64")
  | qp : QP b os → Undo b os (.ofString "quoted-printable")
  | no {w : Str} : (w == Str.ofString "base64") = false → (w == Str.ofString "quoted-printable") = false → os = b → Undo b os w
set_option maxHeartbeats 8000000 in
theorem undone_spec {w : World} {wd : Str} {b os : List UInt8} {tw tb : Tok} (hb : b.length ≤ 100) (hund : Undo b os wd) : SpecR w 5 284 [.str wd tw, .bytes b.toArray tb] (fun _ => True) (fun v tl => (∃ t, v = .bytes os.toArray t) ∧ tl = []) := by
  refine' spec_ro (binds := [(Str.ofString "encoding", .str wd tw), (Str.ofString "octets", .bytes b.toArray tb)]) ?ho ?hcd ?hb ?hl ?h1 ?h2 ?h3 ?h4 ?h
  case ho => k_is
  case hcd => k_is
  case hb => exact binds_eq rfl
  case hl => rfl
  case h1 => rfl
  case h2 => rfl
  case h3 => rfl
  case h4 => decide
  intro dp un gd outer A₀ base g' L' h' tk' s' p loose mean mg mb B' F' X' N' T' hd hu hpre
  cases hund with
  | b64 h =>
    obtain ⟨ss, np, h1, h2, h3⟩ := h
    k_steps
    refine SpecR.use (decoded_spec hb h1 h2 h3) B' (by assumption) X' (by assumption) T' rfl (by omega) (by omega) trivial ?_
    rintro v tl h2 tk2 ⟨⟨t, rfl⟩, rfl⟩ F2 N2 hne2
    rw [List.nil_append] at N2
    k_steps
    exact Ret.drop (by assumption) (by assumption) ⟨⟨_, rfl⟩, rfl⟩ (fun p hp => nomatch hp)
  | qp h =>
    obtain ⟨h1, h2, h3, h4, h5⟩ := h
    k_steps
    refine SpecR.use (quoted_decoded_spec hb h1 h2 h3 h4 h5) B' (by assumption) X' (by assumption) T' rfl (by omega) (by omega) trivial ?_
    rintro v tl h2 tk2 ⟨⟨t, rfl⟩, rfl⟩ F2 N2 hne2
    rw [List.nil_append] at N2
    k_steps
    exact Ret.drop (by assumption) (by assumption) ⟨⟨_, rfl⟩, rfl⟩ (fun p hp => nomatch hp)
  | no h1 h2 h3 =>
    subst h3
    k_steps
    show Ret _ _ _ _ (Flow.ret _) _
    exact Ret.drop (by assumption) (by assumption) ⟨⟨_, rfl⟩, rfl⟩ (fun p hp => nomatch hp)
structure PartD where
  body : Nat
  fin : Nat
  enc : Str
  kind : Addr
/-- a part that stands in the heap -/
noncomputable def PartAt (h : Heap) (x : Addr) (p : PartD) : Prop :=
  ∃ (ox : Obj) (es : List DictEntry) (n : Nat) (t u v : Tok), InstAt h x ox 268 (some (dictOf es n)) ∧ getL "body" es = some (some (.int (p.body : Int) t)) ∧ getL "end" es = some (some (.int (p.fin : Int) u)) ∧ getL "encoding" es = some (some (.str p.enc v)) ∧ getL "kind" es = some (some (.ref p.kind))
theorem PartAt.keeps {h h' : Heap} {x : Addr} {p : PartD} (H : PartAt h x p) (hk : ∀ b o, h.get? b = some o → h'.get? b = some o) : PartAt h' x p := by
  obtain ⟨ox, es, n, t, u, v, hI, r⟩ := H
  exact ⟨ox, es, n, t, u, v, instAt_keeps hI hk, r⟩
set_option maxHeartbeats 8000000 in
theorem body_octets_spec {w : World} {x : Addr} {p : PartD} {data b os : List UInt8} {tb : Tok} (hda : data.length ≤ 1000) (hb : b.length ≤ 100) (hsl : sliceZ data (some (p.body : Int)) (some (p.fin : Int)) = b) (hund : Undo b os p.enc) : SpecR w 6 291 [.bytes data.toArray tb, .ref x] (fun h => PartAt h x p) (fun v tl => (∃ t, v = .bytes os.toArray t) ∧ tl = []) := by
  refine' spec_ro (binds := [(Str.ofString "data", .bytes data.toArray tb), (Str.ofString "part", .ref x)]) ?ho ?hcd ?hb ?hl ?h1 ?h2 ?h3 ?h4 ?h
  case ho => k_is
  case hcd => k_is
  case hb => exact binds_eq rfl
  case hl => rfl
  case h1 => rfl
  case h2 => rfl
  case h3 => rfl
  case h4 => decide
  intro dp un gd outer A₀ base g' L' h' tk' s' p loose mean mg mb B' F' X' N' T' hd hu hpre
  obtain ⟨ox, es, n, t1, t2, t3, hI, hbo, hen, henc, hki⟩ := hpre
  k_steps
  rename Fr _ _ _ _ => nFo
  refine' get_own nFo X' (instAt_keeps hI nFo.keep) ?k4 ?k5 ?k6 ?k7 henc ?k8 ?_
  case k4 => k_is
  case k5 => k_is
  case k6 => k_is
  case k7 => k_is
  case k8 => k_handed
  k_steps
  rename Fr _ _ _ _ => nFo
  refine' get_own nFo X' (instAt_keeps hI nFo.keep) ?k4 ?k5 ?k6 ?k7 hbo ?k8 ?_
  case k4 => k_is
  case k5 => k_is
  case k6 => k_is
  case k7 => k_is
  case k8 => k_handed
  k_steps
  rename Fr _ _ _ _ => nFo
  refine' get_own nFo X' (instAt_keeps hI nFo.keep) ?k4 ?k5 ?k6 ?k7 hen ?k8 ?_
  case k4 => k_is
  case k5 => k_is
  case k6 => k_is
  case k7 => k_is
  case k8 => k_handed
  k_steps
  with_reducible refine Stop.go ?_
  refine my_slice (s := ⟨_, _, _, _, _⟩) b (by assumption) (by assumption) (by constructor) (by constructor) hda hsl fun h3 t3 k3 F3 N3 => ?_
  k_steps
  refine SpecR.use (undone_spec hb hund) B' F3 X' N3 T' rfl (by omega) (by omega) trivial ?_
  rintro v tl h2 tk2 ⟨⟨t, rfl⟩, rfl⟩ F2 N2 hne2
  rw [List.nil_append] at N2
  k_steps
  exact Ret.drop (by assumption) (by assumption) ⟨⟨_, rfl⟩, rfl⟩ (fun p hp => nomatch hp)
theorem LinesN.le {b : List UInt8} {e i N : Nat} (h : LinesN b e i N) : N ≤ e - i := by
  induction h with
  | done _ => exact Nat.zero_le _
  | last h _ => omega
  | more h _ h1 h2 _ ih => omega
set_option maxHeartbeats 8000000 in
theorem line_count_spec {w : World} {b : List UInt8} {i e N : Nat} {tb t u : Tok} (hb : b.length ≤ 1000) (hi : i ≤ e) (he : e ≤ b.length) (hN : LinesN b e i N) : SpecR w 2 305 [.bytes b.toArray tb, .int (i : Int) t, .int (e : Int) u] (fun _ => True) (fun v tl => (∃ t, v = .int (N : Int) t) ∧ tl = []) := by
  refine' spec_ro (binds := [(Str.ofString "data", .bytes b.toArray tb), (Str.ofString "begin", .int (i : Int) t), (Str.ofString "end", .int (e : Int) u)]) ?ho ?hcd ?hb ?hl ?h1 ?h2 ?h3 ?h4 ?h
  case ho => k_is
  case hcd => k_is
  case hb => exact binds_eq rfl
  case hl => rfl
  case h1 => rfl
  case h2 => rfl
  case h3 => rfl
  case h4 => decide
  intro dp un gd outer A₀ base g' L' h' tk' s' p loose mean mg mb B' F' X' N' T' hd hu hpre
  k_steps
  refine SpecR.use (line_spans_spec hb hi he hN) B' (by assumption) X' (by assumption) T' rfl (by omega) (by omega) trivial ?_
  rintro v tl h2 tk2 ⟨l, vs, n, rfl, rfl, hvs⟩ F2 N2 hne2
  simp only [List.cons_append, List.nil_append] at N2
  have hNle : vs.length ≤ 1000 := by have := hN.le; omega
  k_steps
  refine kst_len (by assumption) (List.Mem.head _) hvs (by omega) ?_
  k_steps
  exact Ret.drop (by assumption) (by assumption) ⟨⟨_, rfl⟩, rfl⟩ (fun p hp => nomatch hp)
/-- a kind that stands in the heap: its charset, if it tells one -/
noncomputable def KindAt (w : World) (h : Heap) (x : Addr) (pv : Option Str) : Prop :=
  ∃ (ox : Obj) (es : List DictEntry) (n : Nat) (d : Addr) (od : Obj) (kvs : List (Str × Value)) (t : Tok), InstAt h x ox 350 (some (dictOf es n)) ∧ getL "params" es = some (some (.ref d)) ∧ h.get? d = some od ∧ (d == sysModules) = false ∧
    od.IsDictOf (strKind pw w) kvs ∧ valueAt kvs (Str.ofString "charset") = pv.map fun x => .str x t
theorem KindAt.keeps {w : World} {h h' : Heap} {x : Addr} {pv : Option Str} (H : KindAt w h x pv) (hk : ∀ b o, h.get? b = some o → h'.get? b = some o) : KindAt w h' x pv := by
  obtain ⟨ox, es, n, d, od, kvs, t, hI, a, b, r⟩ := H
  exact ⟨ox, es, n, d, od, kvs, t, instAt_keeps hI hk, a, hk _ _ b, r⟩
theorem solo {h : Heap} {d : Addr} {od : Obj} (e : h.get? d = some od) : News { objs := #[] } (d + 1) h [(d, od)] := fun p hp => by
  rw [List.mem_singleton.mp hp]
  exact ⟨e, Nat.ne_of_lt (Nat.lt_succ_self _), rfl⟩
noncomputable def charsetOf (r : Str) : Str := if r == Str.ofString "" then Str.ofString "us-ascii" else r
set_option maxHeartbeats 8000000 in
theorem body_text_spec {w : World} {x : Addr} {pd : PartD} {pv : Option Str} {r : Str} {data b os : List UInt8} {cs : List Nat} {tb : Tok} (hda : data.length ≤ 1000) (hb : b.length ≤ 100) (ho : os.length ≤ 1000) (hsl : sliceZ data (some (pd.body : Int)) (some (pd.fin : Int)) = b) (hund : Undo b os pd.enc)
    (hx : (pv.getD (Str.ofString "us-ascii")).cps.size ≤ 1000) (hs : ∀ c ∈ (pv.getD (Str.ofString "us-ascii")).cps.toList, c < 1000) (hr : (∃ tk, valueAt namesK (lowerS (pv.getD (Str.ofString "us-ascii"))) = some (.str r tk)) ∨ (valueAt namesK (lowerS (pv.getD (Str.ofString "us-ascii"))) = none ∧ r = Str.ofString ""))
    (hch : CharsetIs (charsetOf r)) (hrd : Reads (charsetOf r) os 0 cs) : SpecR w 7 298 [.bytes data.toArray tb, .ref x] (fun h => PartAt h x pd ∧ KindAt w h pd.kind pv) (fun v tl => (∃ t, v = .str ⟨cs.toArray⟩ t) ∧ tl = []) := by
  refine' spec_ro (binds := [(Str.ofString "data", .bytes data.toArray tb), (Str.ofString "part", .ref x)]) ?ho ?hcd ?hb ?hl ?h1 ?h2 ?h3 ?h4 ?h
  case ho => k_is
  case hcd => k_is
  case hb => exact binds_eq rfl
  case hl => rfl
  case h1 => rfl
  case h2 => rfl
  case h3 => rfl
  case h4 => decide
  intro dp un gd outer A₀ base g' L' h' tk' s' p loose mean mg mb B' F' X' N' T' hd hu hpre
  obtain ⟨hP, hK⟩ := hpre
  obtain ⟨ox, es, n, t1, t2, t3, hI, hbo, hen, henc, hki⟩ := id hP
  obtain ⟨oy, es2, n2, d, od, kvs, t4, hI2, hpa, hgd, lo, hdi, hva⟩ := id hK
  k_steps
  rename Fr _ _ _ _ => nFo
  refine' get_own nFo X' (instAt_keeps hI nFo.keep) ?k4 ?k5 ?k6 ?k7 hki ?k8 ?_
  case k4 => k_is
  case k5 => k_is
  case k6 => k_is
  case k7 => k_is
  case k8 => k_handed
  k_steps
  rename Fr _ _ _ _ => nFo
  refine' get_own nFo X' (instAt_keeps hI2 nFo.keep) ?k4 ?k5 ?k6 ?k7 hpa ?k8 ?_
  case k4 => k_is
  case k5 => k_is
  case k6 => k_is
  case k7 => k_is
  case k8 => k_handed
  k_steps
  rename Fr _ _ _ _ => nFo
  refine kdg_method (knd := strKind _ _) (solo (nFo.keep _ _ hgd)) (List.Mem.head _) hdi ?_
  k_steps
  rename Fr _ _ _ _ => nFo
  refine kdg_get2 (knd := strKind _ _) (solo (nFo.keep _ _ hgd)) (List.Mem.head _) hdi lo (strKind_is _ _ _ _) _ hva ?_
  have hpv : ∀ tt, ∃ t5, (pv.map fun x => Value.str x t4).getD (.str (Str.ofString "us-ascii") tt) = .str (pv.getD (Str.ofString "us-ascii")) t5 := by
    intro tt
    cases pv with
    | none => exact ⟨_, rfl⟩
    | some x => exact ⟨_, rfl⟩
  generalize hg : (pv.map fun x => Value.str x t4).getD (.str (Str.ofString "us-ascii") _) = gv
  obtain ⟨t5, rfl⟩ : ∃ t5, gv = .str (pv.getD (Str.ofString "us-ascii")) t5 := hg ▸ hpv _
  clear hg
  k_steps
  refine SpecR.use (charset_name_spec hx hs hr) B' (by assumption) X' (by assumption) T' rfl (by omega) (by omega) trivial ?_
  rintro v tl h2 tk2 ⟨⟨t6, rfl⟩, rfl⟩ F2 N2 hne2
  rw [List.nil_append] at N2
  k_steps
  · have e9 : charsetOf r = Str.ofString "us-ascii" := by unfold charsetOf; rw [if_pos ‹_ = true›]
    rw [e9] at hch hrd
    refine SpecR.use (body_octets_spec hda hb hsl hund) B' (by assumption) X' (by assumption) T' rfl (by omega) (by omega) (hP.keeps (Fr.keep (by assumption))) ?_
    rintro v tl h2 tk2 ⟨⟨t7, rfl⟩, rfl⟩ F2 N2 hne2
    rw [List.nil_append] at N2
    k_steps
    refine Spec.use (text_in_spec ho hch hrd) B' (by assumption) X' (by assumption) T' rfl (by omega) (by omega) ?_
    rintro v nw' h2 tk2 ⟨⟨t8, rfl⟩, e8⟩ F2 N2
    rw [e8] at N2
    k_steps
    exact Ret.drop (by assumption) (by assumption) ⟨⟨_, rfl⟩, rfl⟩ (fun p hp => nomatch hp)
  · have e9 : charsetOf r = r := by unfold charsetOf; rw [if_neg (by rw [‹(r == Str.ofString "") = false›]; exact Bool.false_ne_true)]
    rw [e9] at hch hrd
    refine SpecR.use (body_octets_spec hda hb hsl hund) B' (by assumption) X' (by assumption) T' rfl (by omega) (by omega) (hP.keeps (Fr.keep (by assumption))) ?_
    rintro v tl h2 tk2 ⟨⟨t7, rfl⟩, rfl⟩ F2 N2 hne2
    rw [List.nil_append] at N2
    k_steps
    refine Spec.use (text_in_spec ho hch hrd) B' (by assumption) X' (by assumption) T' rfl (by omega) (by omega) ?_
    rintro v nw' h2 tk2 ⟨⟨t8, rfl⟩, e8⟩ F2 N2
    rw [e8] at N2
    k_steps
    exact Ret.drop (by assumption) (by assumption) ⟨⟨_, rfl⟩, rfl⟩ (fun p hp => nomatch hp)
end Mine
end
section
open PySem PySem.W PySem.Calls PyProof.Rows
set_option maxRecDepth 100000
namespace Mine
/-- what a run of the law has drawn -/
structure Gh where
  cs : List Nat
  ch : Option Str
  so : Str
  told : Option (List UInt8)
  way : Str
noncomputable def signL : List Nat := [97, 233, 61, 13, 10, 122, 32]
noncomputable def chL : List (Option Str × Str) := [(some (.ofString "utf-8"), .ofString "u"), (some (.ofString "UTF8"), .ofString "u"), (some (.ofString "ISO-8859-1"), .ofString "l"), (some (.ofString "latin1"), .ofString "l"), (some (.ofString "us-ascii"), .ofString "a"), (some (.ofString "x-odd"), .ofString "a"), (none, .ofString "a"), (some (.ofString "Ascii"), .ofString "a")]
noncomputable def wayL : List (Option (List UInt8) × Str) := [(some [66, 97, 115, 101, 54, 52], .ofString "b"), (some [32, 98, 97, 115, 101, 54, 52, 32, 40, 115, 111, 41], .ofString "b"), (some [81, 85, 79, 84, 69, 68, 45, 80, 82, 73, 78, 84, 65, 66, 76, 69, 59], .ofString "q"), (some [113, 117, 111, 116, 101, 100, 45, 112, 114, 105, 110, 116, 97, 98, 108, 101], .ofString "q"),
  (some [56, 98, 105, 116], .ofString ""), (some [120, 45, 119, 97, 121], .ofString ""), (none, .ofString ""), (some [], .ofString "")]
structure GhOk (γ : Gh) : Prop where
  len : γ.cs.length ≤ 10
  signs : ∀ c ∈ γ.cs, c ∈ signL
  ch : (γ.ch, γ.so) ∈ chL
  way : (γ.told, γ.way) ∈ wayL
noncomputable def ValS (o : Option Str) (v : Value) : Prop := match o with | none => v = .none | some x => ∃ t, v = .str x t
noncomputable def ValB (o : Option (List UInt8)) (v : Value) : Prop := match o with | none => v = .none | some b => ∃ t, v = .bytes b.toArray t
noncomputable def octOf (γ : Gh) : List UInt8 := if γ.so = Str.ofString "u" then γ.cs.flatMap encU else γ.cs.map Nat.toUInt8
noncomputable def bodyOf (γ : Gh) : List UInt8 := if γ.way = Str.ofString "b" then e64 (octOf γ) else if γ.way = Str.ofString "q" then (octOf γ).flatMap quo else octOf γ
theorem sorts {γ : Gh} (h : GhOk γ) : γ.so = Str.ofString "u" ∨ γ.so = Str.ofString "l" ∨ γ.so = Str.ofString "a" := by
  have := h.ch
  unfold chL at this
  simp only [List.mem_cons, List.not_mem_nil, or_false, Prod.mk.injEq] at this
  rcases this with h | h | h | h | h | h | h | h
  · exact .inl h.2
  · exact .inl h.2
  · exact .inr (.inl h.2)
  · exact .inr (.inl h.2)
  · exact .inr (.inr h.2)
  · exact .inr (.inr h.2)
  · exact .inr (.inr h.2)
  · exact .inr (.inr h.2)
theorem signs_lt {γ : Gh} (h : GhOk γ) : ∀ c ∈ γ.cs, c < 128 ∨ c = 233 := by
  intro c hc
  have := h.signs c hc
  unfold signL at this
  simp only [List.mem_cons, List.not_mem_nil, or_false] at this
  omega
theorem octOf_len {γ : Gh} (h : GhOk γ) : (octOf γ).length ≤ 20 := by
  have h1 := h.len
  unfold octOf
  split
  · have := encU_len γ.cs; omega
  · rw [List.length_map]; omega
/-- the frame's names, the newest first -/
noncomputable abbrev nmS (l : List (String × Value)) (u : Str → Option Value) : Str → Option Value := fun y => l.foldr (fun p r => if y = Str.ofString p.1 then some p.2 else r) (u y)
noncomputable def P4 : SegP := fun _ L m news => ∃ (γ : Gh) (u : Str → Option Value) (t ts tw : Tok) (chv tv : Value) (oS : Obj), GhOk γ ∧ ValS γ.ch chv ∧ ValB γ.told tv ∧ oS.data = .cell (some (.str γ.so ts)) ∧ news = [(L + 1 + 1, oS)] ∧
  m = fun y => if y = Str.ofString "way" then some (.str γ.way tw) else if y = Str.ofString "told_way" then some tv else if y = Str.ofString "charset" then some chv else if y = Str.ofString "text" then some (.str ⟨γ.cs.toArray⟩ t) else u y
noncomputable def P5 : SegP := fun _ L m news => ∃ (γ : Gh) (u : Str → Option Value) (t ts tw to : Tok) (chv tv : Value) (oS : Obj), GhOk γ ∧ ValS γ.ch chv ∧ ValB γ.told tv ∧ oS.data = .cell (some (.str γ.so ts)) ∧ news = [(L + 1 + 1, oS)] ∧
  m = fun y => if y = Str.ofString "octets" then some (.bytes (octOf γ).toArray to) else if y = Str.ofString "way" then some (.str γ.way tw) else if y = Str.ofString "told_way" then some tv else if y = Str.ofString "charset" then some chv else if y = Str.ofString "text" then some (.str ⟨γ.cs.toArray⟩ t) else u y
theorem way_cases {γ : Gh} (h : GhOk γ) : γ.way = Str.ofString "b" ∨ γ.way = Str.ofString "q" ∨ γ.way = Str.ofString "" := by
  have := h.way
  unfold wayL at this
  simp only [List.mem_cons, List.not_mem_nil, or_false, Prod.mk.injEq] at this
  rcases this with h | h | h | h | h | h | h | h
  · exact .inl h.2
  · exact .inl h.2
  · exact .inr (.inl h.2)
  · exact .inr (.inl h.2)
  · exact .inr (.inr h.2)
  · exact .inr (.inr h.2)
  · exact .inr (.inr h.2)
  · exact .inr (.inr h.2)
theorem bodyOf_len {γ : Gh} (h : GhOk γ) : (bodyOf γ).length ≤ 80 := by
  have h1 := octOf_len h
  unfold bodyOf
  split
  · have := e64_len (octOf γ); omega
  · split
    · have := quo_len (octOf γ); omega
    · omega
/-- lead, tail of the data -/
noncomputable def leadL : List UInt8 := [84, 111, 58, 32, 120, 13, 10, 13, 10]
noncomputable def tailL : List UInt8 := [13, 10, 45, 45, 98]
noncomputable def dataOf (γ : Gh) : List UInt8 := leadL ++ bodyOf γ ++ tailL
noncomputable def P6 : SegP := fun _ L m news => ∃ (γ : Gh) (u : Str → Option Value) (t ts tw to tb : Tok) (chv tv : Value) (oS : Obj), GhOk γ ∧ ValS γ.ch chv ∧ ValB γ.told tv ∧ oS.data = .cell (some (.str γ.so ts)) ∧ news = [(L + 1 + 1, oS)] ∧
  m = fun y => if y = Str.ofString "body" then some (.bytes (bodyOf γ).toArray tb) else if y = Str.ofString "octets" then some (.bytes (octOf γ).toArray to) else if y = Str.ofString "way" then some (.str γ.way tw) else if y = Str.ofString "told_way" then some tv else if y = Str.ofString "charset" then some chv else if y = Str.ofString "text" then some (.str ⟨γ.cs.toArray⟩ t) else u y
noncomputable def P8 : SegP := fun _ L m news => ∃ (γ : Gh) (u : Str → Option Value) (t ts tw to tb td tl : Tok) (chv tv : Value) (oS : Obj), GhOk γ ∧ ValS γ.ch chv ∧ ValB γ.told tv ∧ oS.data = .cell (some (.str γ.so ts)) ∧ news = [(L + 1 + 1, oS)] ∧
  m = fun y => if y = Str.ofString "data" then some (.bytes (dataOf γ).toArray td) else if y = Str.ofString "lead" then some (.bytes leadL.toArray tl) else if y = Str.ofString "body" then some (.bytes (bodyOf γ).toArray tb) else if y = Str.ofString "octets" then some (.bytes (octOf γ).toArray to) else if y = Str.ofString "way" then some (.str γ.way tw) else if y = Str.ofString "told_way" then some tv else if y = Str.ofString "charset" then some chv else if y = Str.ofString "text" then some (.str ⟨γ.cs.toArray⟩ t) else u y
noncomputable def P0 : SegP := fun g L m news => ∃ (l : Addr) (vs : List Value) (ns : List Int) (oS oT : Obj), g.IsList l vs.toArray ∧ IntsAre vs ns ∧ ns.length ≤ 63 ∧ oS.data = .cell none ∧ oT.data = .cell none ∧ news = [(L + 1 + 1, oS), (L + 1, oT)] ∧
  m = fun y => if y = Str.ofString "script" then some (.ref l) else none
/-- the tape: its cells, its place -/
structure TapeD where
  t : Addr
  c : Addr
  vs : List Value
  nn : Nat
  ns : List Int
structure TapeOk (L : Addr) (τ : TapeD) : Prop where
  ia : IntsAre τ.vs τ.ns
  some : 0 < τ.ns.length
  short : τ.ns.length ≤ 20
  ct : @Ne Nat τ.c τ.t
  cc : @LT.lt Nat _ (L + 1 + 1) τ.c
  tt : @LT.lt Nat _ (L + 1 + 1) τ.t
noncomputable def P1 : SegP := fun _ L m news => ∃ (u : Str → Option Value) (τ : TapeD) (n : Nat) (tk : Tok) (oS oT : Obj), TapeOk L τ ∧ oS.data = .cell none ∧ oT.data = .cell (some (.ref τ.t)) ∧ news = [(τ.t, listOf ([.ref τ.c, .int 0 tk] : List Value).toArray n), (τ.c, listOf τ.vs.toArray τ.nn), (L + 1 + 1, oS), (L + 1, oT)] ∧ m = u
noncomputable def tapeLed (L : Addr) (τ : TapeD) (k : Nat) (tk : Tok) (n : Nat) (oS oT : Obj) : Led := [(τ.t, listOf ([.ref τ.c, .int (k : Int) tk] : List Value).toArray n), (τ.c, listOf τ.vs.toArray τ.nn), (L + 1 + 1, oS), (L + 1, oT)]
noncomputable def P2 : SegP := fun _ L m news => ∃ (cs : List Nat) (u : Str → Option Value) (t : Tok) (τ : TapeD) (k n : Nat) (tk : Tok) (oS oT : Obj), cs.length ≤ 10 ∧ (∀ c ∈ cs, c ∈ signL) ∧ TapeOk L τ ∧ k ≤ 6 ∧ oS.data = .cell none ∧ oT.data = .cell (some (.ref τ.t)) ∧ news = tapeLed L τ k tk n oS oT ∧ m = fun y => if y = Str.ofString "text" then some (.str ⟨cs.toArray⟩ t) else u y
noncomputable def P3 : SegP := fun _ L m news => ∃ (cs : List Nat) (ch : Option Str) (so : Str) (u : Str → Option Value) (t ts : Tok) (chv : Value) (τ : TapeD) (k n : Nat) (tk : Tok) (oS oT : Obj), cs.length ≤ 10 ∧ (∀ c ∈ cs, c ∈ signL) ∧ (ch, so) ∈ chL ∧ ValS ch chv ∧ TapeOk L τ ∧ k ≤ 7 ∧ oS.data = .cell (some (.str so ts)) ∧ oT.data = .cell (some (.ref τ.t)) ∧ news = tapeLed L τ k tk n oS oT ∧
  m = fun y => if y = Str.ofString "charset" then some chv else if y = Str.ofString "text" then some (.str ⟨cs.toArray⟩ t) else u y
end Mine
end
section
open PySem PySem.W PySem.Calls PyProof.Rows
set_option maxRecDepth 100000
namespace Mine
theorem post1 {g : Heap} {L : Addr} {s : Shared} {h' : Heap} {tk : Nat} {m' : Str → Option Value} {all : Led} {t c : Addr} {vs : List Value} {nn n : Nat} {ns : List Int} {tk1 : Tok} {oS oT : Obj} (F : Fr g L h' m') (N : News g L h' all) (h1 : (t, listOf ([.ref c, .int 0 tk1] : List Value).toArray n) ∈ all) (h2 : (c, listOf vs.toArray nn) ∈ all) (h3 : (L + 1 + 1, oS) ∈ all) (h4 : (L + 1, oT) ∈ all)
    (hi : IntsAre vs ns) (hp : 0 < ns.length) (hl : ns.length ≤ 20) (a : @LT.lt Nat _ c t) (b : @LT.lt Nat _ (L + 1 + 1) c) (hoS : oS.data = .cell none) (hoT : oT.data = .cell (some (.ref t))) : SegPost g L s (P1 g L) .next { s with heap := h', toks := tk } := by
  refine SegPost.intro F N ?_ ⟨_, ⟨t, c, vs, nn, ns⟩, n, tk1, oS, oT, ⟨hi, hp, hl, Nat.ne_of_lt a, b, Nat.lt_trans b a⟩, hoS, hoT, rfl, rfl⟩
  intro x hx
  simp only [List.mem_cons, List.not_mem_nil, or_false] at hx
  rcases hx with rfl | rfl | rfl | rfl <;> assumption
set_option maxHeartbeats 8000000 in
theorem seg0 {w : World} : Seg w 10 0 1 P0 P1 := by
  refine @seg_one _ _ _ _ [_] _ _ rfl ?_
  intro fa cdv dp un gd outer A₀ base g' L' h tk s' p loose mean mg mb m news B' F' X' N' T' hd hu hpre
  dsimp only [lawSc, lawScp] at *
  obtain ⟨l, vs, ns, oS, oT, hl, hns, hn63, hoS, hoT, rfl, rfl⟩ := hpre
  have hvl : vs.length = ns.length := hns.length
  k_steps
  · rename IntsAre _ (List.take _ _) => hi
    rename News _ _ _ _ => nE
    rename 0 < List.length _ => hp
    exact post1 (by assumption) nE (List.Mem.head _) (List.Mem.tail _ (List.Mem.head _)) (by k_mem) (by k_mem) hi hp (by rw [List.length_take]; exact Nat.min_le_left _ _) (by omega) (by omega) hoS (by assumption)
  · rename News _ _ _ _ => nE
    exact post1 (by assumption) nE (List.Mem.head _) (List.Mem.tail _ (List.Mem.head _)) (by k_mem) (by k_mem) (.cons _ _ .nil) (by decide) (by decide) (by omega) (by omega) hoS (by assumption)
end Mine
end
section
open PySem PySem.W PySem.Calls PyProof.Rows
set_option maxRecDepth 100000
namespace Mine
set_option maxHeartbeats 8000000 in
theorem seg2 {w : World} : Seg w 10 2 1 P2 P3 := by
  refine @seg_one _ _ _ _ [_] _ _ rfl ?_
  intro fa cdv dp un gd outer A₀ base g' L' h tk s' p loose mean mg mb m news B' F' X' N' T' hd hu hpre
  dsimp only [lawSc, lawScp] at *
  obtain ⟨cs, u, t, τ, k, n, tk1, oS, oT, hcs, hsg, hτ, hk, hoS, hoT, rfl, rfl⟩ := hpre
  obtain ⟨ht, hc, vs, nn, ns⟩ := τ
  obtain ⟨ia, hp, hl, hct, hcc, htt⟩ := hτ
  dsimp only [tapeLed] at *
  k_steps
  have U0 : UpdF ht (tapeO hc (k : Int) tk1 n) [(ht, listOf ([.ref hc, .int (k : Int) tk1] : List Value).toArray n), (hc, listOf vs.toArray nn), (L' + 1 + 1, oS), (L' + 1, oT)] (fun o => [(ht, o), (hc, listOf vs.toArray nn), (L' + 1 + 1, oS), (L' + 1, oT)]) := by k_updF
  refine Spec.use (draw_spec U0 (List.Mem.tail _ (List.Mem.head _)) hct ia hp hl (by omega) (by omega) (by decide) (by decide)) B' F' X' N' T' rfl (by omega) (by omega) ?_
  rintro v nw' h2 tk2 ⟨r, tr, tk3, hr0, hr1, rfl, rfl⟩ F2 N2
  dsimp only at N2
  have hcase : r = 0 ∨ r = 1 ∨ r = 2 ∨ r = 3 ∨ r = 4 ∨ r = 5 ∨ r = 6 ∨ r = 7 := by omega
  rcases hcase with rfl | rfl | rfl | rfl | rfl | rfl | rfl | rfl
  · k_steps
    refine SegPost.intro (by assumption) (by assumption) (fun p hp => hp) ⟨cs, (some (.ofString "utf-8")), .ofString "u", _, _, _, _, ⟨ht, hc, vs, nn, ns⟩, k + 1, n, tk3, _, oT, hcs, hsg, by decide, ⟨_, rfl⟩, ⟨ia, hp, hl, hct, hcc, htt⟩, by omega, by assumption, hoT, rfl, rfl⟩
  · k_steps
    refine SegPost.intro (by assumption) (by assumption) (fun p hp => hp) ⟨cs, (some (.ofString "UTF8")), .ofString "u", _, _, _, _, ⟨ht, hc, vs, nn, ns⟩, k + 1, n, tk3, _, oT, hcs, hsg, by decide, ⟨_, rfl⟩, ⟨ia, hp, hl, hct, hcc, htt⟩, by omega, by assumption, hoT, rfl, rfl⟩
  · k_steps
    refine SegPost.intro (by assumption) (by assumption) (fun p hp => hp) ⟨cs, (some (.ofString "ISO-8859-1")), .ofString "l", _, _, _, _, ⟨ht, hc, vs, nn, ns⟩, k + 1, n, tk3, _, oT, hcs, hsg, by decide, ⟨_, rfl⟩, ⟨ia, hp, hl, hct, hcc, htt⟩, by omega, by assumption, hoT, rfl, rfl⟩
  · k_steps
    refine SegPost.intro (by assumption) (by assumption) (fun p hp => hp) ⟨cs, (some (.ofString "latin1")), .ofString "l", _, _, _, _, ⟨ht, hc, vs, nn, ns⟩, k + 1, n, tk3, _, oT, hcs, hsg, by decide, ⟨_, rfl⟩, ⟨ia, hp, hl, hct, hcc, htt⟩, by omega, by assumption, hoT, rfl, rfl⟩
  · k_steps
    refine SegPost.intro (by assumption) (by assumption) (fun p hp => hp) ⟨cs, (some (.ofString "us-ascii")), .ofString "a", _, _, _, _, ⟨ht, hc, vs, nn, ns⟩, k + 1, n, tk3, _, oT, hcs, hsg, by decide, ⟨_, rfl⟩, ⟨ia, hp, hl, hct, hcc, htt⟩, by omega, by assumption, hoT, rfl, rfl⟩
  · k_steps
    refine SegPost.intro (by assumption) (by assumption) (fun p hp => hp) ⟨cs, (some (.ofString "x-odd")), .ofString "a", _, _, _, _, ⟨ht, hc, vs, nn, ns⟩, k + 1, n, tk3, _, oT, hcs, hsg, by decide, ⟨_, rfl⟩, ⟨ia, hp, hl, hct, hcc, htt⟩, by omega, by assumption, hoT, rfl, rfl⟩
  · k_steps
    refine SegPost.intro (by assumption) (by assumption) (fun p hp => hp) ⟨cs, none, .ofString "a", _, _, _, _, ⟨ht, hc, vs, nn, ns⟩, k + 1, n, tk3, _, oT, hcs, hsg, by decide, rfl, ⟨ia, hp, hl, hct, hcc, htt⟩, by omega, by assumption, hoT, rfl, rfl⟩
  · k_steps
    refine SegPost.intro (by assumption) (by assumption) (fun p hp => hp) ⟨cs, (some (.ofString "Ascii")), .ofString "a", _, _, _, _, ⟨ht, hc, vs, nn, ns⟩, k + 1, n, tk3, _, oT, hcs, hsg, by decide, ⟨_, rfl⟩, ⟨ia, hp, hl, hct, hcc, htt⟩, by omega, by assumption, hoT, rfl, rfl⟩
end Mine
end
section
open PySem PySem.W PySem.Calls PyProof.Rows
set_option maxRecDepth 100000
namespace Mine
set_option maxHeartbeats 8000000 in
theorem seg3 {w : World} : Seg w 10 3 1 P3 P4 := by
  refine @seg_one _ _ _ _ [_] _ _ rfl ?_
  intro fa cdv dp un gd outer A₀ base g' L' h tk s' p loose mean mg mb m news B' F' X' N' T' hd hu hpre
  dsimp only [lawSc, lawScp] at *
  obtain ⟨cs, ch, so, u, t, ts, chv, τ, k, n, tk1, oS, oT, hcs, hsg, hch, hcv, hτ, hk, hoS, hoT, rfl, rfl⟩ := hpre
  obtain ⟨ht, hc, vs, nn, ns⟩ := τ
  obtain ⟨ia, hp, hl, hct, hcc, htt⟩ := hτ
  dsimp only [tapeLed] at *
  k_steps
  have U0 : UpdF ht (tapeO hc (k : Int) tk1 n) [(ht, listOf ([.ref hc, .int (k : Int) tk1] : List Value).toArray n), (hc, listOf vs.toArray nn), (L' + 1 + 1, oS), (L' + 1, oT)] (fun o => [(ht, o), (hc, listOf vs.toArray nn), (L' + 1 + 1, oS), (L' + 1, oT)]) := by k_updF
  refine Spec.use (draw_spec U0 (List.Mem.tail _ (List.Mem.head _)) hct ia hp hl (by omega) (by omega) (by decide) (by decide)) B' F' X' N' T' rfl (by omega) (by omega) ?_
  rintro v nw' h2 tk2 ⟨r, tr, tk3, hr0, hr1, rfl, rfl⟩ F2 N2
  dsimp only at N2
  have hcase : r = 0 ∨ r = 1 ∨ r = 2 ∨ r = 3 ∨ r = 4 ∨ r = 5 ∨ r = 6 ∨ r = 7 := by omega
  rcases hcase with rfl | rfl | rfl | rfl | rfl | rfl | rfl | rfl
  · k_steps
    refine SegPost.intro (by assumption) (by assumption) (fun p hp => by rw [List.mem_singleton.mp hp]; k_mem) ⟨⟨cs, ch, so, (some [66, 97, 115, 101, 54, 52]), .ofString "b"⟩, u, _, _, _, _, _, oS, ⟨hcs, hsg, hch, (show (((some [66, 97, 115, 101, 54, 52]) : Option (List UInt8)), Str.ofString "b") ∈ wayL from by decide)⟩, hcv, ⟨_, rfl⟩, hoS, rfl, rfl⟩
  · k_steps
    refine SegPost.intro (by assumption) (by assumption) (fun p hp => by rw [List.mem_singleton.mp hp]; k_mem) ⟨⟨cs, ch, so, (some [32, 98, 97, 115, 101, 54, 52, 32, 40, 115, 111, 41]), .ofString "b"⟩, u, _, _, _, _, _, oS, ⟨hcs, hsg, hch, (show (((some [32, 98, 97, 115, 101, 54, 52, 32, 40, 115, 111, 41]) : Option (List UInt8)), Str.ofString "b") ∈ wayL from by decide)⟩, hcv, ⟨_, rfl⟩, hoS, rfl, rfl⟩
  · k_steps
    refine SegPost.intro (by assumption) (by assumption) (fun p hp => by rw [List.mem_singleton.mp hp]; k_mem) ⟨⟨cs, ch, so, (some [81, 85, 79, 84, 69, 68, 45, 80, 82, 73, 78, 84, 65, 66, 76, 69, 59]), .ofString "q"⟩, u, _, _, _, _, _, oS, ⟨hcs, hsg, hch, (show (((some [81, 85, 79, 84, 69, 68, 45, 80, 82, 73, 78, 84, 65, 66, 76, 69, 59]) : Option (List UInt8)), Str.ofString "q") ∈ wayL from by decide)⟩, hcv, ⟨_, rfl⟩, hoS, rfl, rfl⟩
  · k_steps
    refine SegPost.intro (by assumption) (by assumption) (fun p hp => by rw [List.mem_singleton.mp hp]; k_mem) ⟨⟨cs, ch, so, (some [113, 117, 111, 116, 101, 100, 45, 112, 114, 105, 110, 116, 97, 98, 108, 101]), .ofString "q"⟩, u, _, _, _, _, _, oS, ⟨hcs, hsg, hch, (show (((some [113, 117, 111, 116, 101, 100, 45, 112, 114, 105, 110, 116, 97, 98, 108, 101]) : Option (List UInt8)), Str.ofString "q") ∈ wayL from by decide)⟩, hcv, ⟨_, rfl⟩, hoS, rfl, rfl⟩
  · k_steps
    refine SegPost.intro (by assumption) (by assumption) (fun p hp => by rw [List.mem_singleton.mp hp]; k_mem) ⟨⟨cs, ch, so, (some [56, 98, 105, 116]), .ofString ""⟩, u, _, _, _, _, _, oS, ⟨hcs, hsg, hch, (show (((some [56, 98, 105, 116]) : Option (List UInt8)), Str.ofString "") ∈ wayL from by decide)⟩, hcv, ⟨_, rfl⟩, hoS, rfl, rfl⟩
  · k_steps
    refine SegPost.intro (by assumption) (by assumption) (fun p hp => by rw [List.mem_singleton.mp hp]; k_mem) ⟨⟨cs, ch, so, (some [120, 45, 119, 97, 121]), .ofString ""⟩, u, _, _, _, _, _, oS, ⟨hcs, hsg, hch, (show (((some [120, 45, 119, 97, 121]) : Option (List UInt8)), Str.ofString "") ∈ wayL from by decide)⟩, hcv, ⟨_, rfl⟩, hoS, rfl, rfl⟩
  · k_steps
    refine SegPost.intro (by assumption) (by assumption) (fun p hp => by rw [List.mem_singleton.mp hp]; k_mem) ⟨⟨cs, ch, so, none, .ofString ""⟩, u, _, _, _, _, _, oS, ⟨hcs, hsg, hch, (show ((none : Option (List UInt8)), Str.ofString "") ∈ wayL from by decide)⟩, hcv, rfl, hoS, rfl, rfl⟩
  · k_steps
    refine SegPost.intro (by assumption) (by assumption) (fun p hp => by rw [List.mem_singleton.mp hp]; k_mem) ⟨⟨cs, ch, so, (some []), .ofString ""⟩, u, _, _, _, _, _, oS, ⟨hcs, hsg, hch, (show (((some []) : Option (List UInt8)), Str.ofString "") ∈ wayL from by decide)⟩, hcv, ⟨_, rfl⟩, hoS, rfl, rfl⟩
end Mine
end
section
open PySem PySem.W PySem.Calls PyProof.Rows
set_option maxRecDepth 100000
namespace Mine
local macro_rules | `(tactic| k_all) => `(tactic| assumption)
set_option maxHeartbeats 8000000 in
theorem field_init {w : World} {x dx : Addr} {news : Led} {nm raw : List UInt8} {t u : Tok} (hx : @LT.lt Nat _ dx x) (hn : ∀ p ∈ news, p.1 < dx) : SpecI w 1 162 [.ref x, .bytes nm.toArray t, .bytes raw.toArray u] ((x, instObj 177 dx) :: (dx, dictOf [] 0) :: news) (fun v nw => v = .none ∧ ∃ D n, nw = (x, instObj 177 dx) :: (dx, dictOf D n) :: news ∧ getL "name" D = some (some (.bytes nm.toArray t)) ∧ getL "raw" D = some (some (.bytes raw.toArray u)) ∧ getL "word" D = some none) := by
  refine' spec_ofI (binds := [(Str.ofString "self", .ref x), (Str.ofString "name", .bytes nm.toArray t), (Str.ofString "raw", .bytes raw.toArray u)]) ?ho ?hcd ?hb ?hl ?h1 ?h2 ?h3 ?h4 ?h
  case ho => k_is
  case hcd => k_is
  case hb => rfl
  case hl => rfl
  case h1 => rfl
  case h2 => rfl
  case h3 => rfl
  case h4 => decide
  intro dp un gd outer A₀ base g' L' h' tk' s' p loose mean mg mb B' F' X' N' T' hd hu
  have hne : ∀ p ∈ news, p.1 ≠ dx := fun p hp => Nat.ne_of_lt (hn p hp)
  k_steps
  exact Ret.nextI (by assumption) (by assumption) ⟨rfl, _, _, rfl, by k_get, by k_get, by k_get⟩
set_option maxHeartbeats 8000000 in
theorem kind_init {w : World} {x dx d : Addr} {news : Led} {a b : Str} {t u : Tok} (hx : @LT.lt Nat _ dx x) (hn : ∀ p ∈ news, p.1 < dx) : SpecI w 1 319 [.ref x, .str a t, .str b u, .ref d] ((x, instObj 350 dx) :: (dx, dictOf [] 0) :: news) (fun v nw => v = .none ∧ ∃ D n, nw = (x, instObj 350 dx) :: (dx, dictOf D n) :: news ∧ getL "params" D = some (some (.ref d))) := by
  refine' spec_ofI (binds := [(Str.ofString "self", .ref x), (Str.ofString "top", .str a t), (Str.ofString "sub", .str b u), (Str.ofString "params", .ref d)]) ?ho ?hcd ?hb ?hl ?h1 ?h2 ?h3 ?h4 ?h
  case ho => k_is
  case hcd => k_is
  case hb => rfl
  case hl => rfl
  case h1 => rfl
  case h2 => rfl
  case h3 => rfl
  case h4 => decide
  intro dp un gd outer A₀ base g' L' h' tk' s' p loose mean mg mb B' F' X' N' T' hd hu
  have hne : ∀ p ∈ news, p.1 ≠ dx := fun p hp => Nat.ne_of_lt (hn p hp)
  k_steps
  exact Ret.nextI (by assumption) (by assumption) ⟨rfl, _, _, rfl, by k_get⟩
set_option maxHeartbeats 8000000 in
theorem part_init {w : World} {x dx fl kd : Addr} {bo en : Nat} {news : Led} {t0 t1 t2 : Tok} {fs : List Value} {flds : List Fld} (hx : @LT.lt Nat _ dx x) (hn : ∀ p ∈ news, p.1 < dx) (hok : ∀ p ∈ flds, FldOk p) (hfl : flds.length ≤ 10) (hat : ∀ h₀ L h, News h₀ L h news → FieldsAt h fl fs flds) : SpecI w 6 258 [.ref x, .int 0 t0, .int (bo : Int) t1, .int (en : Int) t2, .ref fl, .ref kd] ((x, instObj 268 dx) :: (dx, dictOf [] 0) :: news) (fun v nw => v = .none ∧ ∃ D n w, nw = (x, instObj 268 dx) :: (dx, dictOf D n) :: news ∧ EncIs flds w ∧ getL "body" D = some (some (.int (bo : Int) t1)) ∧ getL "end" D = some (some (.int (en : Int) t2)) ∧ (∃ t, getL "encoding" D = some (some (.str w t))) ∧ getL "kind" D = some (some (.ref kd))) := by
  refine' spec_ofI (binds := [(Str.ofString "self", .ref x), (Str.ofString "begin", .int 0 t0), (Str.ofString "body", .int (bo : Int) t1), (Str.ofString "end", .int (en : Int) t2), (Str.ofString "fields", .ref fl), (Str.ofString "kind", .ref kd)]) ?ho ?hcd ?hb ?hl ?h1 ?h2 ?h3 ?h4 ?h
  case ho => k_is
  case hcd => k_is
  case hb => rfl
  case hl => rfl
  case h1 => rfl
  case h2 => rfl
  case h3 => rfl
  case h4 => decide
  intro dp un gd outer A₀ base g' L' h' tk' s' p loose mean mg mb B' F' X' N' T' hd hu
  have hne : ∀ p ∈ news, p.1 ≠ dx := fun p hp => Nat.ne_of_lt (hn p hp)
  k_steps
  rename News _ _ _ _ => nE
  refine SpecR.use (encoding_of_spec hok hfl) B' (by assumption) X' nE T' rfl (by omega) (by omega) (hat _ _ _ fun p hp => nE p (List.Mem.tail _ (List.Mem.tail _ hp))) ?_
  rintro v tl h2 tk2 ⟨⟨w, tw, rfl, hw⟩, rfl⟩ F2 N2 hne2
  rw [List.nil_append] at N2
  k_steps
  rename News _ _ _ _ => nE
  exact Ret.nextI (by assumption) (fun p hp => nE p (List.Mem.tail _ hp)) ⟨rfl, _, _, _, rfl, hw, by k_get, by k_get, ⟨_, by k_get⟩, by k_get⟩
end Mine
end
section
open PySem PySem.W PySem.Calls PyProof.Rows
set_option maxRecDepth 100000
namespace Mine
noncomputable def toL : List UInt8 := [84, 111]
noncomputable def toR : List UInt8 := [32, 120]
noncomputable def ctA : List UInt8 := [99, 111, 110, 116, 101, 110, 116, 45, 84, 82, 65, 78, 83, 70, 69, 82, 45, 101, 110, 99, 111, 100, 105, 110, 103]
noncomputable def ctB : List UInt8 := [67, 111, 110, 116, 101, 110, 116, 45, 84, 114, 97, 110, 115, 102, 101, 114, 45, 69, 110, 99, 111, 100, 105, 110, 103]
noncomputable def b64R : List UInt8 := [32, 98, 97, 115, 101, 54, 52]
noncomputable def fldsOf (told : Option (List UInt8)) : List Fld := match told with | none => [(toL, toR)] | some b => [(toL, toR), (ctA, b), (ctB, b64R)]
noncomputable def LedIs (led : Led) (P : Heap → Prop) : Prop := ∀ (h₀ : Heap) (L : Addr) (h : Heap), News h₀ L h led → P h
theorem fieldAt_of {h₀ h : Heap} {L x dx : Addr} {news : Led} {D : List DictEntry} {n : Nat} {nm raw : List UInt8} {t u : Tok} (N : News h₀ L h news) (h1 : (x, instObj 177 dx) ∈ news) (h2 : (dx, dictOf D n) ∈ news)
    (a : getL "name" D = some (some (.bytes nm.toArray t))) (b : getL "raw" D = some (some (.bytes raw.toArray u))) (c : getL "word" D = some none) : FieldAt h x nm raw := ⟨dx, _, D, n, t, u, InstAt.of_news N h1 h2, a, b, c⟩
theorem fields1 {h : Heap} {l x1 : Addr} {p1 : Fld} (hl : h.IsList l #[.ref x1]) (f1 : FieldAt h x1 p1.1 p1.2) : FieldsAt h l [.ref x1] [p1] := by
  refine ⟨hl, rfl, fun i p hp => ?_⟩
  match i, hp with
  | 0, hp => cases hp; exact ⟨x1, rfl, f1⟩
  | i + 1, hp => simp at hp
theorem fields3 {h : Heap} {l x1 x2 x3 : Addr} {p1 p2 p3 : Fld} (hl : h.IsList l #[.ref x1, .ref x2, .ref x3]) (f1 : FieldAt h x1 p1.1 p1.2) (f2 : FieldAt h x2 p2.1 p2.2) (f3 : FieldAt h x3 p3.1 p3.2) : FieldsAt h l [.ref x1, .ref x2, .ref x3] [p1, p2, p3] := by
  refine ⟨hl, rfl, fun i p hp => ?_⟩
  match i, hp with
  | 0, hp => cases hp; exact ⟨x1, rfl, f1⟩
  | 1, hp => cases hp; exact ⟨x2, rfl, f2⟩
  | 2, hp => cases hp; exact ⟨x3, rfl, f3⟩
  | i + 3, hp => simp at hp
theorem SegPost.introR {g : Heap} {L : Addr} {s : Shared} {Post : (Str → Option Value) → Led → Prop} {h' : Heap} {tk : Nat} {m' : Str → Option Value} {all : Led} (F : Fr g L h' m') (N : News g L h' all) (a : Addr × Obj) (ha : all = all.dropLast ++ [a]) (p : Post m' (a :: all.dropLast)) :
    SegPost g L s Post .next { s with heap := h', toks := tk } := by
  refine SegPost.intro F N (fun x hx => ?_) p
  rw [ha]
  rcases List.mem_cons.mp hx with rfl | hx
  · exact List.mem_append.mpr (.inr (List.Mem.head _))
  · exact List.mem_append.mpr (.inl hx)
theorem dup_names {a : Str} {x x' : Option Value} {r : Str → Option Value} : (fun y => if y = a then x else if y = a then x' else r y) = (fun y => if y = a then x else r y) := by
  funext y
  by_cases h : y = a
  · rw [if_pos h, if_pos h]
  · rw [if_neg h, if_neg h, if_neg h]
noncomputable def P10 : SegP := fun _ L m news => ∃ (γ : Gh) (u : Str → Option Value) (t ts tw to tb td tl : Tok) (chv tv : Value) (oS : Obj) (fl : Addr) (fs : List Value) (led : Led), GhOk γ ∧ ValS γ.ch chv ∧ ValB γ.told tv ∧ oS.data = .cell (some (.str γ.so ts)) ∧ news = (L + 1 + 1, oS) :: led ∧ LedIs led (fun h => FieldsAt h fl fs (fldsOf γ.told)) ∧
  m = fun y => if y = Str.ofString "fields" then some (.ref fl) else if y = Str.ofString "data" then some (.bytes (dataOf γ).toArray td) else if y = Str.ofString "lead" then some (.bytes leadL.toArray tl) else if y = Str.ofString "body" then some (.bytes (bodyOf γ).toArray tb) else if y = Str.ofString "octets" then some (.bytes (octOf γ).toArray to) else if y = Str.ofString "way" then some (.str γ.way tw) else if y = Str.ofString "told_way" then some tv else if y = Str.ofString "charset" then some chv else if y = Str.ofString "text" then some (.str ⟨γ.cs.toArray⟩ t) else u y
theorem flds_fit : ∀ o ∈ wayL.map (·.1), ∀ p ∈ fldsOf o, p.1.length ≤ 1000 ∧ p.2.length ≤ 1000 ∧ findZ p.2.toArray #[10] (some 0) (some (p.2.length : Int)) = -1 := by decide +kernel
theorem flds_ok {γ : Gh} (h : GhOk γ) : ∀ p ∈ fldsOf γ.told, FldOk p := flds_fit _ (List.mem_map.mpr ⟨_, h.way, rfl⟩)
theorem flds_len (o : Option (List UInt8)) : (fldsOf o).length ≤ 10 := by
  cases o with
  | none => show 1 ≤ 10; omega
  | some b => show 3 ≤ 10; omega
noncomputable def encW (flds : List Fld) : Str := match flds.find? (hitF cte) with
  | some p => wordS (stripZ true p.2.toArray #[32, 9])
  | none => Str.ofString "7bit"
theorem EncIs.eq {flds : List Fld} {w : Str} (h : EncIs flds w) : w = encW flds := by
  unfold encW
  rcases h with ⟨p, h, e⟩ | ⟨h, e⟩
  · rw [h]; exact e
  · rw [h]; exact e
noncomputable def partD (γ : Gh) (k : Addr) : PartD := ⟨9, 9 + (bodyOf γ).length, encW (fldsOf γ.told), k⟩
noncomputable def P11 (w : World) : SegP := fun _ L m news => ∃ (γ : Gh) (u : Str → Option Value) (t ts tw to tb td tl : Tok) (chv tv : Value) (oS : Obj) (fl px kx : Addr) (fs : List Value) (led : Led), GhOk γ ∧ ValS γ.ch chv ∧ ValB γ.told tv ∧ oS.data = .cell (some (.str γ.so ts)) ∧ news = (L + 1 + 1, oS) :: led ∧
  LedIs led (fun h => FieldsAt h fl fs (fldsOf γ.told) ∧ PartAt h px (partD γ kx) ∧ KindAt w h kx γ.ch) ∧
  m = fun y => if y = Str.ofString "part" then some (.ref px) else if y = Str.ofString "fields" then some (.ref fl) else if y = Str.ofString "data" then some (.bytes (dataOf γ).toArray td) else if y = Str.ofString "lead" then some (.bytes leadL.toArray tl) else if y = Str.ofString "body" then some (.bytes (bodyOf γ).toArray tb) else if y = Str.ofString "octets" then some (.bytes (octOf γ).toArray to) else if y = Str.ofString "way" then some (.str γ.way tw) else if y = Str.ofString "told_way" then some tv else if y = Str.ofString "charset" then some chv else if y = Str.ofString "text" then some (.str ⟨γ.cs.toArray⟩ t) else u y
noncomputable def b8L : List UInt8 := [56, 98, 105, 116]
noncomputable def bxL : List UInt8 := [120, 45, 119, 97, 121]
noncomputable def wordOf (way : Str) : Str := if way = Str.ofString "b" then Str.ofString "base64" else if way = Str.ofString "q" then Str.ofString "quoted-printable" else Str.ofString "7bit"
noncomputable def wordL (told : Option (List UInt8)) (way : Str) : Str := if told = some b8L then Str.ofString "8bit" else if told = some bxL then Str.ofString "x-way" else wordOf way
theorem word_fit : ∀ p ∈ wayL, wordL p.1 p.2 = encW (fldsOf p.1) := by decide +kernel
noncomputable def P13 (w : World) : SegP := fun _ L m news => ∃ (γ : Gh) (u : Str → Option Value) (t ts tw to tb td tl twd : Tok) (chv tv : Value) (oS : Obj) (fl px kx : Addr) (fs : List Value) (led : Led), GhOk γ ∧ oS.data = .cell (some (.str γ.so ts)) ∧ news = (L + 1 + 1, oS) :: led ∧
  LedIs led (fun h => FieldsAt h fl fs (fldsOf γ.told) ∧ PartAt h px (partD γ kx) ∧ KindAt w h kx γ.ch) ∧
  m = fun y => if y = Str.ofString "word" then some (.str (encW (fldsOf γ.told)) twd) else if y = Str.ofString "part" then some (.ref px) else if y = Str.ofString "fields" then some (.ref fl) else if y = Str.ofString "data" then some (.bytes (dataOf γ).toArray td) else if y = Str.ofString "lead" then some (.bytes leadL.toArray tl) else if y = Str.ofString "body" then some (.bytes (bodyOf γ).toArray tb) else if y = Str.ofString "octets" then some (.bytes (octOf γ).toArray to) else if y = Str.ofString "way" then some (.str γ.way tw) else if y = Str.ofString "told_way" then some tv else if y = Str.ofString "charset" then some chv else if y = Str.ofString "text" then some (.str ⟨γ.cs.toArray⟩ t) else u y
end Mine
end
section
open PySem PySem.W PySem.Calls PyProof.Rows
set_option maxRecDepth 100000
namespace Mine
local macro_rules
  | `(tactic| walk_at "binaryOp Add bytes bytes") => `(tactic| refine Mine.stop ?_)
set_option maxHeartbeats 8000000 in
theorem seg6 {w : World} : Seg w 10 6 2 P6 P8 := by
  refine @seg_one _ _ _ _ [_, _] _ _ rfl ?_
  intro fa cdv dp un gd outer A₀ base g' L' h tk s' p loose mean mg mb m news B' F' X' N' T' hd hu hpre
  dsimp only [lawSc, lawScp] at *
  obtain ⟨γ, u, t, ts, tw, to, tb, chv, tv, oS, hγ, hch, htv, hoS, rfl, rfl⟩ := hpre
  have hbl := bodyOf_len hγ
  k_steps
  with_reducible refine Stop.go ?_
  refine my_add (b := leadL) (c := bodyOf γ) (by decide) (by omega) fun t6 k6 => ?_
  k_steps
  with_reducible refine Stop.go ?_
  refine my_add (b := leadL ++ bodyOf γ) (c := tailL) (by rw [List.length_append]; show 9 + _ ≤ 1000; omega) (by decide) fun t7 k7 => ?_
  k_steps
  exact SegPost.intro (by assumption) (by assumption) (fun p hp => hp) ⟨γ, u, _, _, _, _, _, _, _, _, _, _, hγ, hch, htv, hoS, rfl, rfl⟩
end Mine
end
section
open PySem PySem.W PySem.Calls PyProof.Rows
set_option maxRecDepth 100000
namespace Mine
noncomputable def dueOf (γ : Gh) : List Nat := γ.cs.map fun c => if γ.so = Str.ofString "a" ∧ c = 233 then 65533 else c
noncomputable def usA : Str := Str.ofString "us-ascii"
/-- the lines of octets, as split gives them -/
noncomputable def splitN (b : List UInt8) : Int := ((splitZ b.toArray #[10]).length : Int) - (if (splitZ b.toArray #[10]).getLastD #[] = #[] then 1 else 0)
theorem ch_sizes : ∀ p ∈ chL, (p.1.getD usA).cps.size ≤ 1000 ∧ ∀ c ∈ (p.1.getD usA).cps.toList, c < 1000 := by decide +kernel
theorem ch_fit : ∀ p ∈ chL, (p.2 = Str.ofString "u" ∧ ∃ t, valueAt namesK (lowerS (p.1.getD usA)) = some (.str (Str.ofString "utf-8") t)) ∨ (p.2 = Str.ofString "l" ∧ ∃ t, valueAt namesK (lowerS (p.1.getD usA)) = some (.str (Str.ofString "iso-8859-1") t)) ∨
    (p.2 = Str.ofString "a" ∧ ((∃ t, valueAt namesK (lowerS (p.1.getD usA)) = some (.str (Str.ofString "us-ascii") t)) ∨ valueAt namesK (lowerS (p.1.getD usA)) = none)) := by
  intro p hp
  unfold chL at hp
  simp only [List.mem_cons, List.not_mem_nil, or_false] at hp
  rcases hp with rfl | rfl | rfl | rfl | rfl | rfl | rfl | rfl
  · exact .inl ⟨rfl, 322, by kernel_rfl⟩
  · exact .inl ⟨rfl, 322, by kernel_rfl⟩
  · exact .inr (.inl ⟨rfl, 320, by kernel_rfl⟩)
  · exact .inr (.inl ⟨rfl, 320, by kernel_rfl⟩)
  · exact .inr (.inr ⟨rfl, .inl ⟨318, by kernel_rfl⟩⟩)
  · exact .inr (.inr ⟨rfl, .inr (by kernel_rfl)⟩)
  · exact .inr (.inr ⟨rfl, .inl ⟨318, by kernel_rfl⟩⟩)
  · exact .inr (.inr ⟨rfl, .inl ⟨318, by kernel_rfl⟩⟩)
theorem sp_fit : ∀ b : List UInt8, (∀ x ∈ sp b, x.length ≤ b.length) ∧ (sp b).length ≤ b.length + 1
  | [] => ⟨fun x hx => by rw [List.mem_singleton.mp (show x ∈ [[]] from hx)]; exact Nat.le_refl _, Nat.le_refl _⟩
  | c :: r => by
    obtain ⟨h1, h2⟩ := sp_fit r
    by_cases hc : c = 10
    · rw [sp_hit hc]
      refine ⟨fun x hx => ?_, by simp only [List.length_cons]; omega⟩
      rcases List.mem_cons.mp hx with rfl | hx
      · exact Nat.zero_le _
      · have := h1 x hx; rw [List.length_cons]; omega
    · rw [sp, if_neg hc]
      cases hs : sp r with
      | nil => exact absurd hs (sp_ne r)
      | cons a t =>
        rw [hs] at h1 h2
        refine ⟨fun x hx => ?_, by simp only [List.length_cons] at h2 ⊢; omega⟩
        rcases List.mem_cons.mp hx with rfl | hx
        · have := h1 a (List.Mem.head _); simp only [List.length_cons]; omega
        · have := h1 x (List.Mem.tail _ hx); rw [List.length_cons]; omega
theorem getD_drop {b : List UInt8} {k : Nat} {c : UInt8} {r : List UInt8} (h : b.drop k = c :: r) : k < b.length ∧ b.getD k 0 = c ∧ b.drop (k + 1) = r := by
  have h1 : b[k]? = some c := by
    have : (b.drop k)[0]? = some c := by rw [h]; rfl
    simpa using this
  refine ⟨(List.getElem?_eq_some_iff.mp h1).1, by rw [List.getD_eq_getElem?_getD, h1]; rfl, by rw [← List.drop_drop, h]; rfl⟩
theorem reads_end {ch : Str} {b : List UInt8} {k : Nat} (h : b.drop k = []) (hk : k ≤ b.length) : Reads ch b k [] := by
  have : b.length ≤ k := List.drop_eq_nil_iff.mp h
  have e : k = b.length := by omega
  rw [e]
  exact .done
theorem u8 {c : Nat} (h : c < 256) : (c.toUInt8).toNat = c := by rw [Nat.toUInt8_eq, UInt8.toNat_ofNat_of_lt' h]
theorem code_nat (c : Nat) : (if (0 : Int) ≤ (c : Int) then ((c : Int)).toNat else 65533) = c := by rw [if_pos (by omega), Int.toNat_natCast]
theorem reads_u : ∀ (cs : List Nat) (b : List UInt8) (k : Nat), (∀ c ∈ cs, c < 128 ∨ c = 233) → k ≤ b.length → b.drop k = cs.flatMap encU → Reads (Str.ofString "utf-8") b k cs
  | [], b, k, _, hk, h => reads_end h hk
  | c :: r, b, k, hc, hk, h => by
    have hr := fun x hx => hc x (List.Mem.tail _ hx)
    rw [List.flatMap_cons] at h
    rcases hc c (List.Mem.head _) with h1 | h1
    · have e : encU c = [c.toUInt8] := by unfold encU; rw [if_neg (by omega)]
      rw [e] at h
      obtain ⟨q1, q2, q3⟩ := getD_drop h
      have q4 : (b.getD k 0).toNat = c := by rw [q2]; exact u8 (by omega)
      have key := Reads.sign (len := 1) q1 (SignIs.u1 q1 (by rw [q4]; exact h1)) (reads_u r b (k + 1) hr q1 q3)
      rw [q4, code_nat] at key
      exact key
    · subst h1
      have e : encU 233 = [195, 169] := rfl
      rw [e] at h
      obtain ⟨q1, q2, q3⟩ := getD_drop h
      obtain ⟨p1, p2, p3⟩ := getD_drop q3
      exact Reads.sign (len := 2) q1 (SignIs.u2 p1 q2 p2) (reads_u r b (k + 2) hr p1 p3)
theorem reads_l : ∀ (cs : List Nat) (b : List UInt8) (k : Nat), (∀ c ∈ cs, c < 128 ∨ c = 233) → k ≤ b.length → b.drop k = cs.map Nat.toUInt8 → Reads (Str.ofString "iso-8859-1") b k cs
  | [], b, k, _, hk, h => reads_end h hk
  | c :: r, b, k, hc, hk, h => by
    have hr := fun x hx => hc x (List.Mem.tail _ hx)
    rw [List.map_cons] at h
    obtain ⟨q1, q2, q3⟩ := getD_drop h
    have q4 : (b.getD k 0).toNat = c := by rw [q2]; exact u8 (by have := hc c (List.Mem.head _); omega)
    have key := Reads.sign (len := 1) q1 (SignIs.l q1) (reads_l r b (k + 1) hr q1 q3)
    rw [q4, code_nat] at key
    exact key
theorem reads_a : ∀ (cs : List Nat) (b : List UInt8) (k : Nat), (∀ c ∈ cs, c < 128 ∨ c = 233) → k ≤ b.length → b.drop k = cs.map Nat.toUInt8 → Reads (Str.ofString "us-ascii") b k (cs.map fun c => if c = 233 then 65533 else c)
  | [], b, k, _, hk, h => reads_end h hk
  | c :: r, b, k, hc, hk, h => by
    have hr := fun x hx => hc x (List.Mem.tail _ hx)
    rw [List.map_cons] at h
    obtain ⟨q1, q2, q3⟩ := getD_drop h
    have q4 : (b.getD k 0).toNat = c := by rw [q2]; exact u8 (by have := hc c (List.Mem.head _); omega)
    rw [List.map_cons]
    rcases hc c (List.Mem.head _) with h1 | h1
    · have key := Reads.sign (len := 1) q1 (SignIs.a1 q1 (by rw [q4]; exact h1)) (reads_a r b (k + 1) hr q1 q3)
      rw [q4, code_nat] at key
      rw [if_neg (by omega)]
      exact key
    · rw [if_pos h1]
      exact Reads.sign (len := 1) q1 (SignIs.a2 q1 (by rw [q4]; omega)) (reads_a r b (k + 1) hr q1 q3)
theorem undo_law {γ : Gh} (h : GhOk γ) : Undo (bodyOf γ) (octOf γ) (encW (fldsOf γ.told)) := by
  have hfit := word_fit _ h.way
  dsimp only at hfit
  have hcase : (γ.way = Str.ofString "b" ∧ wordL γ.told γ.way = Str.ofString "base64") ∨ (γ.way = Str.ofString "q" ∧ wordL γ.told γ.way = Str.ofString "quoted-printable") ∨ (γ.way = Str.ofString "" ∧ (wordL γ.told γ.way == Str.ofString "base64") = false ∧ (wordL γ.told γ.way == Str.ofString "quoted-printable") = false) := by
    have key : ∀ p ∈ wayL, (p.2 = Str.ofString "b" ∧ wordL p.1 p.2 = Str.ofString "base64") ∨ (p.2 = Str.ofString "q" ∧ wordL p.1 p.2 = Str.ofString "quoted-printable") ∨ (p.2 = Str.ofString "" ∧ (wordL p.1 p.2 == Str.ofString "base64") = false ∧ (wordL p.1 p.2 == Str.ofString "quoted-printable") = false) := by decide +kernel
    exact key _ h.way
  rw [← hfit]
  rcases hcase with ⟨e, hw⟩ | ⟨e, hw⟩ | ⟨e, h1, h2⟩
  · have hb : bodyOf γ = e64 (octOf γ) := by unfold bodyOf; rw [if_pos e]
    rw [hw, hb]
    exact .b64 ⟨sx (octOf γ), padN (octOf γ), e64_sx _, sx_lt _, dec_sx _⟩
  · have hb : bodyOf γ = (octOf γ).flatMap quo := by unfold bodyOf; rw [if_neg (by rw [e]; decide), if_pos e]
    rw [hw, hb]
    exact .qp ⟨findZ_all fun c hc => (quo_mem c hc).1, strip_none fun c hc => (quo_mem c hc).2, quo_last, quo_len _, fun k hk => quoted_ok hk⟩
  · have hb : bodyOf γ = octOf γ := by unfold bodyOf; rw [if_neg (by rw [e]; decide), if_neg (by rw [e]; decide)]
    exact .no h1 h2 hb.symm
theorem slice_law {γ : Gh} (_h : GhOk γ) : sliceZ (dataOf γ) (some ((9 : Nat) : Int)) (some ((9 + (bodyOf γ).length : Nat) : Int)) = bodyOf γ := by
  have hl : (dataOf γ).length = 14 + (bodyOf γ).length := by unfold dataOf; rw [List.length_append, List.length_append]; show 9 + _ + 5 = _; omega
  unfold sliceZ
  show ((dataOf γ).drop (clipAt (dataOf γ).length ((9 : Nat) : Int))).take (clipAt (dataOf γ).length ((9 + (bodyOf γ).length : Nat) : Int) - clipAt (dataOf γ).length ((9 : Nat) : Int)) = _
  rw [clipAt_nat, clipAt_nat, Nat.min_eq_left (by omega), Nat.min_eq_left (by omega)]
  have e : 9 + (bodyOf γ).length - 9 = (bodyOf γ).length := by omega
  rw [e]
  unfold dataOf
  rw [List.append_assoc]
  have e2 : (leadL ++ (bodyOf γ ++ tailL)).drop 9 = bodyOf γ ++ tailL := rfl
  rw [e2, List.take_left]
theorem data_at {γ : Gh} : ∀ j, j < (bodyOf γ).length → (dataOf γ)[9 + j]? = (bodyOf γ)[j]? := by
  intro j hj
  unfold dataOf
  rw [List.append_assoc, List.getElem?_append_right (by show 9 ≤ 9 + j; omega)]
  have e : 9 + j - leadL.length = j := by show 9 + j - 9 = j; omega
  rw [e, List.getElem?_append_left hj]
theorem split_law (b : List UInt8) (h : b.length ≤ 1000) : (∀ x ∈ splitZ b.toArray #[10], x.size ≤ sizeLine) ∧ (splitZ b.toArray #[10]).length ≤ 1001 ∧ splitZ b.toArray #[10] ≠ [] := by
  rw [split_is]
  refine ⟨fun x hx => ?_, ?_, ?_⟩
  · obtain ⟨y, hy, rfl⟩ := List.mem_map.mp hx
    have := (sp_fit b).1 y hy
    rw [List.size_toArray, sizeLine_eq]
    omega
  · rw [List.length_map]
    have := (sp_fit b).2
    omega
  · intro e
    exact sp_ne b (List.map_eq_nil_iff.mp e)
theorem lines_law {γ : Gh} (_h : GhOk γ) : ∃ N : Nat, LinesN (dataOf γ) (9 + (bodyOf γ).length) 9 N ∧ (N : Int) = splitN (bodyOf γ) := by
  refine ⟨cnt (bodyOf γ), lines_go (dataOf γ) _ (by unfold dataOf; rw [List.length_append, List.length_append]; show _ ≤ 9 + _ + 5; omega) _ (bodyOf γ) 9 rfl rfl data_at, ?_⟩
  unfold splitN cnt
  rw [split_is, List.length_map]
  have hn := sp_ne (bodyOf γ)
  have e : ((sp (bodyOf γ)).map List.toArray).getLastD #[] = ((sp (bodyOf γ)).getLastD []).toArray := by
    rw [List.getLastD_eq_getLast?, List.getLastD_eq_getLast?, List.getLast?_map]
    cases (sp (bodyOf γ)).getLast? <;> rfl
  rw [e]
  have hp : 0 < (sp (bodyOf γ)).length := List.length_pos_iff.mpr hn
  by_cases hq : (sp (bodyOf γ)).getLastD [] = []
  · rw [if_pos hq, if_pos (by rw [hq])]
    omega
  · rw [if_neg hq, if_neg (fun h => hq (by simpa using h))]
    omega
theorem chars_law {γ : Gh} (h : GhOk γ) : ∃ r, (γ.ch.getD usA).cps.size ≤ 1000 ∧ (∀ c ∈ (γ.ch.getD usA).cps.toList, c < 1000) ∧ ((∃ tk, valueAt namesK (lowerS (γ.ch.getD usA)) = some (.str r tk)) ∨ (valueAt namesK (lowerS (γ.ch.getD usA)) = none ∧ r = Str.ofString "")) ∧
    CharsetIs (charsetOf r) ∧ Reads (charsetOf r) (octOf γ) 0 (dueOf γ) := by
  obtain ⟨hx, hs⟩ := ch_sizes _ h.ch
  have hlt := signs_lt h
  have hfit := ch_fit _ h.ch
  dsimp only at hfit
  rcases hfit with ⟨e, t, hv⟩ | ⟨e, t, hv⟩ | ⟨e, hv⟩
  · refine ⟨_, hx, hs, .inl ⟨t, hv⟩, ?_, ?_⟩
    · rw [show charsetOf (Str.ofString "utf-8") = Str.ofString "utf-8" from by decide]; exact .u
    · rw [show charsetOf (Str.ofString "utf-8") = Str.ofString "utf-8" from by decide]
      have e1 : octOf γ = γ.cs.flatMap encU := by unfold octOf; rw [if_pos e]
      have e2 : dueOf γ = γ.cs := by
        unfold dueOf
        conv => rhs; rw [← List.map_id γ.cs]
        refine List.map_congr_left fun c _ => ?_
        rw [if_neg (fun h => absurd (e.symm.trans h.1) (by decide))]; rfl
      rw [e1, e2]
      exact reads_u γ.cs _ 0 hlt (by omega) rfl
  · refine ⟨_, hx, hs, .inl ⟨t, hv⟩, ?_, ?_⟩
    · rw [show charsetOf (Str.ofString "iso-8859-1") = Str.ofString "iso-8859-1" from by decide]; exact .l
    · rw [show charsetOf (Str.ofString "iso-8859-1") = Str.ofString "iso-8859-1" from by decide]
      have e1 : octOf γ = γ.cs.map Nat.toUInt8 := by unfold octOf; rw [if_neg (by rw [e]; decide)]
      have e2 : dueOf γ = γ.cs := by
        unfold dueOf
        conv => rhs; rw [← List.map_id γ.cs]
        refine List.map_congr_left fun c _ => ?_
        rw [if_neg (fun h => absurd (e.symm.trans h.1) (by decide))]; rfl
      rw [e1, e2]
      exact reads_l γ.cs _ 0 hlt (by omega) rfl
  · obtain ⟨r, hr, hrc⟩ : ∃ r, ((∃ tk, valueAt namesK (lowerS (γ.ch.getD usA)) = some (.str r tk)) ∨ (valueAt namesK (lowerS (γ.ch.getD usA)) = none ∧ r = Str.ofString "")) ∧ charsetOf r = Str.ofString "us-ascii" := by
      rcases hv with ⟨t, hv⟩ | hv
      · exact ⟨_, .inl ⟨t, hv⟩, by decide⟩
      · exact ⟨_, .inr ⟨hv, rfl⟩, by decide⟩
    refine ⟨r, hx, hs, hr, ?_, ?_⟩
    · rw [hrc]; exact .a
    · rw [hrc]
      have e1 : octOf γ = γ.cs.map Nat.toUInt8 := by unfold octOf; rw [if_neg (by rw [e]; decide)]
      have e2 : dueOf γ = γ.cs.map fun c => if c = 233 then 65533 else c := by
        unfold dueOf
        refine List.map_congr_left fun c _ => ?_
        by_cases hc : c = 233
        · rw [if_pos ⟨e, hc⟩, if_pos hc]
        · rw [if_neg (fun h => hc h.2), if_neg hc]
      rw [e1, e2]
      exact reads_a γ.cs _ 0 hlt (by omega) rfl
noncomputable def P15 (w : World) : SegP := fun _ L m news => ∃ (γ : Gh) (u : Str → Option Value) (t ts tw to tb td tl twd tdu : Tok) (chv tv : Value) (oS : Obj) (fl px kx : Addr) (fs : List Value) (led : Led), GhOk γ ∧ oS.data = .cell (some (.str γ.so ts)) ∧ news = (L + 1 + 1, oS) :: led ∧
  LedIs led (fun h => FieldsAt h fl fs (fldsOf γ.told) ∧ PartAt h px (partD γ kx) ∧ KindAt w h kx γ.ch) ∧
  m = fun y => if y = Str.ofString "due" then some (.str ⟨(dueOf γ).toArray⟩ tdu) else if y = Str.ofString "word" then some (.str (encW (fldsOf γ.told)) twd) else if y = Str.ofString "part" then some (.ref px) else if y = Str.ofString "fields" then some (.ref fl) else if y = Str.ofString "data" then some (.bytes (dataOf γ).toArray td) else if y = Str.ofString "lead" then some (.bytes leadL.toArray tl) else if y = Str.ofString "body" then some (.bytes (bodyOf γ).toArray tb) else if y = Str.ofString "octets" then some (.bytes (octOf γ).toArray to) else if y = Str.ofString "way" then some (.str γ.way tw) else if y = Str.ofString "told_way" then some tv else if y = Str.ofString "charset" then some chv else if y = Str.ofString "text" then some (.str ⟨γ.cs.toArray⟩ t) else u y
end Mine
end
section
open PySem PySem.W PySem.Calls PyProof.Rows
set_option maxRecDepth 100000
namespace Mine
theorem roll {α : Type} {a : α} {r all : List α} (n : Nat) (e : all = all.take n ++ a :: r) : ∀ x ∈ a :: (all.take n ++ r), x ∈ all := by
  intro x hx
  rw [e]
  rw [List.mem_append, List.mem_cons]
  rcases List.mem_cons.mp hx with h | h
  · exact .inr (.inl h)
  · rcases List.mem_append.mp h with h | h
    · exact .inl h
    · exact .inr (.inr h)
theorem one_at {x : Str} {t t5 : Tok} : valueAt (strPairs [(.str (Str.ofString "charset") t, .str x t5)]) (Str.ofString "charset") = some (.str x t5) := by kernel_rfl
set_option maxHeartbeats 8000000 in
theorem seg10 {w : World} : Seg w 10 10 1 P10 (P11 w) := by
  refine @seg_one _ _ _ _ [_] _ _ rfl ?_
  intro fa cdv dp un gd outer A₀ base g' L' h tk s' p loose mean mg mb m news B' F' X' N' T' hd hu hpre
  dsimp only [lawSc, lawScp] at *
  obtain ⟨γ, u, t, ts, tw, to, tb, td, tl, chv, tv, oS, fl, fs, led, hγ, hch, htv, hoS, rfl, hled, rfl⟩ := hpre
  have hbl := bodyOf_len hγ
  have hsz : (bodyOf γ).toArray.size = (bodyOf γ).length := by simp
  have e0 : (leadL.toArray.size : Int) = ((9 : Nat) : Int) := rfl
  have e1 : (leadL.toArray.size : Int) + ((bodyOf γ).toArray.size : Int) = ((9 + (bodyOf γ).length : Nat) : Int) := by rw [hsz, e0, Int.natCast_add]
  cases hc : γ.ch with
  | none =>
    have hch1 := hch
    rw [hc] at hch
    have e9 : chv = .none := hch
    subst e9
    k_steps
    simp only [e1, e0]
    rename Obj.IsDictOf (strKind _ _) _ _ => hdE
    rename (_ == sysModules) = false => lo
    rename Fr _ _ _ _ => nF
    rename News _ _ _ _ => nE
    refine make_use (fun x dx hlt hx => kind_init hx hlt) (by k_is) (by k_is) (by k_is) B' nF X' nE T' rfl (by omega) (by omega) ?_
    rintro kx kdx nwk hk tkk lk lkx ⟨Dk, nk, rfl, gk⟩ Fk Nk
    k_lt lk
    k_steps
    refine make_use (fun x dx hlt hx => part_init (fs := fs) hx hlt (flds_ok hγ) (flds_len _) (fun h₀ L h N => hled h₀ L h (fun p hp => N p (List.Mem.tail _ (List.Mem.tail _ (List.Mem.tail _ (List.Mem.tail _ hp))))))) (by k_is) (by k_is) (by k_is) B' Fk X' Nk T' rfl (by omega) (by omega) ?_
    rintro px pdx nwp hp tkp lp lpx ⟨Dp, np, we, rfl, hw, g1, g2, ⟨te, g3⟩, g4⟩ Fp Np
    k_lt lp
    k_steps
    rename Fr _ _ _ _ => nF2
    rename News _ _ _ _ => nE2
    refine SegPost.intro nF2 nE2 (roll 5 rfl) ⟨γ, u, _, _, _, _, _, _, _, _, _, _, fl, px, kx, fs, _, hγ, hch1, htv, hoS, rfl, ?_, rfl⟩
    intro h₀ L h N
    dsimp only [List.take, List.cons_append, List.nil_append] at N
    refine ⟨hled h₀ L h (fun p hp => N p (List.Mem.tail _ (List.Mem.tail _ (List.Mem.tail _ (List.Mem.tail _ (List.Mem.tail _ hp)))))), ⟨_, Dp, np, _, _, te, InstAt.of_news N (by k_mem) (by k_mem), g1, g2, ?_, g4⟩, ⟨_, Dk, nk, _, _, _, 0, InstAt.of_news N (by k_mem) (by k_mem), gk, (N _ (List.Mem.tail _ (List.Mem.tail _ (List.Mem.tail _ (List.Mem.tail _ (List.Mem.head _)))))).1, lo, hdE, ?_⟩⟩
    · rw [g3, hw.eq]; rfl
    · rw [hc]; rfl
  | some x =>
    have hch1 := hch
    rw [hc] at hch
    obtain ⟨t5, e9⟩ : ∃ t, chv = .str x t := hch
    subst e9
    k_steps
    simp only [e1, e0]
    rename Obj.IsDictOf (strKind _ _) _ _ => hdE
    rename (_ == sysModules) = false => lo
    rename Fr _ _ _ _ => nF
    rename News _ _ _ _ => nE
    refine make_use (fun x dx hlt hx => kind_init hx hlt) (by k_is) (by k_is) (by k_is) B' nF X' nE T' rfl (by omega) (by omega) ?_
    rintro kx kdx nwk hk tkk lk lkx ⟨Dk, nk, rfl, gk⟩ Fk Nk
    k_lt lk
    k_steps
    refine make_use (fun x dx hlt hx => part_init (fs := fs) hx hlt (flds_ok hγ) (flds_len _) (fun h₀ L h N => hled h₀ L h (fun p hp => N p (List.Mem.tail _ (List.Mem.tail _ (List.Mem.tail _ (List.Mem.tail _ hp))))))) (by k_is) (by k_is) (by k_is) B' Fk X' Nk T' rfl (by omega) (by omega) ?_
    rintro px pdx nwp hp tkp lp lpx ⟨Dp, np, we, rfl, hw, g1, g2, ⟨te, g3⟩, g4⟩ Fp Np
    k_lt lp
    k_steps
    rename Fr _ _ _ _ => nF2
    rename News _ _ _ _ => nE2
    refine SegPost.intro nF2 nE2 (roll 5 rfl) ⟨γ, u, _, _, _, _, _, _, _, _, _, _, fl, px, kx, fs, _, hγ, hch1, htv, hoS, rfl, ?_, rfl⟩
    intro h₀ L h N
    dsimp only [List.take, List.cons_append, List.nil_append] at N
    refine ⟨hled h₀ L h (fun p hp => N p (List.Mem.tail _ (List.Mem.tail _ (List.Mem.tail _ (List.Mem.tail _ (List.Mem.tail _ hp)))))), ⟨_, Dp, np, _, _, te, InstAt.of_news N (by k_mem) (by k_mem), g1, g2, ?_, g4⟩, ⟨_, Dk, nk, _, _, _, t5, InstAt.of_news N (by k_mem) (by k_mem), gk, (N _ (List.Mem.tail _ (List.Mem.tail _ (List.Mem.tail _ (List.Mem.tail _ (List.Mem.head _)))))).1, lo, hdE, ?_⟩⟩
    · rw [g3, hw.eq]; rfl
    · rw [hc]; exact one_at
end Mine
end
section
open PySem PySem.W PySem.Calls PyProof.Rows
set_option maxRecDepth 100000
namespace Mine
local macro_rules
  | `(tactic| walk_at "call builtin:dict.get") => `(tactic| refine Mine.stop ?_)
theorem dict2 {a b : Value} (ta tb : Tok) : valueAt (strPairs [(.str (Str.ofString "b") ta, a), (.str (Str.ofString "q") tb, b)]) (Str.ofString "b") = some a ∧ valueAt (strPairs [(.str (Str.ofString "b") ta, a), (.str (Str.ofString "q") tb, b)]) (Str.ofString "q") = some b ∧ valueAt (strPairs [(.str (Str.ofString "b") ta, a), (.str (Str.ofString "q") tb, b)]) (Str.ofString "") = none := ⟨by kernel_rfl, by kernel_rfl, by kernel_rfl⟩
theorem skip {α : Type} {all : List α} (n : Nat) : ∀ x ∈ all.drop n, x ∈ all := fun x hx => List.mem_of_mem_drop hx
theorem any2 {o : Option (List UInt8)} {t u : Tok} : (#[Value.bytes #[56, 98, 105, 116] t, Value.bytes #[120, 45, 119, 97, 121] u] : Array Value).any (isB o) = (sameB o b8L || sameB o bxL) := by
  rw [← Array.any_toList]
  show (isB o _ || (isB o _ || false)) = _
  rw [Bool.or_false]
  rfl
theorem eqs {A : Around} {s : Shared} {o : Option (List UInt8)} {tv : Value} (h : ValB o tv) {b c : List UInt8} {t u : Tok} : ∀ y, y ∈ (#[.bytes b.toArray t, .bytes c.toArray u] : Array Value) → SeqAt.EqAt A s y tv (isB o y) := by
  intro y hy
  have hy2 : y = .bytes b.toArray t ∨ y = .bytes c.toArray u := by simpa using hy
  cases o with
  | none =>
    have e : tv = .none := h
    subst e
    rcases hy2 with rfl | rfl
    · exact eqAt_none _ _
    · exact eqAt_none _ _
  | some d =>
    obtain ⟨t5, e⟩ : ∃ t, tv = .bytes d.toArray t := h
    subst e
    rcases hy2 with rfl | rfl
    · exact eqAt_bytes _ _ _ _
    · exact eqAt_bytes _ _ _ _
set_option maxHeartbeats 8000000 in
theorem seg11 {w : World} : Seg w 10 11 2 (P11 w) (P13 w) := by
  refine @seg_one _ _ _ _ [_, _] _ _ rfl ?_
  intro fa cdv dp un gd outer A₀ base g' L' h tk s' p loose mean mg mb m news B' F' X' N' T' hd hu hpre
  dsimp only [lawSc, lawScp] at *
  obtain ⟨γ, u, t, ts, tw, to, tb, td, tl, chv, tv, oS, fl, px, kx, fs, led, hγ, hch, htv, hoS, rfl, hled, rfl⟩ := hpre
  have hfit := word_fit _ hγ.way
  dsimp only at hfit
  k_steps
  rename Obj.IsDictOf (strKind _ _) _ _ => hdE
  rename (_ == sysModules) = false => lo
  rename News _ _ _ _ => nE
  generalize hkk : strPairs _ = kk at hdE
  have hv : ∃ x, valueAt kk γ.way = x ∧ ∀ tt, ∃ t, x.getD (.str (Str.ofString "7bit") tt) = .str (wordOf γ.way) t := by
    rcases way_cases hγ with e | e | e
    · rw [e, ← hkk]
      exact ⟨_, (dict2 _ _).1, fun tt => ⟨_, rfl⟩⟩
    · rw [e, ← hkk]
      exact ⟨_, (dict2 _ _).2.1, fun tt => ⟨_, rfl⟩⟩
    · rw [e, ← hkk]
      exact ⟨_, (dict2 _ _).2.2, fun tt => ⟨_, rfl⟩⟩
  obtain ⟨x, hx, hxt⟩ := hv
  with_reducible refine Stop.go ?_
  refine kdg_get2 (knd := strKind _ _) nE (List.Mem.head _) hdE lo (strKind_is _ _ _ _) _ hx ?_
  generalize hg : x.getD (.str (Str.ofString "7bit") _) = gv
  obtain ⟨t5, rfl⟩ : ∃ t5, gv = .str (wordOf γ.way) t5 := hg ▸ hxt _
  clear hg hxt hx hkk
  k_steps
  rename News _ _ _ _ => nE2
  refine SeqAt.in_tupleAt (isB γ.told) ⟨_, (nE2 _ (List.Mem.head _)).1, rfl, _, rfl⟩ (eqs (b := b8L) (c := bxL) htv) ?_
  rw [any2]
  by_cases h8 : γ.told = some b8L
  · have hw : wordL γ.told γ.way = Str.ofString "8bit" := by unfold wordL; rw [if_pos h8]
    have hr : (sameB γ.told b8L || sameB γ.told bxL) = true := by rw [h8]; decide
    rw [hr]
    rw [h8] at htv
    obtain ⟨t6, e6⟩ : ∃ t, tv = .bytes b8L.toArray t := htv
    subst e6
    k_steps
    rename Fr _ _ _ _ => nF
    rename News _ _ _ _ => nE9
    rw [dup_names] at nF
    rw [hw.symm.trans hfit] at nF
    refine SegPost.intro nF nE9 (skip 2) ⟨γ, u, _, _, _, _, _, _, _, _, _, _, _, fl, px, kx, fs, _, hγ, hoS, rfl, hled, rfl⟩
  · by_cases hx : γ.told = some bxL
    · have hw : wordL γ.told γ.way = Str.ofString "x-way" := by unfold wordL; rw [if_neg h8, if_pos hx]
      have hr : (sameB γ.told b8L || sameB γ.told bxL) = true := by rw [hx]; decide
      rw [hr]
      rw [hx] at htv
      obtain ⟨t6, e6⟩ : ∃ t, tv = .bytes bxL.toArray t := htv
      subst e6
      k_steps
      rename Fr _ _ _ _ => nF
      rename News _ _ _ _ => nE9
      rw [dup_names] at nF
      rw [hw.symm.trans hfit] at nF
      refine SegPost.intro nF nE9 (skip 2) ⟨γ, u, _, _, _, _, _, _, _, _, _, _, _, fl, px, kx, fs, _, hγ, hoS, rfl, hled, rfl⟩
    · have hw : wordL γ.told γ.way = wordOf γ.way := by unfold wordL; rw [if_neg h8, if_neg hx]
      have hr : (sameB γ.told b8L || sameB γ.told bxL) = false := by
        cases ht : γ.told with
        | none => rfl
        | some d =>
          rw [ht] at h8 hx
          show (decide (b8L = d) || decide (bxL = d)) = false
          rw [decide_eq_false (fun e => h8 (by rw [e])), decide_eq_false (fun e => hx (by rw [e]))]
          rfl
      rw [hr]
      k_steps
      rename Fr _ _ _ _ => nF
      rename News _ _ _ _ => nE9
      rw [hw.symm.trans hfit] at nF
      refine SegPost.intro nF nE9 (skip 2) ⟨γ, u, _, _, _, _, _, _, _, _, _, _, _, fl, px, kx, fs, _, hγ, hoS, rfl, hled, rfl⟩
end Mine
end
section
open PySem PySem.W PySem.Calls PyProof.Rows
set_option maxRecDepth 100000
namespace Mine
set_option maxHeartbeats 8000000 in
theorem seg8 {w : World} : Seg w 10 8 2 P8 P10 := by
  refine @seg_one _ _ _ _ [_, _] _ _ rfl ?_
  intro fa cdv dp un gd outer A₀ base g' L' h tk s' p loose mean mg mb m news B' F' X' N' T' hd hu hpre
  dsimp only [lawSc, lawScp] at *
  obtain ⟨γ, u, t, ts, tw, to, tb, td, tl, chv, tv, oS, hγ, hch, htv, hoS, rfl, rfl⟩ := hpre
  cases htold : γ.told with
  | none =>
    have htv1 := htv
    rw [htold] at htv
    have htv2 : tv = .none := htv
    subst htv2
    k_steps
    rename Fr _ _ _ _ => nF
    rename News _ _ _ _ => nE
    refine make_use (fun x dx hlt hx => field_init hx hlt) (by k_is) (by k_is) (by k_is) B' nF X' nE T' rfl (by omega) (by omega) ?_
    rintro x1 dx1 nw1 h1 tk1 l1 lx1 ⟨D1, n1, rfl, ga1, gb1, gc1⟩ F1 N1
    k_lt l1
    k_steps
    rename News _ _ _ _ => nE
    refine SegPost.introR (by assumption) nE (L' + 1 + 1, oS) (by rfl) ⟨γ, u, _, _, _, _, _, _, _, _, _, _, _, [.ref x1], _, hγ, hch, htv1, hoS, rfl, ?_, rfl⟩
    intro h₀ L h N
    dsimp only [List.dropLast] at N
    rw [htold]
    exact fields1 (News.isList N (by k_mem)) (fieldAt_of N (by k_mem) (by k_mem) ga1 gb1 gc1)
  | some b =>
    have htv1 := htv
    rw [htold] at htv
    obtain ⟨t5, htv2⟩ : ∃ t, tv = .bytes b.toArray t := htv
    subst htv2
    k_steps
    rename Fr _ _ _ _ => nF
    rename News _ _ _ _ => nE
    refine make_use (fun x dx hlt hx => field_init hx hlt) (by k_is) (by k_is) (by k_is) B' nF X' nE T' rfl (by omega) (by omega) ?_
    rintro x1 dx1 nw1 h1 tk1 l1 lx1 ⟨D1, n1, rfl, ga1, gb1, gc1⟩ F1 N1
    k_lt l1
    k_steps
    rename Fr _ _ _ _ => nF
    rename News _ _ _ _ => nE
    refine make_use (fun x dx hlt hx => field_init hx hlt) (by k_is) (by k_is) (by k_is) B' nF X' nE T' rfl (by omega) (by omega) ?_
    rintro x2 dx2 nw2 h2 tk2 l2 lx2 ⟨D2, n2, rfl, ga2, gb2, gc2⟩ F2 N2
    k_lt l2
    k_steps
    rename Fr _ _ _ _ => nF
    rename News _ _ _ _ => nE
    refine make_use (fun x dx hlt hx => field_init hx hlt) (by k_is) (by k_is) (by k_is) B' nF X' nE T' rfl (by omega) (by omega) ?_
    rintro x3 dx3 nw3 h3 tk3 l3 lx3 ⟨D3, n3, rfl, ga3, gb3, gc3⟩ F3 N3
    k_lt l3
    k_steps
    rename Fr _ _ _ _ => nF
    rename News _ _ _ _ => nE
    rw [dup_names] at nF
    refine SegPost.introR nF nE (L' + 1 + 1, oS) (by rfl) ⟨γ, u, _, _, _, _, _, _, _, _, _, _, _, [.ref x1, .ref x2, .ref x3], _, hγ, hch, htv1, hoS, rfl, ?_, rfl⟩
    intro h₀ L h N
    dsimp only [List.dropLast] at N
    rw [htold]
    exact fields3 (News.isList N (by k_mem)) (fieldAt_of N (by k_mem) (by k_mem) ga1 gb1 gc1) (fieldAt_of N (by k_mem) (by k_mem) ga2 gb2 gc2) (fieldAt_of N (by k_mem) (by k_mem) ga3 gb3 gc3)
end Mine
end
section
open PySem PySem.W PySem.Calls PyProof.Rows
set_option maxRecDepth 100000
namespace Mine
local macro_rules
  | `(tactic| walk_at "compareOp NotEq bytes bytes") => `(tactic| refine Mine.stop ?_)
set_option maxHeartbeats 8000000 in
theorem seg13 {w : World} : Seg w 10 13 1 (P13 w) (P13 w) := by
  refine @seg_one _ _ _ _ [_] _ _ rfl ?_
  intro fa cdv dp un gd outer A₀ base g' L' h tk s' p loose mean mg mb m news B' F' X' N' T' hd hu hpre
  dsimp only [lawSc, lawScp] at *
  obtain ⟨γ, u, t, ts, tw, to, tb, td, tl, twd, chv, tv, oS, fl, px, kx, fs, led, hγ, hoS, rfl, hled, rfl⟩ := hpre
  have hP : ∀ h, News g' L' h ((L' + 1 + 1, oS) :: led) → FieldsAt h fl fs (fldsOf γ.told) ∧ PartAt h px (partD γ kx) ∧ KindAt w h kx γ.ch := fun h N => hled _ _ _ fun p hp => N p (List.Mem.tail _ hp)
  obtain ⟨ox, es, n, t1, t2, t3, hI, hbo, hen, henc, hki⟩ := id (hP _ N').2.1
  have henc' : getL "encoding" es = some (some (.str (encW (fldsOf γ.told)) t3)) := henc
  have hbl := bodyOf_len hγ
  have hol := octOf_len hγ
  have hdl : (dataOf γ).length ≤ 1000 := by unfold dataOf; rw [List.length_append, List.length_append]; show 9 + _ + 5 ≤ 1000; omega
  k_steps
  refine' get_own F' X' hI ?k4 ?k5 ?k6 ?k7 henc' ?k8 ?_
  case k4 => k_is
  case k5 => k_is
  case k6 => k_is
  case k7 => k_is
  case k8 => k_handed
  k_steps
  · rename (_ != _) = true => hx
    exact absurd hx (by simp)
  refine SpecR.use (encoding_of_spec (flds := fldsOf γ.told) (fs := fs) (flds_ok hγ) (flds_len _)) B' (by assumption) X' (by assumption) T' rfl (by omega) (by omega) (hP _ (by assumption)).1 ?_
  rintro v tl2 h2 tk2 ⟨⟨w9, tw9, rfl, hw9⟩, rfl⟩ F2 N2 hne2
  rw [List.nil_append] at N2
  have e9 := hw9.eq
  subst e9
  k_steps
  refine SpecR.use (body_octets_spec (p := partD γ kx) hdl (by omega) (slice_law hγ) (undo_law hγ)) B' (by assumption) X' (by assumption) T' rfl (by omega) (by omega) (hP _ (by assumption)).2.1 ?_
  rintro v tl2 h3 tk3 ⟨⟨t9, rfl⟩, rfl⟩ F3 N3 hne3
  rw [List.nil_append] at N3
  k_steps
  with_reducible refine Stop.go ?_
  refine my_ne_bytes (r := true) (decide_eq_true rfl) ?_
  k_steps
  exact SegPost.intro (by assumption) (by assumption) (fun p hp => hp) ⟨γ, u, _, _, _, _, _, _, _, _, _, _, _, fl, px, kx, fs, led, hγ, hoS, rfl, hled, rfl⟩
end Mine
end
section
open PySem PySem.W PySem.Calls PyProof.Rows
set_option maxRecDepth 100000
namespace Mine
theorem law_octets_spec {w : World} {γ : Gh} (h : GhOk γ) {t ts : Tok} : SpecR w 2 395 [.str ⟨γ.cs.toArray⟩ t, .str γ.so ts] (fun _ => True) (fun v tl => (∃ t, v = .bytes (octOf γ).toArray t) ∧ tl = []) := by
  have hlt := signs_lt h
  have hlen := h.len
  rcases sorts h with e | e | e
  · have e2 : octOf γ = γ.cs.flatMap encU := by unfold octOf; rw [if_pos e]
    rw [e2, e]
    exact law_octets_u (by omega) hlt
  · have e2 : octOf γ = γ.cs.map Nat.toUInt8 := by unfold octOf; rw [if_neg (by rw [e]; decide)]
    rw [e2]
    exact law_octets_o (by omega) (.inl e) (fun c hc => by have := hlt c hc; omega)
  · have e2 : octOf γ = γ.cs.map Nat.toUInt8 := by unfold octOf; rw [if_neg (by rw [e]; decide)]
    rw [e2]
    exact law_octets_o (by omega) (.inr e) (fun c hc => by have := hlt c hc; omega)
set_option maxHeartbeats 8000000 in
theorem seg4 {w : World} : Seg w 10 4 1 P4 P5 := by
  refine @seg_one _ _ _ _ [_] _ _ rfl ?_
  intro fa cdv dp un gd outer A₀ base g' L' h tk s' p loose mean mg mb m news B' F' X' N' T' hd hu hpre
  dsimp only [lawSc, lawScp] at *
  obtain ⟨γ, u, t, ts, tw, chv, tv, oS, hγ, hch, htv, hoS, rfl, rfl⟩ := hpre
  have hlt := signs_lt hγ
  have hlen := hγ.len
  k_steps
  refine SpecR.use (law_octets_spec hγ) B' (by assumption) X' (by assumption) T' rfl (by omega) (by omega) trivial ?_
  rintro v tl h2 tk2 ⟨⟨t6, rfl⟩, rfl⟩ F2 N2 hne2
  rw [List.nil_append] at N2
  k_steps
  exact SegPost.intro (by assumption) (by assumption) (fun p hp => hp) ⟨γ, u, _, _, _, _, _, _, _, hγ, hch, htv, hoS, rfl, rfl⟩
end Mine
end
section
open PySem PySem.W PySem.Calls PyProof.Rows
set_option maxRecDepth 100000
namespace Mine
local macro_rules
  | `(tactic| walk_at "compareOp Eq bytes bytes") => `(tactic| refine Mine.stop ?_)
section
variable {prog : Program} {w : World} {A : Around} {E : Value → Shared → Prop} {s : Shared} {h₀ : Heap} {L : Addr} {m : Str → Option Value} {news : Led}
theorem my_split {b : List UInt8} {t u : Tok} {Q : Value → Shared → Prop} (F : Fr h₀ L s.heap m) (N : News h₀ L s.heap news) (hb : b.length ≤ 1000)
    (h : ∀ l vs h' k, Fr h₀ L h' m → News h₀ L h' ((l, listOf (List.toArray vs) 0) :: news) → BytesAre vs (splitZ b.toArray #[10]) → Q (.ref l) { s with heap := h', toks := k }) : wpAny (model prog w) A (call (.builtin "bytes.split") [.bytes b.toArray t, .bytes #[10] u]) Q E s := by
  obtain ⟨h1, h2, _⟩ := split_law b hb
  refine call_split (by decide) h1 (Nat.le_trans h2 (by rw [sizeLine_eq]; decide)) fun vs k hv => ?_
  exact h _ vs _ k (F.push _) (N.push F _) hv
theorem my_last {value slice : PySem.Expr} {l : Addr} {vs : List Value} {n : Nat} {u : Tok} {v : Value} {Q : Value → Shared → Prop} (N : News h₀ L s.heap news) (hm : (l, listOf vs.toArray n) ∈ news) (h0 : 0 < vs.length) (hx : vs[vs.length - 1]? = some v) (h : Q v s)
    (hs : subscripted slice false (.ref l) (.int (-1) u) = operate [.ref l, .int (-1) u] (getItem (.ref l) (.int (-1) u)) := by with_unfolding_all rfl) :
    wpAny (model prog w) A (subscriptTail value slice (.ref l) (.int (-1) u)) Q E s :=
  have hl : s.heap.IsList l vs.toArray := ⟨_, (N _ hm).1, rfl, n, rfl⟩
  tail_any hl.typeIs slot_list_getitem.lookup (wpAny_getItem_list_neg hl (by decide) (by rw [List.size_toArray]; omega) (by decide) (by
    have e : (-1 + ((vs.toArray.size : Nat) : Int)).toNat = vs.length - 1 := by rw [List.size_toArray]; omega
    rw [e]; simpa using hx) h) hs
end
noncomputable def SegR (w : World) (c i n : Nat) (Pre : SegP) : Prop := SegC w c (lawSeg i n) Pre fun g L s => Ret g L s (fun v _ => v = .bool true)
set_option maxHeartbeats 8000000 in
theorem seg15 {w : World} : SegR w 10 15 3 (P15 w) := by
  refine @seg_one _ _ _ _ [_, _, _] _ _ rfl ?_
  intro fa cdv dp un gd outer A₀ base g' L' h tk s' p loose mean mg mb m news B' F' X' N' T' hd hu hpre
  dsimp only [lawSc, lawScp] at *
  obtain ⟨γ, u, t, ts, tw, to, tb, td, tl, twd, tdu, chv, tv, oS, fl, px, kx, fs, led, hγ, hoS, rfl, hled, rfl⟩ := hpre
  have hP : ∀ h, News g' L' h ((L' + 1 + 1, oS) :: led) → FieldsAt h fl fs (fldsOf γ.told) ∧ PartAt h px (partD γ kx) ∧ KindAt w h kx γ.ch := fun h N => hled _ _ _ fun p hp => N p (List.Mem.tail _ hp)
  have hbl : ((bodyOf γ).length ≤ 80 ∧ (octOf γ).length ≤ 20) ∧ (dataOf γ).length = 14 + (bodyOf γ).length := ⟨⟨bodyOf_len hγ, octOf_len hγ⟩, by unfold dataOf; rw [List.length_append, List.length_append]; show 9 + _ + 5 = _; omega⟩
  k_steps
  refine my_split (by assumption) (by assumption) (by omega) fun l vs h2 k2 F2 N2 hvs => ?_
  obtain ⟨_, hsl, hsn⟩ := split_law (bodyOf γ) (by omega)
  generalize hZ : splitZ (bodyOf γ).toArray #[10] = Z at hvs hsl hsn
  replace hZ := And.intro trivial hZ
  have hvl : vs.length = Z.length := hvs.length
  k_steps
  refine kst_len (by assumption) (List.Mem.head _) hvl (by omega) ?_
  clear hsl
  k_steps
  have hv0 : 0 < vs.length := by rw [hvl]; exact List.length_pos_iff.mpr hsn
  obtain ⟨lb, hlb⟩ : ∃ lb : List UInt8, Z.getLastD #[] = lb.toArray := ⟨(Z.getLastD #[]).toList, by simp⟩
  have hlast : Z[Z.length - 1]? = some lb.toArray := by
    rw [← List.getLast?_eq_getElem?, ← hlb, List.getLastD_eq_getLast?]
    cases hq : Z.getLast? with
    | none => exact absurd (List.getLast?_eq_none_iff.mp hq) hsn
    | some x => rfl
  obtain ⟨tL, hxL⟩ := hvs.get _ _ hlast
  rw [← hvl] at hxL
  refine my_last (by assumption) (List.Mem.head _) hv0 hxL ?_
  clear hxL hlast
  k_steps
  obtain ⟨NN, hNN, hNs⟩ := lines_law hγ
  have hNle := hNN.le
  obtain ⟨r, q1, q2, q3, q4, q5⟩ := chars_law hγ
  unfold splitN at hNs
  rw [hZ.2, hlb] at hNs
  by_cases hq : lb = []
  · with_reducible refine Stop.go ?_
    refine my_eq_bytes (c := []) (r := true) (decide_eq_true hq) ?_
    rw [if_pos (by rw [hq])] at hNs
    k_steps
    with_reducible rename Fr _ _ _ _ => nF
    with_reducible rename News _ _ _ _ => nE
    rw [← hNs] at nF
    refine SpecR.use (body_text_spec (pd := partD γ kx) (pv := γ.ch) (r := r) (cs := dueOf γ) (by omega) (by omega) (by omega) (slice_law hγ) (undo_law hγ) q1 q2 q3 q4 q5) B' nF X' nE T' rfl (by omega) (by omega) (hP _ (fun p hp => nE p (List.Mem.tail _ hp))).2 ?_
    rintro v tl9 h3 tk3 ⟨⟨t9, rfl⟩, rfl⟩ F3 N3 hne
    rw [List.nil_append] at N3
    obtain ⟨ox, es, n, t1, t2, t3, hI, hbo, hen, henc, hki⟩ := (hP _ (fun p hp => N3 p (List.Mem.tail _ hp))).2.1
    have hbo' : getL "body" es = some (some (.int ((9 : Nat) : Int) t1)) := hbo
    have hen' : getL "end" es = some (some (.int ((9 + (bodyOf γ).length : Nat) : Int) t2)) := hen
    k_steps
    · refine' get_own F3 X' hI ?k4 ?k5 ?k6 ?k7 hbo' ?k8 ?_
      case k4 => k_is
      case k5 => k_is
      case k6 => k_is
      case k7 => k_is
      case k8 => k_handed
      k_steps
      refine' get_own F3 X' hI ?k4 ?k5 ?k6 ?k7 hen' ?k8 ?_
      case k4 => k_is
      case k5 => k_is
      case k6 => k_is
      case k7 => k_is
      case k8 => k_handed
      k_steps
      refine SpecR.use (line_count_spec (by omega) (by omega) (by omega) hNN) B' (by assumption) X' (by assumption) T' rfl (by omega) (by omega) trivial ?_
      rintro v tl8 h4 tk4 ⟨⟨t10, rfl⟩, rfl⟩ F4 N4 hne4
      rw [List.nil_append] at N4
      k_steps
      exact Ret.intro (by assumption) (by assumption) (congrArg Value.bool (by simp))
    · exact Ret.intro (by assumption) (by assumption) (congrArg Value.bool (beq_self_eq_true _))
  · with_reducible refine Stop.go ?_
    refine my_eq_bytes (c := []) (r := false) (decide_eq_false hq) ?_
    rw [if_neg (by intro e; exact hq (by simpa using e))] at hNs
    k_steps
    with_reducible rename Fr _ _ _ _ => nF
    with_reducible rename News _ _ _ _ => nE
    rw [← hNs] at nF
    refine SpecR.use (body_text_spec (pd := partD γ kx) (pv := γ.ch) (r := r) (cs := dueOf γ) (by omega) (by omega) (by omega) (slice_law hγ) (undo_law hγ) q1 q2 q3 q4 q5) B' nF X' nE T' rfl (by omega) (by omega) (hP _ (fun p hp => nE p (List.Mem.tail _ hp))).2 ?_
    rintro v tl9 h3 tk3 ⟨⟨t9, rfl⟩, rfl⟩ F3 N3 hne
    rw [List.nil_append] at N3
    obtain ⟨ox, es, n, t1, t2, t3, hI, hbo, hen, henc, hki⟩ := (hP _ (fun p hp => N3 p (List.Mem.tail _ hp))).2.1
    have hbo' : getL "body" es = some (some (.int ((9 : Nat) : Int) t1)) := hbo
    have hen' : getL "end" es = some (some (.int ((9 + (bodyOf γ).length : Nat) : Int) t2)) := hen
    k_steps
    · refine' get_own F3 X' hI ?k4 ?k5 ?k6 ?k7 hbo' ?k8 ?_
      case k4 => k_is
      case k5 => k_is
      case k6 => k_is
      case k7 => k_is
      case k8 => k_handed
      k_steps
      refine' get_own F3 X' hI ?k4 ?k5 ?k6 ?k7 hen' ?k8 ?_
      case k4 => k_is
      case k5 => k_is
      case k6 => k_is
      case k7 => k_is
      case k8 => k_handed
      k_steps
      refine SpecR.use (line_count_spec (by omega) (by omega) (by omega) hNN) B' (by assumption) X' (by assumption) T' rfl (by omega) (by omega) trivial ?_
      rintro v tl8 h4 tk4 ⟨⟨t10, rfl⟩, rfl⟩ F4 N4 hne4
      rw [List.nil_append] at N4
      k_steps
      exact Ret.intro (by assumption) (by assumption) (congrArg Value.bool (by simp))
    · exact Ret.intro (by assumption) (by assumption) (congrArg Value.bool (beq_self_eq_true _))
end Mine
end
section
open PySem PySem.W PySem.Calls PyProof.Rows
set_option maxRecDepth 100000
namespace Mine
theorem dict3 {a b c : Value} (ta tb tc : Tok) : valueAt (strPairs [(.str (Str.ofString "b") ta, a), (.str (Str.ofString "q") tb, b), (.str (Str.ofString "") tc, c)]) (Str.ofString "b") = some a ∧ valueAt (strPairs [(.str (Str.ofString "b") ta, a), (.str (Str.ofString "q") tb, b), (.str (Str.ofString "") tc, c)]) (Str.ofString "q") = some b ∧ valueAt (strPairs [(.str (Str.ofString "b") ta, a), (.str (Str.ofString "q") tb, b), (.str (Str.ofString "") tc, c)]) (Str.ofString "") = some c := ⟨by kernel_rfl, by kernel_rfl, by kernel_rfl⟩
set_option maxHeartbeats 8000000 in
theorem seg5 {w : World} : Seg w 10 5 1 P5 P6 := by
  refine @seg_one _ _ _ _ [_] _ _ rfl ?_
  intro fa cdv dp un gd outer A₀ base g' L' h tk s' p loose mean mg mb m news B' F' X' N' T' hd hu hpre
  dsimp only [lawSc, lawScp] at *
  obtain ⟨γ, u, t, ts, tw, to, chv, tv, oS, hγ, hch, htv, hoS, rfl, rfl⟩ := hpre
  have hol := octOf_len hγ
  k_steps
  refine SpecR.use (law_base64_spec (b := octOf γ) (by omega)) B' (by assumption) X' (by assumption) T' rfl (by omega) (by omega) trivial ?_
  rintro v tl h2 tk2 ⟨⟨t6, rfl⟩, rfl⟩ F2 N2 hne2
  rw [List.nil_append] at N2
  k_steps
  refine SpecR.use (law_quoted_spec (b := octOf γ) (by omega)) B' (by assumption) X' (by assumption) T' rfl (by omega) (by omega) trivial ?_
  rintro v tl h2 tk2 ⟨⟨t7, rfl⟩, rfl⟩ F2 N2 hne2
  rw [List.nil_append] at N2
  k_steps
  rename Obj.IsDictOf _ _ _ => hdE
  rename News _ _ _ _ => nE
  generalize hkk : strPairs _ = kk at hdE
  have hv : ∃ tb, valueAt kk γ.way = some (.bytes (bodyOf γ).toArray tb) := by
    rcases way_cases hγ with e | e | e
    · have hb : bodyOf γ = e64 (octOf γ) := by unfold bodyOf; rw [if_pos e]
      rw [hb, e, ← hkk]
      exact ⟨_, (dict3 _ _ _).1⟩
    · have hb : bodyOf γ = (octOf γ).flatMap quo := by unfold bodyOf; rw [if_neg (by rw [e]; decide), if_pos e]
      rw [hb, e, ← hkk]
      exact ⟨_, (dict3 _ _ _).2.1⟩
    · have hb : bodyOf γ = octOf γ := by unfold bodyOf; rw [if_neg (by rw [e]; decide), if_neg (by rw [e]; decide)]
      rw [hb, e, ← hkk]
      exact ⟨_, (dict3 _ _ _).2.2⟩
  obtain ⟨tb, hv⟩ := hv
  refine wpAny_getItem_of (knd := strKind pw w) (strKind_is _ _ _ _) (kda_dict nE (List.Mem.head _) hdE).mapOf hv ?_
  clear hv hkk
  k_steps
  exact SegPost.intro (by assumption) (by assumption) (fun p hp => by rw [List.mem_singleton.mp hp]; k_mem) ⟨γ, u, _, _, _, _, _, _, _, _, hγ, hch, htv, hoS, rfl, rfl⟩
end Mine
end
section
local macro_rules
  | `(tactic| walk_at "eval ListComp") => `(tactic| refine Mine.stop ?_)
section
open PySem PySem.W PySem.Calls PyProof.Rows
set_option maxRecDepth 100000
namespace Mine
noncomputable def sgL : List (List Nat) := [[97], [233], [61], [13, 10], [122], [10], [32]]
noncomputable def mkS (x : List Nat) : Str := ⟨x.toArray⟩
theorem skip8 {α : Type} {all : List α} (n : Nat) : ∀ x ∈ all.drop n, x ∈ all := fun x hx => List.mem_of_mem_drop hx
theorem strs_eq2 {x y : Str} {t : Tok} {vs : List Value} {ns : List Str} (h : StrsAre vs ns) (e : x = y) : StrsAre (vs ++ [.str x t]) (ns ++ [y]) := e ▸ StrsAre.snoc h
theorem sg_fit : ∀ x ∈ sgL, (mkS x).length ≤ 8 ∧ x.length ≤ 2 ∧ ∀ c ∈ x, c ∈ signL := by decide
theorem cat_mk (l : List (List Nat)) : catS (l.map mkS) = ⟨l.flatten.toArray⟩ := by
  refine str_ext ?_
  show ((l.map mkS).flatMap fun x => x.cps.toList).toArray.toList = l.flatten.toArray.toList
  simp only [List.flatMap_map, mkS, List.flatMap_id']
theorem flat_len : ∀ {l : List (List Nat)}, (∀ x ∈ l, x ∈ sgL) → l.flatten.length ≤ 2 * l.length
  | [], _ => Nat.le_refl _
  | a :: r, h => by
    have h1 := (sg_fit a (h a (List.Mem.head _))).2.1
    have h2 := flat_len (l := r) (fun x hx => h x (List.Mem.tail _ hx))
    rw [List.flatten_cons, List.length_append, List.length_cons]
    omega
theorem flat_mem {l : List (List Nat)} (h : ∀ x ∈ l, x ∈ sgL) : ∀ c ∈ l.flatten, c ∈ signL := by
  intro c hc
  obtain ⟨x, hx, hcx⟩ := List.mem_flatten.mp hc
  exact (sg_fit x (h x hx)).2.2 c hcx
set_option maxHeartbeats 8000000 in
theorem seg1 {w : World} : Seg w 10 1 1 P1 P2 := by
  refine @seg_one _ _ _ _ [_] _ _ rfl ?_
  intro fa cdv dp un gd outer A₀ base g' L' h tk s' p loose mean mg mb m news B' F' X' N' T' hd hu hpre
  dsimp only [lawSc, lawScp] at *
  obtain ⟨u, τ, n, tk1, oS, oT, hτ, hoS, hoT, rfl, rfl⟩ := hpre
  obtain ⟨ht, hc, vs, nn, ns⟩ := τ
  obtain ⟨ia, hp, hl, hct, hcc, htt⟩ := hτ
  dsimp only at *
  k_steps
  with_reducible refine Stop.go ?_
  refine comp_goN (fun i v => ∃ t, v = .int (0 + (i : Int) * 1) t) (fun i ys nw => ∃ (tk : Tok) (l : List (List Nat)), nw = tapeLed L' ⟨ht, hc, vs, nn, ns⟩ (i + 1) tk n oS oT ∧ l.length = i ∧ (∀ x ∈ l, x ∈ sgL) ∧ StrsAre ys (l.map mkS)) (by rfl) (by decide) (by rfl) (by decide) (by rfl) (by rfl) (by assumption) ?_
  k_steps
  have U0 : UpdF ht (tapeO hc 0 tk1 n) [(ht, listOf #[Value.ref hc, Value.int 0 tk1] n), (hc, listOf vs.toArray nn), (L' + 1 + 1, oS), (L' + 1, oT)] (fun o => [(ht, o), (hc, listOf vs.toArray nn), (L' + 1 + 1, oS), (L' + 1, oT)]) := by k_updF
  refine Spec.use (draw_spec U0 (List.Mem.tail _ (List.Mem.head _)) hct ia hp hl (by decide) (by decide) (by decide) (by decide)) B' F' X' N' T' rfl (by omega) (by omega) ?_
  rintro v nw' h2 tk2 ⟨r, tr, tk3, hr0, hr1, rfl, rfl⟩ F2 N2
  obtain ⟨k, rfl⟩ : ∃ k : Nat, r = (k : Int) := ⟨r.toNat, by omega⟩
  dsimp only at N2
  k_steps
  all_goals try exact k
  · rw [sizeLine_eq]; omega
  refine SrcPost.intro (by assumption) (by assumption) (src_range (by assumption) (small_one k (by omega)) (size_one k)) ⟨tk3, [], rfl, rfl, (fun x hx => by cases hx), .nil⟩ (fun i ys nw hI => by obtain ⟨_, _, rfl, _⟩ := hI; rfl) (fun g => ?_) (fun D ys nw h tk hI F₁ N₁ oD => ?_)
  · rintro j v I oI C oC D m₂ ys nw h tk hj ⟨t, rfl⟩ ⟨tk5, l, rfl, hll, hlm, hys⟩ hC hx₂ F₁ N₁ off ne
    dsimp only [tapeLed] at N₁ off
    simp only [LCg.Off3, and_true] at off
    k_steps
    have U1 : UpdF ht (tapeO hc ((j + 1 : Nat) : Int) tk5 n) [(I, oI), (C, oC), (D, LCg.lst ys), (ht, listOf ([.ref hc, .int ((j + 1 : Nat) : Int) tk5] : List Value).toArray n), (hc, listOf vs.toArray nn), (L' + 1 + 1, oS), (L' + 1, oT)] (fun o => [(I, oI), (C, oC), (D, LCg.lst ys), (ht, o), (hc, listOf vs.toArray nn), (L' + 1 + 1, oS), (L' + 1, oT)]) := by k_updF
    refine Spec.use (draw_spec U1 (by k_mem) hct ia hp hl (by omega) (by omega) (by decide) (by decide)) B' (by assumption) X' (by assumption) T' rfl (by omega) (by omega) ?_
    rintro v nw' h2 tk2 ⟨r, tr, tk6, hq0, hq1, rfl, rfl⟩ F2 N2
    dsimp only at N2
    have hcase : r = 0 ∨ r = 1 ∨ r = 2 ∨ r = 3 ∨ r = 4 ∨ r = 5 ∨ r = 6 := by omega
    rcases hcase with rfl | rfl | rfl | rfl | rfl | rfl | rfl
    · k_steps
      refine EltPost.intro (by assumption) (by assumption) (fun _ h => h) ⟨tk6, l ++ [[97]], rfl, by rw [List.length_append, hll]; rfl, fun x hx => ?_, ?_⟩
      · rcases List.mem_append.mp hx with h9 | h9
        · exact hlm x h9
        · rw [List.mem_singleton.mp h9]; decide
      · rw [List.map_append]
        exact strs_eq2 hys (by decide +kernel)
    · k_steps
      refine EltPost.intro (by assumption) (by assumption) (fun _ h => h) ⟨tk6, l ++ [[233]], rfl, by rw [List.length_append, hll]; rfl, fun x hx => ?_, ?_⟩
      · rcases List.mem_append.mp hx with h9 | h9
        · exact hlm x h9
        · rw [List.mem_singleton.mp h9]; decide
      · rw [List.map_append]
        exact strs_eq2 hys (by decide +kernel)
    · k_steps
      refine EltPost.intro (by assumption) (by assumption) (fun _ h => h) ⟨tk6, l ++ [[61]], rfl, by rw [List.length_append, hll]; rfl, fun x hx => ?_, ?_⟩
      · rcases List.mem_append.mp hx with h9 | h9
        · exact hlm x h9
        · rw [List.mem_singleton.mp h9]; decide
      · rw [List.map_append]
        exact strs_eq2 hys (by decide +kernel)
    · k_steps
      refine EltPost.intro (by assumption) (by assumption) (fun _ h => h) ⟨tk6, l ++ [[13, 10]], rfl, by rw [List.length_append, hll]; rfl, fun x hx => ?_, ?_⟩
      · rcases List.mem_append.mp hx with h9 | h9
        · exact hlm x h9
        · rw [List.mem_singleton.mp h9]; decide
      · rw [List.map_append]
        exact strs_eq2 hys (by decide +kernel)
    · k_steps
      refine EltPost.intro (by assumption) (by assumption) (fun _ h => h) ⟨tk6, l ++ [[122]], rfl, by rw [List.length_append, hll]; rfl, fun x hx => ?_, ?_⟩
      · rcases List.mem_append.mp hx with h9 | h9
        · exact hlm x h9
        · rw [List.mem_singleton.mp h9]; decide
      · rw [List.map_append]
        exact strs_eq2 hys (by decide +kernel)
    · k_steps
      refine EltPost.intro (by assumption) (by assumption) (fun _ h => h) ⟨tk6, l ++ [[10]], rfl, by rw [List.length_append, hll]; rfl, fun x hx => ?_, ?_⟩
      · rcases List.mem_append.mp hx with h9 | h9
        · exact hlm x h9
        · rw [List.mem_singleton.mp h9]; decide
      · rw [List.map_append]
        exact strs_eq2 hys (by decide +kernel)
    · k_steps
      refine EltPost.intro (by assumption) (by assumption) (fun _ h => h) ⟨tk6, l ++ [[32]], rfl, by rw [List.length_append, hll]; rfl, fun x hx => ?_, ?_⟩
      · rcases List.mem_append.mp hx with h9 | h9
        · exact hlm x h9
        · rw [List.mem_singleton.mp h9]; decide
      · rw [List.map_append]
        exact strs_eq2 hys (by decide +kernel)
  · obtain ⟨tk5, l, rfl, hll, hlm, hys⟩ := hI
    dsimp only [tapeLed] at N₁ oD
    k_steps
    refine call_sjoin (N₁ _ (List.Mem.head _)).1 hys ?_ (by rw [List.length_map]; omega) fun t' k' => ?_
    · intro y hy
      obtain ⟨x, hx, rfl⟩ := List.mem_map.mp hy
      exact (sg_fit x (hlm x hx)).1
    rw [cat_mk]
    k_steps
    exact SegPost.intro (by assumption) (by assumption) (skip8 1) ⟨l.flatten, _, _, ⟨ht, hc, vs, nn, ns⟩, k + 1, n, tk5, oS, oT, by have := flat_len hlm; omega, flat_mem hlm, ⟨ia, hp, hl, hct, hcc, htt⟩, by omega, hoS, hoT, rfl, rfl⟩
end Mine
end
section
open PySem PySem.W PySem.Calls PyProof.Rows
set_option maxRecDepth 100000
namespace Mine
noncomputable def dueC (so : Str) (c : Nat) : Nat := if so = Str.ofString "a" ∧ c = 233 then 65533 else c
theorem strs_eq {x y : Str} {t : Tok} {vs : List Value} {ns : List Str} (h : StrsAre vs ns) (e : x = y) : StrsAre (vs ++ [.str x t]) (ns ++ [y]) := e ▸ StrsAre.snoc h
theorem skip9 {α : Type} {all : List α} (n : Nat) : ∀ x ∈ all.drop n, x ∈ all := fun x hx => List.mem_of_mem_drop hx
theorem odd_sign : Str.ofString "�" = oneSign 65533 := by decide +kernel
set_option maxHeartbeats 8000000 in
theorem seg14 {w : World} : Seg w 10 14 1 (P13 w) (P15 w) := by
  refine @seg_one _ _ _ _ [_] _ _ rfl ?_
  intro fa cdv dp un gd outer A₀ base g' L' h tk s' p loose mean mg mb m news B' F' X' N' T' hd hu hpre
  dsimp only [lawSc, lawScp] at *
  obtain ⟨γ, u, t, ts, tw, to, tb, td, tl, twd, chv, tv, oS, fl, px, kx, fs, led, hγ, hoS, rfl, hled, rfl⟩ := hpre
  have hlen := hγ.len
  k_steps
  with_reducible refine Stop.go ?_
  refine comp_go (SignAt ⟨γ.cs.toArray⟩) γ.cs.length (fun i ys nw => nw = (L' + 1 + 1, oS) :: led ∧ StrsAre ys (((γ.cs.take i).map (dueC γ.so)).map oneSign)) (by rfl) (by decide) (by rfl) (by decide) (by rfl) (by rw [sizeLine_eq]; omega) (by rfl) (by assumption) ?_
  k_steps
  refine SrcPost.intro (by assumption) (by assumption) src_str ⟨rfl, .nil⟩ (fun i ys nw hI => by rw [hI.1]) (fun g => ?_) (fun D ys nw h tk hI F₁ N₁ oD => ?_)
  · rintro i v I oI C oC D m₂ ys nw h tk hi ⟨c, uu, hcc, rfl⟩ ⟨rfl, hys⟩ hC hx₂ F₁ N₁ off ne
    have hc2 : γ.cs[i]? = some c := by simpa using hcc
    k_steps
    · refine EltPost.intro (by assumption) (by assumption) (fun _ h => h) ⟨rfl, ?_⟩
      rw [take_map_snoc _ hc2, List.map_append]
      refine strs_eq hys ?_
      rw [odd_sign]
      congr 1
      unfold dueC
      rw [if_pos ⟨by rw [← beq_iff_eq]; assumption, (eAc_iff c).mp ‹({ cps := #[c] } == Str.ofString "é") = true›⟩]
    · refine EltPost.intro (by assumption) (by assumption) (fun _ h => h) ⟨rfl, ?_⟩
      rw [take_map_snoc _ hc2, List.map_append]
      refine strs_eq hys ?_
      show oneSign c = _
      congr 1
      unfold dueC
      rw [if_neg]
      rintro ⟨_, e⟩
      have := (eAc_iff c).mpr e
      rw [‹({ cps := #[c] } == Str.ofString "é") = false›] at this
      cases this
    · refine EltPost.intro (by assumption) (by assumption) (fun _ h => h) ⟨rfl, ?_⟩
      rw [take_map_snoc _ hc2, List.map_append]
      refine strs_eq hys ?_
      show oneSign c = _
      congr 1
      unfold dueC
      rw [if_neg]
      rintro ⟨e, _⟩
      have h9 : (γ.so == Str.ofString "a") = false := by assumption
      rw [e] at h9
      cases h9
  · obtain ⟨rfl, hys⟩ := hI
    rw [List.take_length] at hys
    k_steps
    refine call_sjoin (N₁ _ (List.Mem.head _)).1 hys ?_ (by rw [List.length_map, List.length_map]; omega) fun t' k => ?_
    · intro y hy
      obtain ⟨c, _, rfl⟩ := List.mem_map.mp hy
      exact (by decide : (1 : Nat) ≤ 8)
    rw [cat_ones]
    k_steps
    exact SegPost.intro (by assumption) (by assumption) (skip9 1) ⟨γ, u, _, _, _, _, _, _, _, _, _, _, _, _, fl, px, kx, fs, led, hγ, hoS, rfl, hled, rfl⟩
end Mine
end
end
section
open PySem PySem.W PySem.Calls PyProof.Rows
set_option maxRecDepth 100000
namespace Mine
theorem Seg.andThen {w : World} {c i n j k l : Nat} {P M R : SegP} (h1 : Seg w c i n P M) (h2 : Seg w c j k M R) (hj : i + n = j) (hl : n + k = l) : Seg w c i l P R := by
  subst hj hl
  exact h1.then h2
theorem seg_all : lawSeg 0 15 ++ lawSeg 15 3 = lawBody := by
  have h := seg_app 0 15 3
  rw [Nat.zero_add] at h
  rw [← h]
  rfl
theorem upto2 (w : World) : Seg w 10 0 2 P0 P2 := @Seg.andThen w 10 0 1 1 1 2 P0 P1 P2 (@seg0 w) (@seg1 w) rfl rfl
theorem upto3 (w : World) : Seg w 10 0 3 P0 P3 := @Seg.andThen w 10 0 2 2 1 3 P0 P2 P3 (upto2 w) (@seg2 w) rfl rfl
theorem upto4 (w : World) : Seg w 10 0 4 P0 P4 := @Seg.andThen w 10 0 3 3 1 4 P0 P3 P4 (upto3 w) (@seg3 w) rfl rfl
theorem upto5 (w : World) : Seg w 10 0 5 P0 P5 := @Seg.andThen w 10 0 4 4 1 5 P0 P4 P5 (upto4 w) (@seg4 w) rfl rfl
theorem upto6 (w : World) : Seg w 10 0 6 P0 P6 := @Seg.andThen w 10 0 5 5 1 6 P0 P5 P6 (upto5 w) (@seg5 w) rfl rfl
theorem upto8 (w : World) : Seg w 10 0 8 P0 P8 := @Seg.andThen w 10 0 6 6 2 8 P0 P6 P8 (upto6 w) (@seg6 w) rfl rfl
theorem upto10 (w : World) : Seg w 10 0 10 P0 P10 := @Seg.andThen w 10 0 8 8 2 10 P0 P8 P10 (upto8 w) (@seg8 w) rfl rfl
theorem upto11 (w : World) : Seg w 10 0 11 P0 (P11 w) := @Seg.andThen w 10 0 10 10 1 11 P0 P10 (P11 w) (upto10 w) (@seg10 w) rfl rfl
theorem upto13 (w : World) : Seg w 10 0 13 P0 (P13 w) := @Seg.andThen w 10 0 11 11 2 13 P0 (P11 w) (P13 w) (upto11 w) (@seg11 w) rfl rfl
theorem upto14 (w : World) : Seg w 10 0 14 P0 (P13 w) := @Seg.andThen w 10 0 13 13 1 14 P0 (P13 w) (P13 w) (upto13 w) (@seg13 w) rfl rfl
theorem upto15 (w : World) : Seg w 10 0 15 P0 (P15 w) := @Seg.andThen w 10 0 14 14 1 15 P0 (P13 w) (P15 w) (upto14 w) (@seg14 w) rfl rfl
theorem law_run (w : World) : SegC w 10 (lawSeg 0 15 ++ lawSeg 15 3) P0 (fun g L s => Ret g L s (fun v _ => v = .bool true)) :=
  @Seg.thenC w 10 0 15 P0 (P15 w) (lawSeg 15 3) (fun g L s => Ret g L s (fun v _ => v = .bool true)) (fun _ _ _ _ _ => rfl) (upto15 w) (@seg15 w)
theorem law_runs (w : World) : SegC w 10 lawBody P0 (fun g L s => Ret g L s (fun v _ => v = .bool true)) := by
  have h := law_run w
  rw [seg_all] at h
  exact h
end Mine
end
section
open PySem PySem.W PySem.Calls PyProof.Rows
set_option maxRecDepth 100000
namespace Mine
set_option maxHeartbeats 0 in
theorem said0 : PySem.Challenge.rw_no0378_01.wellSaid = true := by
  delta OpenLaw.wellSaid OpenLaw.row
  repeat' with_reducible refine look_both ?_ ?_
  all_goals (try delta OpenRow.wellSaid)
  repeat' with_reducible refine look_both ?_ ?_
  all_goals (try delta OpenRow.partSaid)
  repeat' with_reducible refine look_both ?_ ?_
  all_goals (try delta looksOpen)
  repeat' with_reducible refine look_both ?_ ?_
  all_goals decide +kernel
set_option maxHeartbeats 0 in
theorem cw : PySem.Challenge.rw_no0378_01.Holds := by
  w_on
  refine holds_law said0 fun said => ?_
  refine holds_open (q := q) (loose := loose) (XP := XL q []) left (Hook.of H) (Hook.keeps H) (fun s e => xl_of s (Bool.and_eq_true_iff.mp e).1) XL.keeps (by rfl) (by rfl) (by rfl) (fun s e => recFacts_of (Bool.and_eq_true_iff.mp e).2) (by rfl) (by first | assumption | decide +kernel) (by decide +kernel) ⟨rfl, rfl, rfl, rfl, rfl, by decide +kernel⟩ ?hw ?hc
  case hw => w_witness2
  intro w s₀ s₁ mg mb G Y fa o pm cd doc dV kV ho hd hcd hD hmg hg args vals as hpre hlay hrd hwl hlo
  have KX := kIn_of Y
  have XG := (Ground.X G).1
  have VG := (Ground.X G).2
  refine Ground.open G ?_
  intro TG BG DG TEG TWG
  try (refine guard_noD DG (by decide +kernel) ?_; clear DG)
  obtain ⟨_, _, MG⟩ := bmod_of_top TG
  have TAG := at_of_top TG
  try (obtain ⟨_, _, he, B0⟩ := based_of_top TG rfl hmg ho hd; have he' : cd = _ := he; subst he'; clear he)
  clear hmg
  wrow_args hpre hlay hrd hwl hlo
  all_goals (
    first | refine callC_kw (enter_call ?_) | refine enter_call ?_ | refine callC_kw (enter_callW ?_) | refine enter_callW ?_ | w_how
    w_top on
    try refine codeAny_mono ?_ (fun _ _ g => GoodW.toG g)
    have K0 := below_caller (Top.heap TG)
    w_call any ho hd hcd hD TG FG
    clear hd TAG
    k_drop
    skip)
  rename Top _ _ _ _ _ _ => T'
  rename Fr _ _ _ _ => F'
  rename News _ _ _ _ => N'
  rename Below _ _ _ _ => B'
  rename Frag.In _ _ => X'
  rename Heap.IsList _ _ _ => hL
  rename IntsAre _ _ => hI
  rename ¬ _ < _ => hlen
  rename Obj.data _ = _ => hoT
  revert hoT
  rename Obj.data _ = _ => hoS
  intro hoT
  refine wpAny_mono (law_runs _ _ _ _ _ _ _ _ _ _ _ _ _ _ _ _ _ _ _ _ _ B' F' X' N' T' ?hd ?hu ?hp) ?hq ?he
  case hd => decide +kernel
  case hu => decide +kernel
  case hp => exact ⟨_, _, _, _, _, hL, hI, by omega, hoS, hoT, rfl, rfl⟩
  case he => exact fun _ _ h => h.elim
  case hq =>
    rintro a s ⟨h9, tk9, m9, nw9, rfl, F9, N9, hv⟩
    cases a with
    | ret v =>
      have e : v = .bool true := hv
      subst e
      dsimp only
      k_steps
    | next => exact absurd (show Value.none = .bool true from hv) (by intro h; cases h)
    | brk => exact absurd (show Value.none = .bool true from hv) (by intro h; cases h)
    | cont => exact absurd (show Value.none = .bool true from hv) (by intro h; cases h)
end Mine
end
theorem PySem.Challenge.cw_no0378_01_holds : PySem.Challenge.rw_no0378_01.Holds := by
  exact Mine.cw
