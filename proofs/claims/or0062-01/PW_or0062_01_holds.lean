import PyProof.Rows.All
import Wide.All
import OpenK.AllK
import Wide.FinOn
import Lean
import PySem.Challenge.RW_or0062_01
open PySem PySem.W PySem.Calls PyProof.Rows
set_option Elab.async false
set_option linter.unusedVariables false
set_option rowWalk.seconds 0
namespace Mine
set_option maxRecDepth 100000
set_option maxHeartbeats 40000000
noncomputable def nthS : Nat → List Stmt → Stmt
  | 0, a :: _ => a
  | k + 1, _ :: r => nthS k r
  | _, [] => .Pass default
noncomputable def clsB : Stmt → List Stmt
  | .ClassDef _ _ _ b _ _ _ _ _ _ _ => b
  | _ => []
noncomputable def FD (st : Stmt) (p : Arguments) (b : List Stmt) (s : Scope) : Prop := ∃ n d r t ts bd ps, st = .FunctionDef n p b d r t s ts bd ps
/-- the heap as the top leaves it: the defs' bodies are the row's own -/
noncomputable def hd.heap_39 : Params → Frag := by
  refine' (?f : ∀ (p29 : Arguments) (b29 : List Stmt) (s29 : Scope), FD (nthS 0 (clsB (nthS 1 PySem.Challenge.pw_or0062_01.main.body))) p29 b29 s29 → ∀ (p36 : Arguments) (b36 : List Stmt) (s36 : Scope), FD (nthS 1 (clsB (nthS 1 PySem.Challenge.pw_or0062_01.main.body))) p36 b36 s36 → ∀ (p61 : Arguments) (b61 : List Stmt) (s61 : Scope), FD (nthS 4 PySem.Challenge.pw_or0062_01.main.body) p61 b61 s61 → ∀ (p66 : Arguments) (b66 : List Stmt) (s66 : Scope), FD (nthS 5 PySem.Challenge.pw_or0062_01.main.body) p66 b66 s66 → ∀ (p74 : Arguments) (b74 : List Stmt) (s74 : Scope), FD (nthS 12 PySem.Challenge.pw_or0062_01.main.body) p74 b74 s74 → ∀ (p81 : Arguments) (b81 : List Stmt) (s81 : Scope), FD (nthS 13 PySem.Challenge.pw_or0062_01.main.body) p81 b81 s81 → ∀ (p88 : Arguments) (b88 : List Stmt) (s88 : Scope), FD (nthS 14 PySem.Challenge.pw_or0062_01.main.body) p88 b88 s88 → ∀ (p95 : Arguments) (b95 : List Stmt) (s95 : Scope), FD (nthS 15 PySem.Challenge.pw_or0062_01.main.body) p95 b95 s95 → ∀ (p102 : Arguments) (b102 : List Stmt) (s102 : Scope), FD (nthS 16 PySem.Challenge.pw_or0062_01.main.body) p102 b102 s102 → ∀ (p109 : Arguments) (b109 : List Stmt) (s109 : Scope), FD (nthS 17 PySem.Challenge.pw_or0062_01.main.body) p109 b109 s109 → ∀ (p116 : Arguments) (b116 : List Stmt) (s116 : Scope), FD (nthS 18 PySem.Challenge.pw_or0062_01.main.body) p116 b116 s116 → ∀ (p123 : Arguments) (b123 : List Stmt) (s123 : Scope), FD (nthS 19 PySem.Challenge.pw_or0062_01.main.body) p123 b123 s123 → ∀ (p130 : Arguments) (b130 : List Stmt) (s130 : Scope), FD (nthS 20 PySem.Challenge.pw_or0062_01.main.body) p130 b130 s130 → ∀ (p144 : Arguments) (b144 : List Stmt) (s144 : Scope), FD (nthS 0 (clsB (nthS 22 PySem.Challenge.pw_or0062_01.main.body))) p144 b144 s144 → ∀ (p149 : Arguments) (b149 : List Stmt) (s149 : Scope), FD (nthS 1 (clsB (nthS 22 PySem.Challenge.pw_or0062_01.main.body))) p149 b149 s149 → ∀ (p156 : Arguments) (b156 : List Stmt) (s156 : Scope), FD (nthS 2 (clsB (nthS 22 PySem.Challenge.pw_or0062_01.main.body))) p156 b156 s156 → ∀ (p170 : Arguments) (b170 : List Stmt) (s170 : Scope), FD (nthS 23 PySem.Challenge.pw_or0062_01.main.body) p170 b170 s170 → ∀ (p177 : Arguments) (b177 : List Stmt) (s177 : Scope), FD (nthS 24 PySem.Challenge.pw_or0062_01.main.body) p177 b177 s177 → ∀ (p184 : Arguments) (b184 : List Stmt) (s184 : Scope), FD (nthS 25 PySem.Challenge.pw_or0062_01.main.body) p184 b184 s184 → ∀ (p189 : Arguments) (b189 : List Stmt) (s189 : Scope), FD (nthS 29 PySem.Challenge.pw_or0062_01.main.body) p189 b189 s189 → ∀ (p194 : Arguments) (b194 : List Stmt) (s194 : Scope), FD (nthS 30 PySem.Challenge.pw_or0062_01.main.body) p194 b194 s194 → ∀ (p201 : Arguments) (b201 : List Stmt) (s201 : Scope), FD (nthS 31 PySem.Challenge.pw_or0062_01.main.body) p201 b201 s201 → ∀ (p208 : Arguments) (b208 : List Stmt) (s208 : Scope), FD (nthS 36 PySem.Challenge.pw_or0062_01.main.body) p208 b208 s208 → ∀ (p215 : Arguments) (b215 : List Stmt) (s215 : Scope), FD (nthS 37 PySem.Challenge.pw_or0062_01.main.body) p215 b215 s215 → ∀ (p222 : Arguments) (b222 : List Stmt) (s222 : Scope), FD (nthS 38 PySem.Challenge.pw_or0062_01.main.body) p222 b222 s222 → ∀ (p227 : Arguments) (b227 : List Stmt) (s227 : Scope), FD (nthS 39 PySem.Challenge.pw_or0062_01.main.body) p227 b227 s227 → ∀ (p236 : Arguments) (b236 : List Stmt) (s236 : Scope), FD (nthS 45 PySem.Challenge.pw_or0062_01.main.body) p236 b236 s236 → ∀ (p243 : Arguments) (b243 : List Stmt) (s243 : Scope), FD (nthS 46 PySem.Challenge.pw_or0062_01.main.body) p243 b243 s243 → ∀ (p248 : Arguments) (b248 : List Stmt) (s248 : Scope), FD (nthS 47 PySem.Challenge.pw_or0062_01.main.body) p248 b248 s248 → ∀ (p255 : Arguments) (b255 : List Stmt) (s255 : Scope), FD (nthS 48 PySem.Challenge.pw_or0062_01.main.body) p255 b255 s255 → ∀ (p260 : Arguments) (b260 : List Stmt) (s260 : Scope), FD (nthS 49 PySem.Challenge.pw_or0062_01.main.body) p260 b260 s260 → ∀ (p267 : Arguments) (b267 : List Stmt) (s267 : Scope), FD (nthS 50 PySem.Challenge.pw_or0062_01.main.body) p267 b267 s267 → ∀ (p274 : Arguments) (b274 : List Stmt) (s274 : Scope), FD (nthS 51 PySem.Challenge.pw_or0062_01.main.body) p274 b274 s274 → ∀ (p279 : Arguments) (b279 : List Stmt) (s279 : Scope), FD (nthS 52 PySem.Challenge.pw_or0062_01.main.body) p279 b279 s279 → ∀ (p286 : Arguments) (b286 : List Stmt) (s286 : Scope), FD (nthS 53 PySem.Challenge.pw_or0062_01.main.body) p286 b286 s286 → ∀ (p293 : Arguments) (b293 : List Stmt) (s293 : Scope), FD (nthS 55 PySem.Challenge.pw_or0062_01.main.body) p293 b293 s293 → ∀ (p300 : Arguments) (b300 : List Stmt) (s300 : Scope), FD (nthS 56 PySem.Challenge.pw_or0062_01.main.body) p300 b300 s300 → ∀ (p307 : Arguments) (b307 : List Stmt) (s307 : Scope), FD (nthS 57 PySem.Challenge.pw_or0062_01.main.body) p307 b307 s307 → ∀ (p314 : Arguments) (b314 : List Stmt) (s314 : Scope), FD (nthS 58 PySem.Challenge.pw_or0062_01.main.body) p314 b314 s314 → ∀ (p321 : Arguments) (b321 : List Stmt) (s321 : Scope), FD (nthS 59 PySem.Challenge.pw_or0062_01.main.body) p321 b321 s321 → ∀ (p330 : Arguments) (b330 : List Stmt) (s330 : Scope), FD (nthS 63 PySem.Challenge.pw_or0062_01.main.body) p330 b330 s330 → ∀ (p337 : Arguments) (b337 : List Stmt) (s337 : Scope), FD (nthS 64 PySem.Challenge.pw_or0062_01.main.body) p337 b337 s337 → ∀ (p342 : Arguments) (b342 : List Stmt) (s342 : Scope), FD (nthS 65 PySem.Challenge.pw_or0062_01.main.body) p342 b342 s342 → ∀ (p347 : Arguments) (b347 : List Stmt) (s347 : Scope), FD (nthS 66 PySem.Challenge.pw_or0062_01.main.body) p347 b347 s347 → ∀ (p352 : Arguments) (b352 : List Stmt) (s352 : Scope), FD (nthS 67 PySem.Challenge.pw_or0062_01.main.body) p352 b352 s352 → Params → Frag) _ _ _ ⟨_, _, _, _, _, _, _, rfl⟩ _ _ _ ⟨_, _, _, _, _, _, _, rfl⟩ _ _ _ ⟨_, _, _, _, _, _, _, rfl⟩ _ _ _ ⟨_, _, _, _, _, _, _, rfl⟩ _ _ _ ⟨_, _, _, _, _, _, _, rfl⟩ _ _ _ ⟨_, _, _, _, _, _, _, rfl⟩ _ _ _ ⟨_, _, _, _, _, _, _, rfl⟩ _ _ _ ⟨_, _, _, _, _, _, _, rfl⟩ _ _ _ ⟨_, _, _, _, _, _, _, rfl⟩ _ _ _ ⟨_, _, _, _, _, _, _, rfl⟩ _ _ _ ⟨_, _, _, _, _, _, _, rfl⟩ _ _ _ ⟨_, _, _, _, _, _, _, rfl⟩ _ _ _ ⟨_, _, _, _, _, _, _, rfl⟩ _ _ _ ⟨_, _, _, _, _, _, _, rfl⟩ _ _ _ ⟨_, _, _, _, _, _, _, rfl⟩ _ _ _ ⟨_, _, _, _, _, _, _, rfl⟩ _ _ _ ⟨_, _, _, _, _, _, _, rfl⟩ _ _ _ ⟨_, _, _, _, _, _, _, rfl⟩ _ _ _ ⟨_, _, _, _, _, _, _, rfl⟩ _ _ _ ⟨_, _, _, _, _, _, _, rfl⟩ _ _ _ ⟨_, _, _, _, _, _, _, rfl⟩ _ _ _ ⟨_, _, _, _, _, _, _, rfl⟩ _ _ _ ⟨_, _, _, _, _, _, _, rfl⟩ _ _ _ ⟨_, _, _, _, _, _, _, rfl⟩ _ _ _ ⟨_, _, _, _, _, _, _, rfl⟩ _ _ _ ⟨_, _, _, _, _, _, _, rfl⟩ _ _ _ ⟨_, _, _, _, _, _, _, rfl⟩ _ _ _ ⟨_, _, _, _, _, _, _, rfl⟩ _ _ _ ⟨_, _, _, _, _, _, _, rfl⟩ _ _ _ ⟨_, _, _, _, _, _, _, rfl⟩ _ _ _ ⟨_, _, _, _, _, _, _, rfl⟩ _ _ _ ⟨_, _, _, _, _, _, _, rfl⟩ _ _ _ ⟨_, _, _, _, _, _, _, rfl⟩ _ _ _ ⟨_, _, _, _, _, _, _, rfl⟩ _ _ _ ⟨_, _, _, _, _, _, _, rfl⟩ _ _ _ ⟨_, _, _, _, _, _, _, rfl⟩ _ _ _ ⟨_, _, _, _, _, _, _, rfl⟩ _ _ _ ⟨_, _, _, _, _, _, _, rfl⟩ _ _ _ ⟨_, _, _, _, _, _, _, rfl⟩ _ _ _ ⟨_, _, _, _, _, _, _, rfl⟩ _ _ _ ⟨_, _, _, _, _, _, _, rfl⟩ _ _ _ ⟨_, _, _, _, _, _, _, rfl⟩ _ _ _ ⟨_, _, _, _, _, _, _, rfl⟩ _ _ _ ⟨_, _, _, _, _, _, _, rfl⟩ _ _ _ ⟨_, _, _, _, _, _, _, rfl⟩
  exact fun p29 b29 s29 _ p36 b36 s36 _ p61 b61 s61 _ p66 b66 s66 _ p74 b74 s74 _ p81 b81 s81 _ p88 b88 s88 _ p95 b95 s95 _ p102 b102 s102 _ p109 b109 s109 _ p116 b116 s116 _ p123 b123 s123 _ p130 b130 s130 _ p144 b144 s144 _ p149 b149 s149 _ p156 b156 s156 _ p170 b170 s170 _ p177 b177 s177 _ p184 b184 s184 _ p189 b189 s189 _ p194 b194 s194 _ p201 b201 s201 _ p208 b208 s208 _ p215 b215 s215 _ p222 b222 s222 _ p227 b227 s227 _ p236 b236 s236 _ p243 b243 s243 _ p248 b248 s248 _ p255 b255 s255 _ p260 b260 s260 _ p267 b267 s267 _ p274 b274 s274 _ p279 b279 s279 _ p286 b286 s286 _ p293 b293 s293 _ p300 b300 s300 _ p307 b307 s307 _ p314 b314 s314 _ p321 b321 s321 _ p330 b330 s330 _ p337 b337 s337 _ p342 b342 s342 _ p347 b347 s347 _ p352 b352 s352 _ => fun P =>
((nat_lit 2), ⟨.none, (.none), (.dict #[⟨(PyData.keyHash P (.ofString "type.__subclasses__.Exception.0")), (.str (.ofString "type.__subclasses__.Exception.0") 225), (.int 39 0)⟩, ⟨(PyData.keyHash P (.ofString "type.__subclasses__.Exception.n")), (.str (.ofString "type.__subclasses__.Exception.n") 226), (.int 1 0)⟩] 2), #[]⟩) ::
((nat_lit 3), ⟨(.type "dict"), (.none), (.dict (List.toArray (⟨(PyData.keyHash P (.ofString "__name__")), (.str (.ofString "__name__") 165), (.str (.ofString "law_or0062_01") 635)⟩ :: ⟨(PyData.keyHash P (.ofString "__doc__")), (.str (.ofString "__doc__") 166), .none⟩ :: ⟨(PyData.keyHash P (.ofString "__package__")), (.str (.ofString "__package__") 167), .none⟩ :: ⟨(PyData.keyHash P (.ofString "__loader__")), (.str (.ofString "__loader__") 168), (.builtin "__main__.__loader__#opaque")⟩ :: ⟨(PyData.keyHash P (.ofString "__spec__")), (.str (.ofString "__spec__") 169), .none⟩ :: ⟨(PyData.keyHash P (.ofString "__annotations__")), (.str (.ofString "__annotations__") 170), (.ref 6)⟩ :: ⟨(PyData.keyHash P (.ofString "__builtins__")), (.str (.ofString "__builtins__") 171), (.ref 4)⟩ :: ⟨(PyData.keyHash P (.ofString "__file__")), (.str (.ofString "__file__") 173), (.str (.ofString "/claim/cut.py") 172)⟩ :: ⟨(PyData.keyHash P (.ofString "__cached__")), (.str (.ofString "__cached__") 174), .none⟩ :: ⟨(PyData.keyHash P (.ofString "PostError")), (.str (.ofString "PostError") 228), (.ref 39)⟩ :: ⟨(PyData.keyHash P (.ofString "MimeFault")), (.str (.ofString "MimeFault") 244), (.ref 52)⟩ :: ⟨(PyData.keyHash P (.ofString "lower_code")), (.str (.ofString "lower_code") 253), (.ref 61)⟩ :: ⟨(PyData.keyHash P (.ofString "lower_text")), (.str (.ofString "lower_text") 259), (.ref 66)⟩ :: ⟨(PyData.keyHash P (.ofString "ASCII")), (.str (.ofString "ASCII") 263), (.str (.ofString "us-ascii") 262)⟩ :: ⟨(PyData.keyHash P (.ofString "LATIN")), (.str (.ofString "LATIN") 265), (.str (.ofString "iso-8859-1") 264)⟩ :: ⟨(PyData.keyHash P (.ofString "UTF8")), (.str (.ofString "UTF8") 267), (.str (.ofString "utf-8") 266)⟩ :: ⟨(PyData.keyHash P (.ofString "CHARSETS")), (.str (.ofString "CHARSETS") 268), (.ref 67)⟩ :: ⟨(PyData.keyHash P (.ofString "UNKNOWN_SIGN")), (.str (.ofString "UNKNOWN_SIGN") 271), (.str (.ofString "�") 270)⟩ :: ⟨(PyData.keyHash P (.ofString "charset_names")), (.str (.ofString "charset_names") 279), (.ref 74)⟩ :: ⟨(PyData.keyHash P (.ofString "charset_name")), (.str (.ofString "charset_name") 286), (.ref 81)⟩ :: ⟨(PyData.keyHash P (.ofString "need_charset")), (.str (.ofString "need_charset") 293), (.ref 88)⟩ :: ⟨(PyData.keyHash P (.ofString "follower_span")), (.str (.ofString "follower_span") 300), (.ref 95)⟩ :: ⟨(PyData.keyHash P (.ofString "utf8_sign")), (.str (.ofString "utf8_sign") 314), (.ref 102)⟩ :: ⟨(PyData.keyHash P (.ofString "sign_at")), (.str (.ofString "sign_at") 323), (.ref 109)⟩ :: ⟨(PyData.keyHash P (.ofString "text_in")), (.str (.ofString "text_in") 335), (.ref 116)⟩ :: ⟨(PyData.keyHash P (.ofString "strict_text")), (.str (.ofString "strict_text") 347), (.ref 123)⟩ :: ⟨(PyData.keyHash P (.ofString "guessed_text")), (.str (.ofString "guessed_text") 354), (.ref 130)⟩ :: ⟨(PyData.keyHash P (.ofString "Field")), (.str (.ofString "Field") 400), (.ref 159)⟩ :: ⟨(PyData.keyHash P (.ofString "line_at")), (.str (.ofString "line_at") 410), (.ref 170)⟩ :: ⟨(PyData.keyHash P (.ofString "rows_of")), (.str (.ofString "rows_of") 421), (.ref 177)⟩ :: ⟨(PyData.keyHash P (.ofString "unfolded")), (.str (.ofString "unfolded") 428), (.ref 184)⟩ :: ⟨(PyData.keyHash P (.ofString "SIGNS")), (.str (.ofString "SIGNS") 432), (.bytes (List.toArray (65 :: 66 :: 67 :: 68 :: 69 :: 70 :: 71 :: 72 :: 73 :: 74 :: 75 :: 76 :: 77 :: 78 :: 79 :: 80 :: 81 :: 82 :: 83 :: 84 :: 85 :: 86 :: 87 :: 88 :: 89 :: 90 :: 97 :: 98 :: 99 :: 100 :: 101 :: 102 :: 103 :: 104 :: 105 :: 106 :: 107 :: 108 :: 109 :: 110 :: 111 :: 112 :: 113 :: 114 :: 115 :: 116 :: 117 :: 118 :: 119 :: 120 :: 121 :: 122 :: 48 :: 49 :: 50 :: 51 :: 52 :: 53 :: 54 :: 55 :: 56 :: 57 :: 43 :: 47 :: [])) 431)⟩ :: ⟨(PyData.keyHash P (.ofString "PAD")), (.str (.ofString "PAD") 434), (.int 61 433)⟩ :: ⟨(PyData.keyHash P (.ofString "worth_table")), (.str (.ofString "worth_table") 440), (.ref 189)⟩ :: ⟨(PyData.keyHash P (.ofString "group_octets")), (.str (.ofString "group_octets") 446), (.ref 194)⟩ :: ⟨(PyData.keyHash P (.ofString "decoded")), (.str (.ofString "decoded") 458), (.ref 201)⟩ :: ⟨(PyData.keyHash P (.ofString "EQUALS")), (.str (.ofString "EQUALS") 462), (.int 61 461)⟩ :: ⟨(PyData.keyHash P (.ofString "BLANK")), (.str (.ofString "BLANK") 464), (.int 32 463)⟩ :: ⟨(PyData.keyHash P (.ofString "UNDERLINE")), (.str (.ofString "UNDERLINE") 466), (.int 95 465)⟩ :: ⟨(PyData.keyHash P (.ofString "hex_worth")), (.str (.ofString "hex_worth") 473), (.ref 208)⟩ :: ⟨(PyData.keyHash P (.ofString "quoted_at")), (.str (.ofString "quoted_at") 483), (.ref 215)⟩ :: ⟨(PyData.keyHash P (.ofString "unquoted")), (.str (.ofString "unquoted") 493), (.ref 222)⟩ :: ⟨(PyData.keyHash P (.ofString "word_q_decoded")), (.str (.ofString "word_q_decoded") 499), (.ref 227)⟩ :: ⟨(PyData.keyHash P (.ofString "WHITE")), (.str (.ofString "WHITE") 506), (.ref 228)⟩ :: ⟨(PyData.keyHash P (.ofString "OPENING")), (.str (.ofString "OPENING") 508), (.int 40 507)⟩ :: ⟨(PyData.keyHash P (.ofString "CLOSING")), (.str (.ofString "CLOSING") 510), (.int 41 509)⟩ :: ⟨(PyData.keyHash P (.ofString "WAYS")), (.str (.ofString "WAYS") 513), (.ref 229)⟩ :: ⟨(PyData.keyHash P (.ofString "is_word_sign")), (.str (.ofString "is_word_sign") 520), (.ref 236)⟩ :: ⟨(PyData.keyHash P (.ofString "part_end")), (.str (.ofString "part_end") 529), (.ref 243)⟩ :: ⟨(PyData.keyHash P (.ofString "word_parts")), (.str (.ofString "word_parts") 535), (.ref 248)⟩ :: ⟨(PyData.keyHash P (.ofString "is_apart")), (.str (.ofString "is_apart") 544), (.ref 255)⟩ :: ⟨(PyData.keyHash P (.ofString "plain_text")), (.str (.ofString "plain_text") 550), (.ref 260)⟩ :: ⟨(PyData.keyHash P (.ofString "word_at")), (.str (.ofString "word_at") 562), (.ref 267)⟩ :: ⟨(PyData.keyHash P (.ofString "pieces_of")), (.str (.ofString "pieces_of") 573), (.ref 274)⟩ :: ⟨(PyData.keyHash P (.ofString "all_white")), (.str (.ofString "all_white") 579), (.ref 279)⟩ :: ⟨(PyData.keyHash P (.ofString "decoded_words")), (.str (.ofString "decoded_words") 591), (.ref 286)⟩ :: ⟨(PyData.keyHash P (.ofString "is_within")), (.str (.ofString "is_within") 601), (.ref 293)⟩ :: ⟨(PyData.keyHash P (.ofString "field_text")), (.str (.ofString "field_text") 608), (.ref 300)⟩ :: ⟨(PyData.keyHash P (.ofString "field_line")), (.str (.ofString "field_line") 615), (.ref 307)⟩ :: ⟨(PyData.keyHash P (.ofString "header_holds")), (.str (.ofString "header_holds") 625), (.ref 314)⟩ :: ⟨(PyData.keyHash P (.ofString "head_holds")), (.str (.ofString "head_holds") 634), (.ref 321)⟩ :: ⟨(PyData.keyHash P (.ofString "_law_names")), (.str (.ofString "_law_names") 642), (.ref 322)⟩ :: ⟨(PyData.keyHash P (.ofString "_law_words")), (.str (.ofString "_law_words") 650), (.ref 323)⟩ :: ⟨(PyData.keyHash P (.ofString "_law_take")), (.str (.ofString "_law_take") 658), (.ref 330)⟩ :: ⟨(PyData.keyHash P (.ofString "_law_wide")), (.str (.ofString "_law_wide") 668), (.ref 337)⟩ :: ⟨(PyData.keyHash P (.ofString "_law_small")), (.str (.ofString "_law_small") 674), (.ref 342)⟩ :: ⟨(PyData.keyHash P (.ofString "_law_field")), (.str (.ofString "_law_field") 680), (.ref 347)⟩ :: ⟨(PyData.keyHash P (.ofString "law")), (.str (.ofString "law") 686), (.ref 352)⟩ :: [])) 68), #[]⟩) ::
((nat_lit 15), ⟨(.type "tuple"), (.none), (.seq #[(.type "Exception")] 0), #[]⟩) ::
((nat_lit 22), ⟨(.type "tuple"), (.none), (.seq #[(.int (-1) 202)] 0), #[]⟩) ::
((nat_lit 23), ⟨(.type "tuple"), (.none), (.seq #[] 0), #[]⟩) ::
((nat_lit 25), ⟨(.type "tuple"), (.none), (.seq #[(.str (.ofString "self") 206), (.str (.ofString "what") 207), (.str (.ofString "at") 208)] 0), #[]⟩) ::
((nat_lit 26), ⟨(.type "tuple"), (.none), (.seq #[] 0), #[]⟩) ::
((nat_lit 28), ⟨(.type "code"), (.none), (.fields #[(.str (.ofString "__init__") 203), (.str (.ofString "PostError.__init__") 204), (.str (.ofString "/claim/cut.py") 205), (.int 4 0), (.int 3 0), (.int 0 0), (.int 0 0), (.int 3 0), (.ref 23), (.bool true), (.int 181 0), (.ref 24), .none, (.ref 25), (.ref 26), (.ref 27), (.int 209 0), (.int 4 0), (.str (.ofString "/claim/cut.py") 210)]), #[]⟩) ::
((nat_lit 29), ⟨(.type "function"), (.none), (.func ⟨(.ofString "__init__"), (.ofString "PostError.__init__"), p29, .stmts b29, s29, 3, [], (.ref 22), .none, .none, (.str (.ofString "postkeep.errors") 187), (.none), (.ref 28), .none, 0⟩), #[]⟩) ::
((nat_lit 30), ⟨(.type "tuple"), (.none), (.seq #[] 0), #[]⟩) ::
((nat_lit 32), ⟨(.type "tuple"), (.none), (.seq #[(.str (.ofString "self") 215)] 0), #[]⟩) ::
((nat_lit 33), ⟨(.type "tuple"), (.none), (.seq #[] 0), #[]⟩) ::
((nat_lit 35), ⟨(.type "code"), (.none), (.fields #[(.str (.ofString "told") 212), (.str (.ofString "PostError.told") 213), (.str (.ofString "/claim/cut.py") 214), (.int 9 0), (.int 1 0), (.int 0 0), (.int 0 0), (.int 3 0), (.ref 30), (.bool true), (.int 181 0), (.ref 31), .none, (.ref 32), (.ref 33), (.ref 34), (.int 216 0), (.int 9 0), (.str (.ofString "/claim/cut.py") 217)]), #[]⟩) ::
((nat_lit 36), ⟨(.type "function"), (.none), (.func ⟨(.ofString "told"), (.ofString "PostError.told"), p36, .stmts b36, s36, 3, [], .none, .none, .none, (.str (.ofString "postkeep.errors") 187), (.none), (.ref 35), .none, 0⟩), #[]⟩) ::
((nat_lit 37), ⟨(.type "tuple"), (.none), (.seq #[(.str (.ofString "at") 219), (.str (.ofString "what") 220)] 0), #[]⟩) ::
((nat_lit 38), ⟨(.type "dict"), (.none), (.dict #[⟨(PyData.keyHash P (.ofString "__module__")), (.str (.ofString "__module__") 196), (.str (.ofString "postkeep.errors") 187)⟩, ⟨(PyData.keyHash P (.ofString "__firstlineno__")), (.str (.ofString "__firstlineno__") 200), (.int 2 199)⟩, ⟨(PyData.keyHash P (.ofString "__init__")), (.str (.ofString "__init__") 211), (.ref 29)⟩, ⟨(PyData.keyHash P (.ofString "told")), (.str (.ofString "told") 218), (.ref 36)⟩, ⟨(PyData.keyHash P (.ofString "__static_attributes__")), (.str (.ofString "__static_attributes__") 221), (.ref 37)⟩, ⟨(PyData.keyHash P (.ofString "__weakref__")), (.str (.ofString "__weakref__") 223), (.ref 40)⟩, ⟨(PyData.keyHash P (.ofString "__doc__")), (.str (.ofString "__doc__") 224), .none⟩] 3), #[]⟩) ::
((nat_lit 39), ⟨(.type "type"), (.none), (.cls ⟨(.ofString "PostError"), [(.type "Exception")], [(.ref 39), (.type "Exception"), (.type "BaseException"), (.type "object")], 38, (.ofString "PostError"), true, [], [(.ref 52)], false, (.none), false⟩), #[(some (.ref 15)), (.none), (some (.str (.ofString "PostError") 189)), (some (.str (.ofString "PostError") 197)), (some (.builtin "Exception.__new__")), (some (.bool true))]⟩) ::
((nat_lit 40), ⟨(.type "getset_descriptor"), (.none), (.fields #[(.str (.ofString "__weakref__") 222), (.ref 39), (.builtin "ExceptionGroup.__weakref__"), .none]), #[]⟩) ::
((nat_lit 43), ⟨(.type "tuple"), (.none), (.seq #[(.ref 39)] 0), #[]⟩) ::
((nat_lit 50), ⟨(.type "tuple"), (.none), (.seq #[] 0), #[]⟩) ::
((nat_lit 51), ⟨(.type "dict"), (.none), (.dict #[⟨(PyData.keyHash P (.ofString "__module__")), (.str (.ofString "__module__") 236), (.str (.ofString "postkeep.errors") 187)⟩, ⟨(PyData.keyHash P (.ofString "__firstlineno__")), (.str (.ofString "__firstlineno__") 240), (.int 11 239)⟩, ⟨(PyData.keyHash P (.ofString "__static_attributes__")), (.str (.ofString "__static_attributes__") 241), (.ref 50)⟩, ⟨(PyData.keyHash P (.ofString "__doc__")), (.str (.ofString "__doc__") 242), .none⟩] 2), #[]⟩) ::
((nat_lit 52), ⟨(.type "type"), (.none), (.cls ⟨(.ofString "MimeFault"), [(.ref 39)], [(.ref 52), (.ref 39), (.type "Exception"), (.type "BaseException"), (.type "object")], 51, (.ofString "MimeFault"), true, [], [], false, (.none), false⟩), #[(some (.ref 43)), (.none), (some (.str (.ofString "MimeFault") 229)), (some (.str (.ofString "MimeFault") 237)), (some (.builtin "Exception.__new__")), (some (.bool true))]⟩) ::
((nat_lit 55), ⟨(.type "tuple"), (.none), (.seq #[] 0), #[]⟩) ::
((nat_lit 57), ⟨(.type "tuple"), (.none), (.seq #[(.str (.ofString "code") 250)] 0), #[]⟩) ::
((nat_lit 58), ⟨(.type "tuple"), (.none), (.seq #[] 0), #[]⟩) ::
((nat_lit 60), ⟨(.type "code"), (.none), (.fields #[(.str (.ofString "lower_code") 247), (.str (.ofString "lower_code") 248), (.str (.ofString "/claim/cut.py") 249), (.int 14 0), (.int 1 0), (.int 0 0), (.int 0 0), (.int 3 0), (.ref 55), (.bool true), (.int 181 0), (.ref 56), .none, (.ref 57), (.ref 58), (.ref 59), (.int 251 0), (.int 14 0), (.str (.ofString "/claim/cut.py") 252)]), #[]⟩) ::
((nat_lit 61), ⟨(.type "function"), (.none), (.func ⟨(.ofString "lower_code"), (.ofString "lower_code"), p61, .stmts b61, s61, 3, [], .none, .none, .none, (.str (.ofString "postkeep.octets") 245), (.none), (.ref 60), .none, 0⟩), #[]⟩) ::
((nat_lit 62), ⟨(.type "tuple"), (.none), (.seq #[] 0), #[]⟩) ::
((nat_lit 65), ⟨(.type "code"), (.none), (.fields #[(.str (.ofString "lower_text") 254), (.str (.ofString "lower_text") 255), (.str (.ofString "/claim/cut.py") 256), (.int 16 0), (.int 1 0), (.int 0 0), (.int 0 0), (.int 3 0), (.ref 62), (.bool true), (.int 181 0), (.ref 63), .none, .none, .none, (.ref 64), (.int 257 0), (.int 16 0), (.str (.ofString "/claim/cut.py") 258)]), #[]⟩) ::
((nat_lit 66), ⟨(.type "function"), (.none), (.func ⟨(.ofString "lower_text"), (.ofString "lower_text"), p66, .stmts b66, s66, 3, [], .none, .none, .none, (.str (.ofString "postkeep.octets") 245), (.none), (.ref 65), .none, 0⟩), #[]⟩) ::
((nat_lit 67), ⟨(.type "tuple"), (.none), (.seq #[(.str (.ofString "us-ascii") 262), (.str (.ofString "iso-8859-1") 264), (.str (.ofString "utf-8") 266)] 0), #[]⟩) ::
((nat_lit 68), ⟨(.type "tuple"), (.none), (.seq #[] 0), #[]⟩) ::
((nat_lit 70), ⟨(.type "tuple"), (.none), (.seq #[(.str (.ofString "found") 275), (.str (.ofString "alias") 276)] 0), #[]⟩) ::
((nat_lit 71), ⟨(.type "tuple"), (.none), (.seq #[] 0), #[]⟩) ::
((nat_lit 73), ⟨(.type "code"), (.none), (.fields #[(.str (.ofString "charset_names") 272), (.str (.ofString "charset_names") 273), (.str (.ofString "/claim/cut.py") 274), (.int 24 0), (.int 0 0), (.int 0 0), (.int 0 0), (.int 3 0), (.ref 68), (.bool true), (.int 181 0), (.ref 69), .none, (.ref 70), (.ref 71), (.ref 72), (.int 277 0), (.int 24 0), (.str (.ofString "/claim/cut.py") 278)]), #[]⟩) ::
((nat_lit 74), ⟨(.type "function"), (.none), (.func ⟨(.ofString "charset_names"), (.ofString "charset_names"), p74, .stmts b74, s74, 3, [], .none, .none, .none, (.str (.ofString "postkeep.charsets") 260), (.none), (.ref 73), .none, 0⟩), #[]⟩) ::
((nat_lit 75), ⟨(.type "tuple"), (.none), (.seq #[] 0), #[]⟩) ::
((nat_lit 77), ⟨(.type "tuple"), (.none), (.seq #[(.str (.ofString "text") 283)] 0), #[]⟩) ::
((nat_lit 78), ⟨(.type "tuple"), (.none), (.seq #[] 0), #[]⟩) ::
((nat_lit 80), ⟨(.type "code"), (.none), (.fields #[(.str (.ofString "charset_name") 280), (.str (.ofString "charset_name") 281), (.str (.ofString "/claim/cut.py") 282), (.int 33 0), (.int 1 0), (.int 0 0), (.int 0 0), (.int 3 0), (.ref 75), (.bool true), (.int 181 0), (.ref 76), .none, (.ref 77), (.ref 78), (.ref 79), (.int 284 0), (.int 33 0), (.str (.ofString "/claim/cut.py") 285)]), #[]⟩) ::
((nat_lit 81), ⟨(.type "function"), (.none), (.func ⟨(.ofString "charset_name"), (.ofString "charset_name"), p81, .stmts b81, s81, 3, [], .none, .none, .none, (.str (.ofString "postkeep.charsets") 260), (.none), (.ref 80), .none, 0⟩), #[]⟩) ::
((nat_lit 82), ⟨(.type "tuple"), (.none), (.seq #[] 0), #[]⟩) ::
((nat_lit 84), ⟨(.type "tuple"), (.none), (.seq #[(.str (.ofString "charset") 290)] 0), #[]⟩) ::
((nat_lit 85), ⟨(.type "tuple"), (.none), (.seq #[] 0), #[]⟩) ::
((nat_lit 87), ⟨(.type "code"), (.none), (.fields #[(.str (.ofString "need_charset") 287), (.str (.ofString "need_charset") 288), (.str (.ofString "/claim/cut.py") 289), (.int 35 0), (.int 1 0), (.int 0 0), (.int 0 0), (.int 3 0), (.ref 82), (.bool true), (.int 181 0), (.ref 83), .none, (.ref 84), (.ref 85), (.ref 86), (.int 291 0), (.int 35 0), (.str (.ofString "/claim/cut.py") 292)]), #[]⟩) ::
((nat_lit 88), ⟨(.type "function"), (.none), (.func ⟨(.ofString "need_charset"), (.ofString "need_charset"), p88, .stmts b88, s88, 3, [], .none, .none, .none, (.str (.ofString "postkeep.charsets") 260), (.none), (.ref 87), .none, 0⟩), #[]⟩) ::
((nat_lit 89), ⟨(.type "tuple"), (.none), (.seq #[] 0), #[]⟩) ::
((nat_lit 91), ⟨(.type "tuple"), (.none), (.seq #[(.str (.ofString "lead") 297)] 0), #[]⟩) ::
((nat_lit 92), ⟨(.type "tuple"), (.none), (.seq #[] 0), #[]⟩) ::
((nat_lit 94), ⟨(.type "code"), (.none), (.fields #[(.str (.ofString "follower_span") 294), (.str (.ofString "follower_span") 295), (.str (.ofString "/claim/cut.py") 296), (.int 38 0), (.int 1 0), (.int 0 0), (.int 0 0), (.int 3 0), (.ref 89), (.bool true), (.int 181 0), (.ref 90), .none, (.ref 91), (.ref 92), (.ref 93), (.int 298 0), (.int 38 0), (.str (.ofString "/claim/cut.py") 299)]), #[]⟩) ::
((nat_lit 95), ⟨(.type "function"), (.none), (.func ⟨(.ofString "follower_span"), (.ofString "follower_span"), p95, .stmts b95, s95, 3, [], .none, .none, .none, (.str (.ofString "postkeep.charsets") 260), (.none), (.ref 94), .none, 0⟩), #[]⟩) ::
((nat_lit 96), ⟨(.type "tuple"), (.none), (.seq #[] 0), #[]⟩) ::
((nat_lit 98), ⟨(.type "tuple"), (.none), (.seq #[(.str (.ofString "octets") 304), (.str (.ofString "at") 305), (.str (.ofString "lead") 306), (.str (.ofString "least") 307), (.str (.ofString "most") 308), (.str (.ofString "count") 309), (.str (.ofString "code") 310), (.str (.ofString "place") 311)] 0), #[]⟩) ::
((nat_lit 99), ⟨(.type "tuple"), (.none), (.seq #[] 0), #[]⟩) ::
((nat_lit 101), ⟨(.type "code"), (.none), (.fields #[(.str (.ofString "utf8_sign") 301), (.str (.ofString "utf8_sign") 302), (.str (.ofString "/claim/cut.py") 303), (.int 46 0), (.int 2 0), (.int 0 0), (.int 0 0), (.int 3 0), (.ref 96), (.bool true), (.int 181 0), (.ref 97), .none, (.ref 98), (.ref 99), (.ref 100), (.int 312 0), (.int 46 0), (.str (.ofString "/claim/cut.py") 313)]), #[]⟩) ::
((nat_lit 102), ⟨(.type "function"), (.none), (.func ⟨(.ofString "utf8_sign"), (.ofString "utf8_sign"), p102, .stmts b102, s102, 3, [], .none, .none, .none, (.str (.ofString "postkeep.charsets") 260), (.none), (.ref 101), .none, 0⟩), #[]⟩) ::
((nat_lit 103), ⟨(.type "tuple"), (.none), (.seq #[] 0), #[]⟩) ::
((nat_lit 105), ⟨(.type "tuple"), (.none), (.seq #[(.str (.ofString "charset") 318), (.str (.ofString "octets") 319), (.str (.ofString "at") 320)] 0), #[]⟩) ::
((nat_lit 106), ⟨(.type "tuple"), (.none), (.seq #[] 0), #[]⟩) ::
((nat_lit 108), ⟨(.type "code"), (.none), (.fields #[(.str (.ofString "sign_at") 315), (.str (.ofString "sign_at") 316), (.str (.ofString "/claim/cut.py") 317), (.int 60 0), (.int 3 0), (.int 0 0), (.int 0 0), (.int 3 0), (.ref 103), (.bool true), (.int 181 0), (.ref 104), .none, (.ref 105), (.ref 106), (.ref 107), (.int 321 0), (.int 60 0), (.str (.ofString "/claim/cut.py") 322)]), #[]⟩) ::
((nat_lit 109), ⟨(.type "function"), (.none), (.func ⟨(.ofString "sign_at"), (.ofString "sign_at"), p109, .stmts b109, s109, 3, [], .none, .none, .none, (.str (.ofString "postkeep.charsets") 260), (.none), (.ref 108), .none, 0⟩), #[]⟩) ::
((nat_lit 110), ⟨(.type "tuple"), (.none), (.seq #[] 0), #[]⟩) ::
((nat_lit 112), ⟨(.type "tuple"), (.none), (.seq #[(.str (.ofString "charset") 327), (.str (.ofString "octets") 328), (.str (.ofString "signs") 329), (.str (.ofString "at") 330), (.str (.ofString "code") 331), (.str (.ofString "length") 332)] 0), #[]⟩) ::
((nat_lit 113), ⟨(.type "tuple"), (.none), (.seq #[] 0), #[]⟩) ::
((nat_lit 115), ⟨(.type "code"), (.none), (.fields #[(.str (.ofString "text_in") 324), (.str (.ofString "text_in") 325), (.str (.ofString "/claim/cut.py") 326), (.int 66 0), (.int 2 0), (.int 0 0), (.int 0 0), (.int 3 0), (.ref 110), (.bool true), (.int 181 0), (.ref 111), .none, (.ref 112), (.ref 113), (.ref 114), (.int 333 0), (.int 66 0), (.str (.ofString "/claim/cut.py") 334)]), #[]⟩) ::
((nat_lit 116), ⟨(.type "function"), (.none), (.func ⟨(.ofString "text_in"), (.ofString "text_in"), p116, .stmts b116, s116, 3, [], .none, .none, .none, (.str (.ofString "postkeep.charsets") 260), (.none), (.ref 115), .none, 0⟩), #[]⟩) ::
((nat_lit 117), ⟨(.type "tuple"), (.none), (.seq #[] 0), #[]⟩) ::
((nat_lit 119), ⟨(.type "tuple"), (.none), (.seq #[(.str (.ofString "charset") 339), (.str (.ofString "octets") 340), (.str (.ofString "signs") 341), (.str (.ofString "at") 342), (.str (.ofString "code") 343), (.str (.ofString "length") 344)] 0), #[]⟩) ::
((nat_lit 120), ⟨(.type "tuple"), (.none), (.seq #[] 0), #[]⟩) ::
((nat_lit 122), ⟨(.type "code"), (.none), (.fields #[(.str (.ofString "strict_text") 336), (.str (.ofString "strict_text") 337), (.str (.ofString "/claim/cut.py") 338), (.int 75 0), (.int 2 0), (.int 0 0), (.int 0 0), (.int 3 0), (.ref 117), (.bool true), (.int 181 0), (.ref 118), .none, (.ref 119), (.ref 120), (.ref 121), (.int 345 0), (.int 75 0), (.str (.ofString "/claim/cut.py") 346)]), #[]⟩) ::
((nat_lit 123), ⟨(.type "function"), (.none), (.func ⟨(.ofString "strict_text"), (.ofString "strict_text"), p123, .stmts b123, s123, 3, [], .none, .none, .none, (.str (.ofString "postkeep.charsets") 260), (.none), (.ref 122), .none, 0⟩), #[]⟩) ::
((nat_lit 124), ⟨(.type "tuple"), (.none), (.seq #[] 0), #[]⟩) ::
((nat_lit 126), ⟨(.type "tuple"), (.none), (.seq #[(.str (.ofString "octets") 351)] 0), #[]⟩) ::
((nat_lit 127), ⟨(.type "tuple"), (.none), (.seq #[] 0), #[]⟩) ::
((nat_lit 129), ⟨(.type "code"), (.none), (.fields #[(.str (.ofString "guessed_text") 348), (.str (.ofString "guessed_text") 349), (.str (.ofString "/claim/cut.py") 350), (.int 86 0), (.int 1 0), (.int 0 0), (.int 0 0), (.int 3 0), (.ref 124), (.bool true), (.int 181 0), (.ref 125), .none, (.ref 126), (.ref 127), (.ref 128), (.int 352 0), (.int 86 0), (.str (.ofString "/claim/cut.py") 353)]), #[]⟩) ::
((nat_lit 130), ⟨(.type "function"), (.none), (.func ⟨(.ofString "guessed_text"), (.ofString "guessed_text"), p130, .stmts b130, s130, 3, [], .none, .none, .none, (.str (.ofString "postkeep.charsets") 260), (.none), (.ref 129), .none, 0⟩), #[]⟩) ::
((nat_lit 138), ⟨(.type "tuple"), (.none), (.seq #[] 0), #[]⟩) ::
((nat_lit 140), ⟨(.type "tuple"), (.none), (.seq #[(.str (.ofString "self") 372), (.str (.ofString "name") 373), (.str (.ofString "raw") 374)] 0), #[]⟩) ::
((nat_lit 141), ⟨(.type "tuple"), (.none), (.seq #[] 0), #[]⟩) ::
((nat_lit 143), ⟨(.type "code"), (.none), (.fields #[(.str (.ofString "__init__") 369), (.str (.ofString "Field.__init__") 370), (.str (.ofString "/claim/cut.py") 371), (.int 94 0), (.int 3 0), (.int 0 0), (.int 0 0), (.int 3 0), (.ref 138), (.bool true), (.int 181 0), (.ref 139), .none, (.ref 140), (.ref 141), (.ref 142), (.int 375 0), (.int 94 0), (.str (.ofString "/claim/cut.py") 376)]), #[]⟩) ::
((nat_lit 144), ⟨(.type "function"), (.none), (.func ⟨(.ofString "__init__"), (.ofString "Field.__init__"), p144, .stmts b144, s144, 3, [], .none, .none, .none, (.str (.ofString "postkeep.headers") 355), (.none), (.ref 143), .none, 0⟩), #[]⟩) ::
((nat_lit 145), ⟨(.type "tuple"), (.none), (.seq #[] 0), #[]⟩) ::
((nat_lit 148), ⟨(.type "code"), (.none), (.fields #[(.str (.ofString "word") 378), (.str (.ofString "Field.word") 379), (.str (.ofString "/claim/cut.py") 380), (.int 98 0), (.int 1 0), (.int 0 0), (.int 0 0), (.int 3 0), (.ref 145), (.bool true), (.int 181 0), (.ref 146), .none, .none, .none, (.ref 147), (.int 381 0), (.int 98 0), (.str (.ofString "/claim/cut.py") 382)]), #[]⟩) ::
((nat_lit 149), ⟨(.type "function"), (.none), (.func ⟨(.ofString "word"), (.ofString "Field.word"), p149, .stmts b149, s149, 3, [], .none, .none, .none, (.str (.ofString "postkeep.headers") 355), (.none), (.ref 148), .none, 0⟩), #[]⟩) ::
((nat_lit 150), ⟨(.type "tuple"), (.none), (.seq #[] 0), #[]⟩) ::
((nat_lit 152), ⟨(.type "tuple"), (.none), (.seq #[(.str (.ofString "self") 387)] 0), #[]⟩) ::
((nat_lit 153), ⟨(.type "tuple"), (.none), (.seq #[] 0), #[]⟩) ::
((nat_lit 155), ⟨(.type "code"), (.none), (.fields #[(.str (.ofString "told") 384), (.str (.ofString "Field.told") 385), (.str (.ofString "/claim/cut.py") 386), (.int 101 0), (.int 1 0), (.int 0 0), (.int 0 0), (.int 3 0), (.ref 150), (.bool true), (.int 181 0), (.ref 151), .none, (.ref 152), (.ref 153), (.ref 154), (.int 388 0), (.int 101 0), (.str (.ofString "/claim/cut.py") 389)]), #[]⟩) ::
((nat_lit 156), ⟨(.type "function"), (.none), (.func ⟨(.ofString "told"), (.ofString "Field.told"), p156, .stmts b156, s156, 3, [], .none, .none, .none, (.str (.ofString "postkeep.headers") 355), (.none), (.ref 155), .none, 0⟩), #[]⟩) ::
((nat_lit 157), ⟨(.type "tuple"), (.none), (.seq #[(.str (.ofString "name") 391), (.str (.ofString "raw") 392)] 0), #[]⟩) ::
((nat_lit 158), ⟨(.type "dict"), (.none), (.dict #[⟨(PyData.keyHash P (.ofString "__module__")), (.str (.ofString "__module__") 364), (.str (.ofString "postkeep.headers") 355)⟩, ⟨(PyData.keyHash P (.ofString "__firstlineno__")), (.str (.ofString "__firstlineno__") 368), (.int 92 367)⟩, ⟨(PyData.keyHash P (.ofString "__init__")), (.str (.ofString "__init__") 377), (.ref 144)⟩, ⟨(PyData.keyHash P (.ofString "word")), (.str (.ofString "word") 383), (.ref 149)⟩, ⟨(PyData.keyHash P (.ofString "told")), (.str (.ofString "told") 390), (.ref 156)⟩, ⟨(PyData.keyHash P (.ofString "__static_attributes__")), (.str (.ofString "__static_attributes__") 393), (.ref 157)⟩, ⟨(PyData.keyHash P (.ofString "__dict__")), (.str (.ofString "__dict__") 395), (.ref 160)⟩, ⟨(PyData.keyHash P (.ofString "__weakref__")), (.str (.ofString "__weakref__") 397), (.ref 161)⟩, ⟨(PyData.keyHash P (.ofString "__doc__")), (.str (.ofString "__doc__") 398), .none⟩] 4), #[]⟩) ::
((nat_lit 159), ⟨(.type "type"), (.none), (.cls ⟨(.ofString "Field"), [(.type "object")], [(.ref 159), (.type "object")], 158, (.ofString "Field"), true, [], [], false, (.none), false⟩), #[(.none), (.none), (some (.str (.ofString "Field") 357)), (some (.str (.ofString "Field") 365)), (some (.builtin "object.__new__")), (some (.bool true))]⟩) ::
((nat_lit 160), ⟨(.type "getset_descriptor"), (.none), (.fields #[(.str (.ofString "__dict__") 394), (.ref 159), (.builtin "function.__dict__"), (.builtin "function.__dict__#set")]), #[]⟩) ::
((nat_lit 161), ⟨(.type "getset_descriptor"), (.none), (.fields #[(.str (.ofString "__weakref__") 396), (.ref 159), (.builtin "ExceptionGroup.__weakref__"), .none]), #[]⟩) ::
((nat_lit 164), ⟨(.type "tuple"), (.none), (.seq #[] 0), #[]⟩) ::
((nat_lit 166), ⟨(.type "tuple"), (.none), (.seq #[(.str (.ofString "data") 404), (.str (.ofString "at") 405), (.str (.ofString "end") 406), (.str (.ofString "spot") 407)] 0), #[]⟩) ::
((nat_lit 167), ⟨(.type "tuple"), (.none), (.seq #[] 0), #[]⟩) ::
((nat_lit 169), ⟨(.type "code"), (.none), (.fields #[(.str (.ofString "line_at") 401), (.str (.ofString "line_at") 402), (.str (.ofString "/claim/cut.py") 403), (.int 103 0), (.int 3 0), (.int 0 0), (.int 0 0), (.int 3 0), (.ref 164), (.bool true), (.int 181 0), (.ref 165), .none, (.ref 166), (.ref 167), (.ref 168), (.int 408 0), (.int 103 0), (.str (.ofString "/claim/cut.py") 409)]), #[]⟩) ::
((nat_lit 170), ⟨(.type "function"), (.none), (.func ⟨(.ofString "line_at"), (.ofString "line_at"), p170, .stmts b170, s170, 3, [], .none, .none, .none, (.str (.ofString "postkeep.headers") 355), (.none), (.ref 169), .none, 0⟩), #[]⟩) ::
((nat_lit 171), ⟨(.type "tuple"), (.none), (.seq #[] 0), #[]⟩) ::
((nat_lit 173), ⟨(.type "tuple"), (.none), (.seq #[(.str (.ofString "raw") 414), (.str (.ofString "rows") 415), (.str (.ofString "at") 416), (.str (.ofString "last") 417), (.str (.ofString "later") 418)] 0), #[]⟩) ::
((nat_lit 174), ⟨(.type "tuple"), (.none), (.seq #[] 0), #[]⟩) ::
((nat_lit 176), ⟨(.type "code"), (.none), (.fields #[(.str (.ofString "rows_of") 411), (.str (.ofString "rows_of") 412), (.str (.ofString "/claim/cut.py") 413), (.int 110 0), (.int 1 0), (.int 0 0), (.int 0 0), (.int 3 0), (.ref 171), (.bool true), (.int 181 0), (.ref 172), .none, (.ref 173), (.ref 174), (.ref 175), (.int 419 0), (.int 110 0), (.str (.ofString "/claim/cut.py") 420)]), #[]⟩) ::
((nat_lit 177), ⟨(.type "function"), (.none), (.func ⟨(.ofString "rows_of"), (.ofString "rows_of"), p177, .stmts b177, s177, 3, [], .none, .none, .none, (.str (.ofString "postkeep.headers") 355), (.none), (.ref 176), .none, 0⟩), #[]⟩) ::
((nat_lit 178), ⟨(.type "tuple"), (.none), (.seq #[] 0), #[]⟩) ::
((nat_lit 180), ⟨(.type "tuple"), (.none), (.seq #[(.str (.ofString "raw") 425)] 0), #[]⟩) ::
((nat_lit 181), ⟨(.type "tuple"), (.none), (.seq #[] 0), #[]⟩) ::
((nat_lit 183), ⟨(.type "code"), (.none), (.fields #[(.str (.ofString "unfolded") 422), (.str (.ofString "unfolded") 423), (.str (.ofString "/claim/cut.py") 424), (.int 119 0), (.int 1 0), (.int 0 0), (.int 0 0), (.int 3 0), (.ref 178), (.bool true), (.int 181 0), (.ref 179), .none, (.ref 180), (.ref 181), (.ref 182), (.int 426 0), (.int 119 0), (.str (.ofString "/claim/cut.py") 427)]), #[]⟩) ::
((nat_lit 184), ⟨(.type "function"), (.none), (.func ⟨(.ofString "unfolded"), (.ofString "unfolded"), p184, .stmts b184, s184, 3, [], .none, .none, .none, (.str (.ofString "postkeep.headers") 355), (.none), (.ref 183), .none, 0⟩), #[]⟩) ::
((nat_lit 185), ⟨(.type "tuple"), (.none), (.seq #[] 0), #[]⟩) ::
((nat_lit 188), ⟨(.type "code"), (.none), (.fields #[(.str (.ofString "worth_table") 435), (.str (.ofString "worth_table") 436), (.str (.ofString "/claim/cut.py") 437), (.int 124 0), (.int 1 0), (.int 0 0), (.int 0 0), (.int 3 0), (.ref 185), (.bool true), (.int 181 0), (.ref 186), .none, .none, .none, (.ref 187), (.int 438 0), (.int 124 0), (.str (.ofString "/claim/cut.py") 439)]), #[]⟩) ::
((nat_lit 189), ⟨(.type "function"), (.none), (.func ⟨(.ofString "worth_table"), (.ofString "worth_table"), p189, .stmts b189, s189, 3, [], .none, .none, .none, (.str (.ofString "postkeep.base64") 429), (.none), (.ref 188), .none, 0⟩), #[]⟩) ::
((nat_lit 190), ⟨(.type "tuple"), (.none), (.seq #[] 0), #[]⟩) ::
((nat_lit 193), ⟨(.type "code"), (.none), (.fields #[(.str (.ofString "group_octets") 441), (.str (.ofString "group_octets") 442), (.str (.ofString "/claim/cut.py") 443), (.int 126 0), (.int 1 0), (.int 0 0), (.int 0 0), (.int 3 0), (.ref 190), (.bool true), (.int 181 0), (.ref 191), .none, .none, .none, (.ref 192), (.int 444 0), (.int 126 0), (.str (.ofString "/claim/cut.py") 445)]), #[]⟩) ::
((nat_lit 194), ⟨(.type "function"), (.none), (.func ⟨(.ofString "group_octets"), (.ofString "group_octets"), p194, .stmts b194, s194, 3, [], .none, .none, .none, (.str (.ofString "postkeep.base64") 429), (.none), (.ref 193), .none, 0⟩), #[]⟩) ::
((nat_lit 195), ⟨(.type "tuple"), (.none), (.seq #[] 0), #[]⟩) ::
((nat_lit 197), ⟨(.type "tuple"), (.none), (.seq #[(.str (.ofString "data") 450), (.str (.ofString "worths") 451), (.str (.ofString "worth_row") 452), (.str (.ofString "code") 453), (.str (.ofString "found") 454), (.str (.ofString "begin") 455)] 0), #[]⟩) ::
((nat_lit 198), ⟨(.type "tuple"), (.none), (.seq #[] 0), #[]⟩) ::
((nat_lit 200), ⟨(.type "code"), (.none), (.fields #[(.str (.ofString "decoded") 447), (.str (.ofString "decoded") 448), (.str (.ofString "/claim/cut.py") 449), (.int 134 0), (.int 1 0), (.int 0 0), (.int 0 0), (.int 3 0), (.ref 195), (.bool true), (.int 181 0), (.ref 196), .none, (.ref 197), (.ref 198), (.ref 199), (.int 456 0), (.int 134 0), (.str (.ofString "/claim/cut.py") 457)]), #[]⟩) ::
((nat_lit 201), ⟨(.type "function"), (.none), (.func ⟨(.ofString "decoded"), (.ofString "decoded"), p201, .stmts b201, s201, 3, [], .none, .none, .none, (.str (.ofString "postkeep.base64") 429), (.none), (.ref 200), .none, 0⟩), #[]⟩) ::
((nat_lit 202), ⟨(.type "tuple"), (.none), (.seq #[] 0), #[]⟩) ::
((nat_lit 204), ⟨(.type "tuple"), (.none), (.seq #[(.str (.ofString "code") 470)] 0), #[]⟩) ::
((nat_lit 205), ⟨(.type "tuple"), (.none), (.seq #[] 0), #[]⟩) ::
((nat_lit 207), ⟨(.type "code"), (.none), (.fields #[(.str (.ofString "hex_worth") 467), (.str (.ofString "hex_worth") 468), (.str (.ofString "/claim/cut.py") 469), (.int 151 0), (.int 1 0), (.int 0 0), (.int 0 0), (.int 3 0), (.ref 202), (.bool true), (.int 181 0), (.ref 203), .none, (.ref 204), (.ref 205), (.ref 206), (.int 471 0), (.int 151 0), (.str (.ofString "/claim/cut.py") 472)]), #[]⟩) ::
((nat_lit 208), ⟨(.type "function"), (.none), (.func ⟨(.ofString "hex_worth"), (.ofString "hex_worth"), p208, .stmts b208, s208, 3, [], .none, .none, .none, (.str (.ofString "postkeep.quoted") 459), (.none), (.ref 207), .none, 0⟩), #[]⟩) ::
((nat_lit 209), ⟨(.type "tuple"), (.none), (.seq #[] 0), #[]⟩) ::
((nat_lit 211), ⟨(.type "tuple"), (.none), (.seq #[(.str (.ofString "data") 477), (.str (.ofString "at") 478), (.str (.ofString "high") 479), (.str (.ofString "low") 480)] 0), #[]⟩) ::
((nat_lit 212), ⟨(.type "tuple"), (.none), (.seq #[] 0), #[]⟩) ::
((nat_lit 214), ⟨(.type "code"), (.none), (.fields #[(.str (.ofString "quoted_at") 474), (.str (.ofString "quoted_at") 475), (.str (.ofString "/claim/cut.py") 476), (.int 159 0), (.int 2 0), (.int 0 0), (.int 0 0), (.int 3 0), (.ref 209), (.bool true), (.int 181 0), (.ref 210), .none, (.ref 211), (.ref 212), (.ref 213), (.int 481 0), (.int 159 0), (.str (.ofString "/claim/cut.py") 482)]), #[]⟩) ::
((nat_lit 215), ⟨(.type "function"), (.none), (.func ⟨(.ofString "quoted_at"), (.ofString "quoted_at"), p215, .stmts b215, s215, 3, [], .none, .none, .none, (.str (.ofString "postkeep.quoted") 459), (.none), (.ref 214), .none, 0⟩), #[]⟩) ::
((nat_lit 216), ⟨(.type "tuple"), (.none), (.seq #[] 0), #[]⟩) ::
((nat_lit 218), ⟨(.type "tuple"), (.none), (.seq #[(.str (.ofString "line") 487), (.str (.ofString "codes") 488), (.str (.ofString "at") 489), (.str (.ofString "code") 490)] 0), #[]⟩) ::
((nat_lit 219), ⟨(.type "tuple"), (.none), (.seq #[] 0), #[]⟩) ::
((nat_lit 221), ⟨(.type "code"), (.none), (.fields #[(.str (.ofString "unquoted") 484), (.str (.ofString "unquoted") 485), (.str (.ofString "/claim/cut.py") 486), (.int 165 0), (.int 1 0), (.int 0 0), (.int 0 0), (.int 3 0), (.ref 216), (.bool true), (.int 181 0), (.ref 217), .none, (.ref 218), (.ref 219), (.ref 220), (.int 491 0), (.int 165 0), (.str (.ofString "/claim/cut.py") 492)]), #[]⟩) ::
((nat_lit 222), ⟨(.type "function"), (.none), (.func ⟨(.ofString "unquoted"), (.ofString "unquoted"), p222, .stmts b222, s222, 3, [], .none, .none, .none, (.str (.ofString "postkeep.quoted") 459), (.none), (.ref 221), .none, 0⟩), #[]⟩) ::
((nat_lit 223), ⟨(.type "tuple"), (.none), (.seq #[] 0), #[]⟩) ::
((nat_lit 226), ⟨(.type "code"), (.none), (.fields #[(.str (.ofString "word_q_decoded") 494), (.str (.ofString "word_q_decoded") 495), (.str (.ofString "/claim/cut.py") 496), (.int 177 0), (.int 1 0), (.int 0 0), (.int 0 0), (.int 3 0), (.ref 223), (.bool true), (.int 181 0), (.ref 224), .none, .none, .none, (.ref 225), (.int 497 0), (.int 177 0), (.str (.ofString "/claim/cut.py") 498)]), #[]⟩) ::
((nat_lit 227), ⟨(.type "function"), (.none), (.func ⟨(.ofString "word_q_decoded"), (.ofString "word_q_decoded"), p227, .stmts b227, s227, 3, [], .none, .none, .none, (.str (.ofString "postkeep.quoted") 459), (.none), (.ref 226), .none, 0⟩), #[]⟩) ::
((nat_lit 228), ⟨(.type "tuple"), (.none), (.seq #[(.int 9 502), (.int 10 503), (.int 13 504), (.int 32 505)] 0), #[]⟩) ::
((nat_lit 229), ⟨(.type "tuple"), (.none), (.seq #[(.str (.ofString "Q") 511), (.str (.ofString "B") 512)] 0), #[]⟩) ::
((nat_lit 230), ⟨(.type "tuple"), (.none), (.seq #[] 0), #[]⟩) ::
((nat_lit 232), ⟨(.type "tuple"), (.none), (.seq #[(.str (.ofString "code") 517)] 0), #[]⟩) ::
((nat_lit 233), ⟨(.type "tuple"), (.none), (.seq #[] 0), #[]⟩) ::
((nat_lit 235), ⟨(.type "code"), (.none), (.fields #[(.str (.ofString "is_word_sign") 514), (.str (.ofString "is_word_sign") 515), (.str (.ofString "/claim/cut.py") 516), (.int 184 0), (.int 1 0), (.int 0 0), (.int 0 0), (.int 3 0), (.ref 230), (.bool true), (.int 181 0), (.ref 231), .none, (.ref 232), (.ref 233), (.ref 234), (.int 518 0), (.int 184 0), (.str (.ofString "/claim/cut.py") 519)]), #[]⟩) ::
((nat_lit 236), ⟨(.type "function"), (.none), (.func ⟨(.ofString "is_word_sign"), (.ofString "is_word_sign"), p236, .stmts b236, s236, 3, [], .none, .none, .none, (.str (.ofString "postkeep.words") 500), (.none), (.ref 235), .none, 0⟩), #[]⟩) ::
((nat_lit 237), ⟨(.type "tuple"), (.none), (.seq #[] 0), #[]⟩) ::
((nat_lit 239), ⟨(.type "tuple"), (.none), (.seq #[(.str (.ofString "octets") 524), (.str (.ofString "at") 525), (.str (.ofString "here") 526)] 0), #[]⟩) ::
((nat_lit 240), ⟨(.type "tuple"), (.none), (.seq #[] 0), #[]⟩) ::
((nat_lit 242), ⟨(.type "code"), (.none), (.fields #[(.str (.ofString "part_end") 521), (.str (.ofString "part_end") 522), (.str (.ofString "/claim/cut.py") 523), (.int 186 0), (.int 2 0), (.int 0 0), (.int 0 0), (.int 3 0), (.ref 237), (.bool true), (.int 181 0), (.ref 238), .none, (.ref 239), (.ref 240), (.ref 241), (.int 527 0), (.int 186 0), (.str (.ofString "/claim/cut.py") 528)]), #[]⟩) ::
((nat_lit 243), ⟨(.type "function"), (.none), (.func ⟨(.ofString "part_end"), (.ofString "part_end"), p243, .stmts b243, s243, 3, [], .none, .none, .none, (.str (.ofString "postkeep.words") 500), (.none), (.ref 242), .none, 0⟩), #[]⟩) ::
((nat_lit 244), ⟨(.type "tuple"), (.none), (.seq #[] 0), #[]⟩) ::
((nat_lit 247), ⟨(.type "code"), (.none), (.fields #[(.str (.ofString "word_parts") 530), (.str (.ofString "word_parts") 531), (.str (.ofString "/claim/cut.py") 532), (.int 191 0), (.int 2 0), (.int 0 0), (.int 0 0), (.int 3 0), (.ref 244), (.bool true), (.int 181 0), (.ref 245), .none, .none, .none, (.ref 246), (.int 533 0), (.int 191 0), (.str (.ofString "/claim/cut.py") 534)]), #[]⟩) ::
((nat_lit 248), ⟨(.type "function"), (.none), (.func ⟨(.ofString "word_parts"), (.ofString "word_parts"), p248, .stmts b248, s248, 3, [], .none, .none, .none, (.str (.ofString "postkeep.words") 500), (.none), (.ref 247), .none, 0⟩), #[]⟩) ::
((nat_lit 249), ⟨(.type "tuple"), (.none), (.seq #[] 0), #[]⟩) ::
((nat_lit 251), ⟨(.type "tuple"), (.none), (.seq #[(.str (.ofString "octets") 539), (.str (.ofString "begin") 540), (.str (.ofString "end") 541)] 0), #[]⟩) ::
((nat_lit 252), ⟨(.type "tuple"), (.none), (.seq #[] 0), #[]⟩) ::
((nat_lit 254), ⟨(.type "code"), (.none), (.fields #[(.str (.ofString "is_apart") 536), (.str (.ofString "is_apart") 537), (.str (.ofString "/claim/cut.py") 538), (.int 204 0), (.int 3 0), (.int 0 0), (.int 0 0), (.int 3 0), (.ref 249), (.bool true), (.int 181 0), (.ref 250), .none, (.ref 251), (.ref 252), (.ref 253), (.int 542 0), (.int 204 0), (.str (.ofString "/claim/cut.py") 543)]), #[]⟩) ::
((nat_lit 255), ⟨(.type "function"), (.none), (.func ⟨(.ofString "is_apart"), (.ofString "is_apart"), p255, .stmts b255, s255, 3, [], .none, .none, .none, (.str (.ofString "postkeep.words") 500), (.none), (.ref 254), .none, 0⟩), #[]⟩) ::
((nat_lit 256), ⟨(.type "tuple"), (.none), (.seq #[] 0), #[]⟩) ::
((nat_lit 259), ⟨(.type "code"), (.none), (.fields #[(.str (.ofString "plain_text") 545), (.str (.ofString "plain_text") 546), (.str (.ofString "/claim/cut.py") 547), (.int 208 0), (.int 1 0), (.int 0 0), (.int 0 0), (.int 3 0), (.ref 256), (.bool true), (.int 181 0), (.ref 257), .none, .none, .none, (.ref 258), (.int 548 0), (.int 208 0), (.str (.ofString "/claim/cut.py") 549)]), #[]⟩) ::
((nat_lit 260), ⟨(.type "function"), (.none), (.func ⟨(.ofString "plain_text"), (.ofString "plain_text"), p260, .stmts b260, s260, 3, [], .none, .none, .none, (.str (.ofString "postkeep.words") 500), (.none), (.ref 259), .none, 0⟩), #[]⟩) ::
((nat_lit 261), ⟨(.type "tuple"), (.none), (.seq #[] 0), #[]⟩) ::
((nat_lit 263), ⟨(.type "tuple"), (.none), (.seq #[(.str (.ofString "octets") 554), (.str (.ofString "at") 555), (.str (.ofString "found") 556), (.str (.ofString "charset") 557), (.str (.ofString "way") 558), (.str (.ofString "row") 559)] 0), #[]⟩) ::
((nat_lit 264), ⟨(.type "tuple"), (.none), (.seq #[] 0), #[]⟩) ::
((nat_lit 266), ⟨(.type "code"), (.none), (.fields #[(.str (.ofString "word_at") 551), (.str (.ofString "word_at") 552), (.str (.ofString "/claim/cut.py") 553), (.int 210 0), (.int 2 0), (.int 0 0), (.int 0 0), (.int 3 0), (.ref 261), (.bool true), (.int 181 0), (.ref 262), .none, (.ref 263), (.ref 264), (.ref 265), (.int 560 0), (.int 210 0), (.str (.ofString "/claim/cut.py") 561)]), #[]⟩) ::
((nat_lit 267), ⟨(.type "function"), (.none), (.func ⟨(.ofString "word_at"), (.ofString "word_at"), p267, .stmts b267, s267, 3, [], .none, .none, .none, (.str (.ofString "postkeep.words") 500), (.none), (.ref 266), .none, 0⟩), #[]⟩) ::
((nat_lit 268), ⟨(.type "tuple"), (.none), (.seq #[] 0), #[]⟩) ::
((nat_lit 270), ⟨(.type "tuple"), (.none), (.seq #[(.str (.ofString "octets") 566), (.str (.ofString "pieces") 567), (.str (.ofString "begun") 568), (.str (.ofString "at") 569), (.str (.ofString "found") 570)] 0), #[]⟩) ::
((nat_lit 271), ⟨(.type "tuple"), (.none), (.seq #[] 0), #[]⟩) ::
((nat_lit 273), ⟨(.type "code"), (.none), (.fields #[(.str (.ofString "pieces_of") 563), (.str (.ofString "pieces_of") 564), (.str (.ofString "/claim/cut.py") 565), (.int 220 0), (.int 1 0), (.int 0 0), (.int 0 0), (.int 3 0), (.ref 268), (.bool true), (.int 181 0), (.ref 269), .none, (.ref 270), (.ref 271), (.ref 272), (.int 571 0), (.int 220 0), (.str (.ofString "/claim/cut.py") 572)]), #[]⟩) ::
((nat_lit 274), ⟨(.type "function"), (.none), (.func ⟨(.ofString "pieces_of"), (.ofString "pieces_of"), p274, .stmts b274, s274, 3, [], .none, .none, .none, (.str (.ofString "postkeep.words") 500), (.none), (.ref 273), .none, 0⟩), #[]⟩) ::
((nat_lit 275), ⟨(.type "tuple"), (.none), (.seq #[] 0), #[]⟩) ::
((nat_lit 278), ⟨(.type "code"), (.none), (.fields #[(.str (.ofString "all_white") 574), (.str (.ofString "all_white") 575), (.str (.ofString "/claim/cut.py") 576), (.int 234 0), (.int 1 0), (.int 0 0), (.int 0 0), (.int 3 0), (.ref 275), (.bool true), (.int 181 0), (.ref 276), .none, .none, .none, (.ref 277), (.int 577 0), (.int 234 0), (.str (.ofString "/claim/cut.py") 578)]), #[]⟩) ::
((nat_lit 279), ⟨(.type "function"), (.none), (.func ⟨(.ofString "all_white"), (.ofString "all_white"), p279, .stmts b279, s279, 3, [], .none, .none, .none, (.str (.ofString "postkeep.words") 500), (.none), (.ref 278), .none, 0⟩), #[]⟩) ::
((nat_lit 280), ⟨(.type "tuple"), (.none), (.seq #[] 0), #[]⟩) ::
((nat_lit 282), ⟨(.type "tuple"), (.none), (.seq #[(.str (.ofString "octets") 583), (.str (.ofString "pieces") 584), (.str (.ofString "found") 585), (.str (.ofString "spot") 586), (.str (.ofString "is_word") 587), (.str (.ofString "worth") 588)] 0), #[]⟩) ::
((nat_lit 283), ⟨(.type "tuple"), (.none), (.seq #[] 0), #[]⟩) ::
((nat_lit 285), ⟨(.type "code"), (.none), (.fields #[(.str (.ofString "decoded_words") 580), (.str (.ofString "decoded_words") 581), (.str (.ofString "/claim/cut.py") 582), (.int 236 0), (.int 1 0), (.int 0 0), (.int 0 0), (.int 3 0), (.ref 280), (.bool true), (.int 181 0), (.ref 281), .none, (.ref 282), (.ref 283), (.ref 284), (.int 589 0), (.int 236 0), (.str (.ofString "/claim/cut.py") 590)]), #[]⟩) ::
((nat_lit 286), ⟨(.type "function"), (.none), (.func ⟨(.ofString "decoded_words"), (.ofString "decoded_words"), p286, .stmts b286, s286, 3, [], .none, .none, .none, (.str (.ofString "postkeep.words") 500), (.none), (.ref 285), .none, 0⟩), #[]⟩) ::
((nat_lit 287), ⟨(.type "tuple"), (.none), (.seq #[] 0), #[]⟩) ::
((nat_lit 289), ⟨(.type "tuple"), (.none), (.seq #[(.str (.ofString "octets") 597), (.str (.ofString "text") 598)] 0), #[]⟩) ::
((nat_lit 290), ⟨(.type "tuple"), (.none), (.seq #[] 0), #[]⟩) ::
((nat_lit 292), ⟨(.type "code"), (.none), (.fields #[(.str (.ofString "is_within") 594), (.str (.ofString "is_within") 595), (.str (.ofString "/claim/cut.py") 596), (.int 247 0), (.int 2 0), (.int 0 0), (.int 0 0), (.int 3 0), (.ref 287), (.bool true), (.int 181 0), (.ref 288), .none, (.ref 289), (.ref 290), (.ref 291), (.int 599 0), (.int 247 0), (.str (.ofString "/claim/cut.py") 600)]), #[]⟩) ::
((nat_lit 293), ⟨(.type "function"), (.none), (.func ⟨(.ofString "is_within"), (.ofString "is_within"), p293, .stmts b293, s293, 3, [], .none, .none, .none, (.str (.ofString "postkeep.search") 592), (.none), (.ref 292), .none, 0⟩), #[]⟩) ::
((nat_lit 294), ⟨(.type "tuple"), (.none), (.seq #[] 0), #[]⟩) ::
((nat_lit 296), ⟨(.type "tuple"), (.none), (.seq #[(.str (.ofString "field") 605)] 0), #[]⟩) ::
((nat_lit 297), ⟨(.type "tuple"), (.none), (.seq #[] 0), #[]⟩) ::
((nat_lit 299), ⟨(.type "code"), (.none), (.fields #[(.str (.ofString "field_text") 602), (.str (.ofString "field_text") 603), (.str (.ofString "/claim/cut.py") 604), (.int 249 0), (.int 1 0), (.int 0 0), (.int 0 0), (.int 3 0), (.ref 294), (.bool true), (.int 181 0), (.ref 295), .none, (.ref 296), (.ref 297), (.ref 298), (.int 606 0), (.int 249 0), (.str (.ofString "/claim/cut.py") 607)]), #[]⟩) ::
((nat_lit 300), ⟨(.type "function"), (.none), (.func ⟨(.ofString "field_text"), (.ofString "field_text"), p300, .stmts b300, s300, 3, [], .none, .none, .none, (.str (.ofString "postkeep.search") 592), (.none), (.ref 299), .none, 0⟩), #[]⟩) ::
((nat_lit 301), ⟨(.type "tuple"), (.none), (.seq #[] 0), #[]⟩) ::
((nat_lit 303), ⟨(.type "tuple"), (.none), (.seq #[(.str (.ofString "field") 612)] 0), #[]⟩) ::
((nat_lit 304), ⟨(.type "tuple"), (.none), (.seq #[] 0), #[]⟩) ::
((nat_lit 306), ⟨(.type "code"), (.none), (.fields #[(.str (.ofString "field_line") 609), (.str (.ofString "field_line") 610), (.str (.ofString "/claim/cut.py") 611), (.int 251 0), (.int 1 0), (.int 0 0), (.int 0 0), (.int 3 0), (.ref 301), (.bool true), (.int 181 0), (.ref 302), .none, (.ref 303), (.ref 304), (.ref 305), (.int 613 0), (.int 251 0), (.str (.ofString "/claim/cut.py") 614)]), #[]⟩) ::
((nat_lit 307), ⟨(.type "function"), (.none), (.func ⟨(.ofString "field_line"), (.ofString "field_line"), p307, .stmts b307, s307, 3, [], .none, .none, .none, (.str (.ofString "postkeep.search") 592), (.none), (.ref 306), .none, 0⟩), #[]⟩) ::
((nat_lit 308), ⟨(.type "tuple"), (.none), (.seq #[] 0), #[]⟩) ::
((nat_lit 310), ⟨(.type "tuple"), (.none), (.seq #[(.str (.ofString "fields") 619), (.str (.ofString "word") 620), (.str (.ofString "octets") 621), (.str (.ofString "field") 622)] 0), #[]⟩) ::
((nat_lit 311), ⟨(.type "tuple"), (.none), (.seq #[] 0), #[]⟩) ::
((nat_lit 313), ⟨(.type "code"), (.none), (.fields #[(.str (.ofString "header_holds") 616), (.str (.ofString "header_holds") 617), (.str (.ofString "/claim/cut.py") 618), (.int 253 0), (.int 3 0), (.int 0 0), (.int 0 0), (.int 3 0), (.ref 308), (.bool true), (.int 181 0), (.ref 309), .none, (.ref 310), (.ref 311), (.ref 312), (.int 623 0), (.int 253 0), (.str (.ofString "/claim/cut.py") 624)]), #[]⟩) ::
((nat_lit 314), ⟨(.type "function"), (.none), (.func ⟨(.ofString "header_holds"), (.ofString "header_holds"), p314, .stmts b314, s314, 3, [], .none, .none, .none, (.str (.ofString "postkeep.search") 592), (.none), (.ref 313), .none, 0⟩), #[]⟩) ::
((nat_lit 315), ⟨(.type "tuple"), (.none), (.seq #[] 0), #[]⟩) ::
((nat_lit 317), ⟨(.type "tuple"), (.none), (.seq #[(.str (.ofString "fields") 629), (.str (.ofString "octets") 630), (.str (.ofString "field") 631)] 0), #[]⟩) ::
((nat_lit 318), ⟨(.type "tuple"), (.none), (.seq #[] 0), #[]⟩) ::
((nat_lit 320), ⟨(.type "code"), (.none), (.fields #[(.str (.ofString "head_holds") 626), (.str (.ofString "head_holds") 627), (.str (.ofString "/claim/cut.py") 628), (.int 258 0), (.int 2 0), (.int 0 0), (.int 0 0), (.int 3 0), (.ref 315), (.bool true), (.int 181 0), (.ref 316), .none, (.ref 317), (.ref 318), (.ref 319), (.int 632 0), (.int 258 0), (.str (.ofString "/claim/cut.py") 633)]), #[]⟩) ::
((nat_lit 321), ⟨(.type "function"), (.none), (.func ⟨(.ofString "head_holds"), (.ofString "head_holds"), p321, .stmts b321, s321, 3, [], .none, .none, .none, (.str (.ofString "postkeep.search") 592), (.none), (.ref 320), .none, 0⟩), #[]⟩) ::
((nat_lit 322), ⟨(.type "tuple"), (.none), (.seq #[(.bytes #[83, 117, 98, 106, 101, 99, 116] 637), (.bytes #[83, 85, 66, 74, 69, 67, 84] 638), (.bytes #[88, 45, 84, 101, 97] 639), (.bytes #[116, 111] 640), (.bytes #[70, 114, 111, 109] 641)] 0), #[]⟩) ::
((nat_lit 323), ⟨(.type "tuple"), (.none), (.seq #[(.str (.ofString "Tea") 643), (.str (.ofString "for") 644), (.str (.ofString "two") 645), (.str (.ofString "café") 646), (.str (.ofString "€5") 647), (.str (.ofString "TO") 648), (.str (.ofString "x-tea:") 649)] 0), #[]⟩) ::
((nat_lit 324), ⟨(.type "tuple"), (.none), (.seq #[] 0), #[]⟩) ::
((nat_lit 326), ⟨(.type "tuple"), (.none), (.seq #[(.str (.ofString "bag") 654), (.str (.ofString "many") 655)] 0), #[]⟩) ::
((nat_lit 327), ⟨(.type "tuple"), (.none), (.seq #[] 0), #[]⟩) ::
((nat_lit 329), ⟨(.type "code"), (.none), (.fields #[(.str (.ofString "_law_take") 651), (.str (.ofString "_law_take") 652), (.str (.ofString "/claim/cut.py") 653), (.int 266 0), (.int 2 0), (.int 0 0), (.int 0 0), (.int 3 0), (.ref 324), (.bool true), (.int 181 0), (.ref 325), .none, (.ref 326), (.ref 327), (.ref 328), (.int 656 0), (.int 266 0), (.str (.ofString "/claim/cut.py") 657)]), #[]⟩) ::
((nat_lit 330), ⟨(.type "function"), (.none), (.func ⟨(.ofString "_law_take"), (.ofString "_law_take"), p330, .stmts b330, s330, 3, [], .none, .none, .none, (.str (.ofString "law_or0062_01") 635), (.none), (.ref 329), .none, 0⟩), #[]⟩) ::
((nat_lit 331), ⟨(.type "tuple"), (.none), (.seq #[] 0), #[]⟩) ::
((nat_lit 333), ⟨(.type "tuple"), (.none), (.seq #[(.str (.ofString "text") 662), (.str (.ofString "found") 663), (.str (.ofString "sign") 664), (.str (.ofString "code") 665)] 0), #[]⟩) ::
((nat_lit 334), ⟨(.type "tuple"), (.none), (.seq #[] 0), #[]⟩) ::
((nat_lit 336), ⟨(.type "code"), (.none), (.fields #[(.str (.ofString "_law_wide") 659), (.str (.ofString "_law_wide") 660), (.str (.ofString "/claim/cut.py") 661), (.int 272 0), (.int 1 0), (.int 0 0), (.int 0 0), (.int 3 0), (.ref 331), (.bool true), (.int 181 0), (.ref 332), .none, (.ref 333), (.ref 334), (.ref 335), (.int 666 0), (.int 272 0), (.str (.ofString "/claim/cut.py") 667)]), #[]⟩) ::
((nat_lit 337), ⟨(.type "function"), (.none), (.func ⟨(.ofString "_law_wide"), (.ofString "_law_wide"), p337, .stmts b337, s337, 3, [], .none, .none, .none, (.str (.ofString "law_or0062_01") 635), (.none), (.ref 336), .none, 0⟩), #[]⟩) ::
((nat_lit 338), ⟨(.type "tuple"), (.none), (.seq #[] 0), #[]⟩) ::
((nat_lit 341), ⟨(.type "code"), (.none), (.fields #[(.str (.ofString "_law_small") 669), (.str (.ofString "_law_small") 670), (.str (.ofString "/claim/cut.py") 671), (.int 283 0), (.int 1 0), (.int 0 0), (.int 0 0), (.int 3 0), (.ref 338), (.bool true), (.int 181 0), (.ref 339), .none, .none, .none, (.ref 340), (.int 672 0), (.int 283 0), (.str (.ofString "/claim/cut.py") 673)]), #[]⟩) ::
((nat_lit 342), ⟨(.type "function"), (.none), (.func ⟨(.ofString "_law_small"), (.ofString "_law_small"), p342, .stmts b342, s342, 3, [], .none, .none, .none, (.str (.ofString "law_or0062_01") 635), (.none), (.ref 341), .none, 0⟩), #[]⟩) ::
((nat_lit 343), ⟨(.type "tuple"), (.none), (.seq #[] 0), #[]⟩) ::
((nat_lit 346), ⟨(.type "code"), (.none), (.fields #[(.str (.ofString "_law_field") 675), (.str (.ofString "_law_field") 676), (.str (.ofString "/claim/cut.py") 677), (.int 285 0), (.int 1 0), (.int 0 0), (.int 0 0), (.int 3 0), (.ref 343), (.bool true), (.int 181 0), (.ref 344), .none, .none, .none, (.ref 345), (.int 678 0), (.int 285 0), (.str (.ofString "/claim/cut.py") 679)]), #[]⟩) ::
((nat_lit 347), ⟨(.type "function"), (.none), (.func ⟨(.ofString "_law_field"), (.ofString "_law_field"), p347, .stmts b347, s347, 3, [], .none, .none, .none, (.str (.ofString "law_or0062_01") 635), (.none), (.ref 346), .none, 0⟩), #[]⟩) ::
((nat_lit 348), ⟨(.type "tuple"), (.none), (.seq #[] 0), #[]⟩) ::
((nat_lit 351), ⟨(.type "code"), (.none), (.fields #[(.str (.ofString "law") 681), (.str (.ofString "law") 682), (.str (.ofString "/claim/cut.py") 683), (.int 297 0), (.int 1 0), (.int 0 0), (.int 0 0), (.int 3 0), (.ref 348), (.bool true), (.int 181 0), (.ref 349), .none, .none, .none, (.ref 350), (.int 684 0), (.int 297 0), (.str (.ofString "/claim/cut.py") 685)]), #[]⟩) ::
((nat_lit 352), ⟨(.type "function"), (.none), (.func ⟨(.ofString "law"), (.ofString "law"), p352, .stmts b352, s352, 3, [], .none, .none, .none, (.str (.ofString "law_or0062_01") 635), (.none), (.ref 351), .none, 0⟩), #[]⟩) :: []
theorem fillK : (PySem.Challenge.rw_or0062_01.Holds ∧ ∀ w : World, (hd.heap_39 w.params).length = 0) → True := by
  k_fill
  intro _
  trivial

def Mk (n : Nat) : Prop := n = n
theorem Mk.on (n : Nat) : Mk n := rfl
local macro_rules | `(tactic| walk_at "ARGS") => `(tactic| ((case kF => k_asm); (case kN => k_asm); (case kX => k_asm); (case kT => k_asm); (case kh => exact rfl); (case kd => (try dsimp only); first | exact Nat.lt_of_le_of_lt (Nat.add_le_add_left (Nat.le_of_ble_eq_true rfl) _) (by assumption) | omega); (case ku => (try dsimp only); first | exact Nat.lt_of_le_of_lt (Nat.add_le_add_left (Nat.le_of_ble_eq_true rfl) _) (by assumption) | omega)))
local macro_rules | `(tactic| k_ne) => `(tactic| (refine neN ?_; (try dsimp only); first | with_reducible assumption | exact Ne.symm (by with_reducible assumption) | exact Nat.ne_of_lt (by with_reducible assumption) | exact Nat.ne_of_gt (by with_reducible assumption)))

/-- a stop for the walk -/
noncomputable def Stop (P : Prop) : Prop := P
theorem Stop.mk {P : Prop} (h : Stop P) : P := h
theorem Stop.out {P : Prop} (h : P) : Stop P := h
structure Bs (w : World) (vw : Program) (lo : List Str) (mean : ExcName → Option Value) (mg mb : Str → Option Value) (h : Heap) : Prop where
  X : (hd.heap_39 w.params).In h
  T : Top vw lo mean mg mb h

noncomputable def Kp (h h' : Heap) : Prop := ∀ b o, h.get? b = some o → h'.get? b = some o
theorem Kp.refl (h : Heap) : Kp h h := fun _ _ e => e
theorem Kp.trans {a b c : Heap} (x : Kp a b) (y : Kp b c) : Kp a c := fun d o e => y d o (x d o e)

theorem Bs.keeps {w : World} {vw : Program} {lo : List Str} {mean : ExcName → Option Value} {mg mb : Str → Option Value} {h h' : Heap} (b : Bs w vw lo mean mg mb h) (k : Kp h h') : Bs w vw lo mean mg mb h' :=
  ⟨b.X.keeps k, b.T.keeps k⟩

noncomputable abbrev Pg : Program := PySem.Challenge.rw_or0062_01.row.prog

noncomputable def Cl (w : World) (n : Nat) (s : Shared) (c : Sem Value) (P : Value → Heap → Prop) : Prop :=
  ∀ (A : Around) (Q E : Value → Shared → Prop), A.handled = none → A.depth + n < recursionLimit → A.units + 8 * n < cLine →
    (∀ v h' tk, Kp s.heap h' → P v h' → Q v { s with heap := h', toks := tk }) → wpAny (model Pg w) A c Q E s

noncomputable def Done (s : Shared) (P : Value → Heap → Prop) (fl : Flow) (s' : Shared) : Prop :=
  ∃ v h' tk, (fl = .ret v ∨ (fl = .next ∧ v = .none)) ∧ s' = { s with heap := h', toks := tk } ∧ Kp s.heap h' ∧ P v h'

theorem Done.ret {s : Shared} {P : Value → Heap → Prop} {v : Value} {h' : Heap} {tk : Nat} {L : Addr} {m : Str → Option Value} (F : Fr s.heap L h' m) (p : P v h') :
    Done s P (.ret v) { s with heap := h', toks := tk } := ⟨v, h', tk, .inl rfl, rfl, F.keep, p⟩
theorem Done.next {s : Shared} {P : Value → Heap → Prop} {h' : Heap} {tk : Nat} {L : Addr} {m : Str → Option Value} (F : Fr s.heap L h' m) (p : P .none h') :
    Done s P .next { s with heap := h', toks := tk } := ⟨.none, h', tk, .inr ⟨rfl, rfl⟩, rfl, F.keep, p⟩

theorem enter {w : World} {vw : Program} {lo : List Str} {mean : ExcName → Option Value} {mg mb : Str → Option Value} {n : Nat} {s : Shared} {f : Addr} {args : List Value} {P : Value → Heap → Prop}
    {name qual : Str} {params : Arguments} {body : List Stmt} {scope : Scope} {dV kV doc pm cdv ct oc : Value} {an od : Option Addr} {osl : Array (Option Value)} {binds : List (Str × Value)}
    (b : Bs w vw lo mean mg mb s.heap)
    (ho : (hd.heap_39 w.params).lookup f = some ⟨oc, od, .func (fnOf name qual params body scope dV kV doc pm an cdv ct), osl⟩) (hcd : codeIn (hd.heap_39 w.params) cdv qual = true)
    (hbind : bindArgs (fnOf name qual params body scope dV kV doc pm an cdv ct) ⟨args, []⟩ = pure binds) (hloc : ∀ y ∈ binds, scope.names.lookup y.1 = some .local)
    (hcell : ∀ x ∈ scope.names, x.2 ≠ .cell) (hco : scope.isCoroutine = false) (hgen : scope.isGenerator = false) (hk : scope.kind = .function)
    (h : ∀ dp un fr gd h₁ tk, dp + n < recursionLimit → un + 8 * n < cLine → Fr s.heap s.heap.objs.size h₁ (fun y => binds.reverse.lookup y) → (hd.heap_39 w.params).In s.heap → Top vw lo mean mg mb s.heap → News s.heap s.heap.objs.size h₁ [] →
      wpAny (model Pg w) ⟨none, dp, fr, gd, un⟩ (execs body (envOf qual scope s.heap.objs.size f cdv)) (Done s P) (fun _ _ => False) { s with heap := h₁, toks := tk }) :
    Cl w (n + 1) s (call (.ref f) args) P := by
  intro A Q E hh hd hu hQ
  obtain ⟨hnd, dp, fr, gd, un⟩ := A
  subst hh
  refine wpAny_call (codeAny_call_def (fd := fnOf name qual params body scope dV kV doc pm an cdv ct) (body := body) (binds := binds) (by dsimp only at hd ⊢; omega) (b.X _ _ ho) rfl b.T.nolimit (codeRec_of b.X hcd) rfl (BindsTo.of_eq hbind) hcell hloc (fun h₁ hns hk₁ => ?_) hco hgen hk)
  have F : Fr s.heap s.heap.objs.size h₁ (fun y => binds.reverse.lookup y) := ⟨hns, hk₁, Nat.le_refl _⟩
  dsimp only at hd hu
  have := h (dp + 1) (un + 3) (fr.map (callEnv (fnOf name qual params body scope dV kV doc pm an cdv ct) s.heap.objs.size f :: ·)) gd h₁ (s.toks + binds.length) (by omega) (by omega) F b.X b.T News.nil
  refine wpAny_mono this (fun fl s' hd => ?_) fun _ _ x => x.elim
  obtain ⟨v, h', tk, e, rfl, k, p⟩ := hd
  rcases e with rfl | ⟨rfl, rfl⟩
  · exact hQ _ h' tk k p
  · exact hQ _ h' tk k p

noncomputable def st (l : List Nat) : Str := ⟨l.toArray⟩
theorem st_append (a b : List Nat) : st a ++ st b = st (a ++ b) := by
  show (⟨a.toArray ++ b.toArray⟩ : Str) = ⟨(a ++ b).toArray⟩
  simp
theorem st_len (l : List Nat) : (st l).length = l.length := by simp [st, PySem.Str.length]
theorem st_inj {a b : List Nat} (h : st a = st b) : a = b := by
  have := congrArg PySem.Str.cps h
  simpa [st] using this

section
variable {prog : Program} {w : World} {A : Around} {E : Value → Shared → Prop} {s : Shared} {env : Env}

noncomputable def WP {σ : Type} (I : σ → Shared → Prop) (μ : σ → Nat) (Q : Flow → Shared → Prop) (c : σ) (f : Flow) (s : Shared) : Prop :=
  match f with
  | .next | .cont => ∃ c', μ c' < μ c ∧ I c' s
  | .brk => Q .next s
  | .ret v => Q (.ret v) s

theorem while_J {σ : Type} {test : Expr} {body : List Stmt} {pos : Pos} {Q : Flow → Shared → Prop} (I : σ → Shared → Prop) (μ : σ → Nat) (c₀ : σ) (h0 : I c₀ s)
    (turn : ∀ c s, I c s → wpAny (model prog w) A (isTrue test env (eval test env)) (fun b s₂ =>
      if b = true then wpAny (model prog w) A (execs body env) (WP I μ Q c) (fun _ _ => False) s₂ else Q .next s₂) (fun _ _ => False) s) :
    wpAny (model prog w) A (exec (.While test body [] pos) env) Q (fun _ _ => False) s := by
  refine wpAny_While (codeAny_whileLoop (fun n s => ∃ c, μ c = n ∧ I c s) ?_ (μ c₀) ⟨c₀, rfl, h0⟩)
  rintro n s ⟨c, rfl, hI⟩
  refine wpAny_mono (turn c s hI) (fun b s₂ h => ?_) fun _ _ x => x.elim
  cases b with
  | false =>
    simp only [Bool.false_eq_true, if_false] at h ⊢
    exact wpAny_execs_nil h
  | true =>
    simp only [if_true] at h ⊢
    refine wpAny_mono h (fun f s₃ h₃ => ?_) fun _ _ x => x.elim
    cases f with
    | next => obtain ⟨c', h1, h2⟩ := h₃; exact ⟨_, h1, c', rfl, h2⟩
    | cont => obtain ⟨c', h1, h2⟩ := h₃; exact ⟨_, h1, c', rfl, h2⟩
    | brk => exact h₃
    | ret v => exact h₃

theorem paired_len {α β : Type} {F : α → β → Prop} {a : List α} {b : List β} (h : Paired F a b) : a.length = b.length := by
  induction h with
  | nil => rfl
  | cons _ _ ih => simp [ih]
theorem paired_strs {α : Type} {f : α → Nat} : ∀ {l : List α} {ys : List Value}, Paired (fun c v => ∃ t, v = .str (st [f c]) t) l ys → StrsAre ys (l.map fun c => st [f c])
  | _, _, .nil => .nil
  | _, _, .cons ⟨t, e⟩ r => by rw [e]; exact .cons _ _ (paired_strs r)

theorem paired_of {α : Type} {mk : α → Value → Prop} {F : α → Value → Prop} (hinj : ∀ a a' v, mk a v → mk a' v → a = a') :
    ∀ (as : List α) (vs ys : List Value), vs.length = as.length → (∀ (j : Nat) (v : Value), vs[j]? = some v → ∃ a, as[j]? = some a ∧ mk a v) → Paired (fun v y => ∃ a, mk a v ∧ F a y) vs ys → Paired F as ys
  | [], [], _, _, _, .nil => .nil
  | [], _ :: _, _, h, _, _ => by simp at h
  | _ :: _, [], _, h, _, _ => by simp at h
  | a :: as, v :: vs, y :: ys, hl, hP, .cons ⟨a', hm, hf⟩ r => by
    obtain ⟨a2, e, hm2⟩ := hP 0 v rfl
    simp only [List.getElem?_cons_zero, Option.some.injEq] at e
    subst e
    have := hinj _ _ _ hm hm2
    subst this
    exact .cons hf (paired_of hinj as vs ys (by simpa using hl) (fun j v' e => by simpa using hP (j + 1) v' (by simpa using e)) r)

/-- a comprehension whose element keeps all that stands; the source is walked by W -/
theorem lc_walk {α : Type} {elt iter : Expr} {x : Str} {px : Pos} {scope : Scope} {cl : List (Str × Addr)} {pos : Pos} {Q : Value → Shared → Prop} (as : List α) (mk : α → Value → Prop) (F : α → Value → Prop)
    (hinj : ∀ a a' v, mk a v → mk a' v → a = a')
    (hclos : closureFor scope env = pure cl) (hcell : ∀ y ∈ scope.names, y.2 ≠ .cell) (hkind : scope.kind = .function)
    (hnames : ∀ y ∈ scope.names, y.2 = .local → scope.names.lookup y.1 = some .local) (hx : scope.names.lookup x = some .local)
    (h : wpAny (model prog w) A (eval iter env) (fun xv s₁ => wpAny (model prog w) A (pyIter xv) (fun it s₂ => ∃ I P St, it = .ref I ∧ Walks prog w A I [I] [I] as.length P St ∧ (∀ i v, P i v → ∃ a, as[i]? = some a ∧ mk a v) ∧ as.length ≤ sizeLine ∧ St 0 s₂.heap ∧ I < s₂.heap.objs.size ∧
      s₁.heap.objs.size ≤ I ∧ Kp s₁.heap s₂.heap ∧ (∃ h, s₂ = { s₁ with heap := h }) ∧
      (∀ C a v s₃ m₃ E', a ∈ as → mk a v → s₁.heap.objs.size ≤ C → s₃.heap.Ns C m₃ → m₃ x = some v → Kp s₁.heap s₃.heap →
        wpAny (model prog w) A (eval elt (compEnvC scope cl C env)) (fun y s₄ => F a y ∧ Keeps s₃ s₄) E' s₃) ∧
      (∀ D h' tk n ys, Kp s₁.heap h' → s₁.heap.get? D = none → h'.get? D = some ({ cls := .type "list", data := .seq ys.toArray n } : Obj) → Paired F as ys → Q (.ref D) { s₁ with heap := h', toks := tk })) E s₁) E s)
    (hs : ∀ x, foldedSetIterable iter env x = pure x := by intro _; rfl) :
    wpAny (model prog w) A (eval (.ListComp elt [⟨.Name x px, iter, [], 0⟩] scope pos) env) Q E s := by
  refine wpAny_ListComp_free (fun _ => true) (fun v y => ∃ a, mk a v ∧ F a y) hclos hcell hkind hnames hx ?_ hs
  refine wpAny_mono h (fun xv s₁ h₁ => ?_) fun _ _ e => e
  refine wpAny_mono h₁ (fun it s₂ h₂ => ?_) fun _ _ e => e
  obtain ⟨I, P, St, rfl, W, hP, hsz, hst, hI, hI₁, hk₁₂, ⟨g, rfl⟩, helt, hQ⟩ := h₂
  have noI : ∀ b o, s₁.heap.get? b = some o → b ∉ [I] := fun b o e hm => by
    rw [List.mem_singleton.mp hm] at e
    exact absurd (Heap.lt_size e) (Nat.not_lt.mpr hI₁)
  have hle : s₁.heap.objs.size ≤ g.objs.size := Nat.le_of_lt (Nat.lt_of_le_of_lt hI₁ hI)
  refine ⟨I, [I], [I], as.length, fun i v => ∃ a, as[i]? = some a ∧ mk a v, St, rfl, ⟨W.sub, W.frame, fun i s Q E hi st hq => W.item i s Q E hi st fun v h' tk p => hq v h' tk (hP i v p), W.done, W.self⟩, hsz, hst, (fun b hb => by rw [List.mem_singleton.mp hb]; exact hI), ⟨?_, ?_⟩, ?_⟩
  · intro C i v s₃ m₃ E' hC hP' hn hm hk _
    exact wpAny_pure ⟨rfl, ⟨s₃.heap, s₃.toks, rfl, fun _ _ e => e⟩⟩
  · rintro C i v s₃ m₃ E' hC ⟨a, ha, hmk⟩ hp hn hm hk _
    refine wpAny_mono (helt C a v s₃ m₃ E' (List.mem_of_getElem? ha) hmk (Nat.le_trans hle hC) hn hm fun b o e => hk b o (noI b o e) (hk₁₂ b o e)) (fun y s₄ h₄ => ⟨⟨a, hmk, h₄.1⟩, h₄.2⟩) fun _ _ e => e
  · intro D h' tk ys vs hD hl hpl hlen hPv hF hk
    obtain ⟨n, hobj⟩ := hpl
    have hD₁ : s₁.heap.get? D = none := by
      cases e : s₁.heap.get? D with
      | none => rfl
      | some o => rw [hk₁₂ D o e] at hD; cases hD
    have hv : vs.filter (fun _ => true) = vs := List.filter_eq_self.mpr fun _ _ => rfl
    rw [hv] at hF
    have e : ys.toList.toArray = ys := Array.toArray_toList
    refine hQ D h' tk n ys.toList (fun b o e => hk b o (noI b o e) (hk₁₂ b o e)) hD₁ (by rw [e]; exact hobj) (paired_of hinj as vs ys.toList hlen hPv hF)

theorem lc_str {elt iter : Expr} {x : Str} {px : Pos} {scope : Scope} {cl : List (Str × Addr)} {pos : Pos} {Q : Value → Shared → Prop} (l : List Nat) (F : Nat → Value → Prop)
    (hclos : closureFor scope env = pure cl) (hcell : ∀ y ∈ scope.names, y.2 ≠ .cell) (hkind : scope.kind = .function)
    (hnames : ∀ y ∈ scope.names, y.2 = .local → scope.names.lookup y.1 = some .local) (hx : scope.names.lookup x = some .local) (hh : A.handled = none)
    (h : wpAny (model prog w) A (eval iter env) (fun xv s₁ => Stop (∃ t, xv = .str (st l) t ∧ l.length ≤ sizeLine ∧
      (∀ C a u s₃ m₃ E', a ∈ l → s₁.heap.objs.size ≤ C → s₃.heap.Ns C m₃ → m₃ x = some (.str (st [a]) u) → Kp s₁.heap s₃.heap →
        wpAny (model prog w) A (eval elt (compEnvC scope cl C env)) (fun y s₄ => F a y ∧ Keeps s₃ s₄) E' s₃) ∧
      (∀ D h' tk n ys, Kp s₁.heap h' → s₁.heap.get? D = none → h'.get? D = some ({ cls := .type "list", data := .seq ys.toArray n } : Obj) → Paired F l ys → Q (.ref D) { s₁ with heap := h', toks := tk }))) E s)
    (hs : ∀ x, foldedSetIterable iter env x = pure x := by intro _; rfl) :
    wpAny (model prog w) A (eval (.ListComp elt [⟨.Name x px, iter, [], 0⟩] scope pos) env) Q E s := by
  refine lc_walk l (fun a v => ∃ u, v = .str (st [a]) u) F ?_ hclos hcell hkind hnames hx (wpAny_mono h (fun xv s₁ h₁ => ?_) fun _ _ e => e) hs
  · rintro a a' v ⟨u, rfl⟩ ⟨u', e⟩
    injection e with e1 _
    have := st_inj e1
    simpa using this
  obtain ⟨t, rfl, hsz, helt, hQ⟩ := h₁
  refine wpAny_pyIter_str (fun o St W hst => ?_)
  have hP : ∀ i v, SignAt (st l) i v → ∃ a, l[i]? = some a ∧ ∃ u, v = .str (st [a]) u := by
    rintro i v ⟨c, u, hc, rfl⟩
    exact ⟨c, by simpa [st] using hc, u, rfl⟩
  have hn : (st l).cps.size = l.length := by simp [st]
  have W' := W A hh
  rw [hn] at W'
  refine ⟨s₁.heap.objs.size, SignAt (st l), St, rfl, W', hP, hsz, hst, by show _ < (s₁.heap.push o).objs.size; rw [Heap.size_push]; exact Nat.lt_succ_self _, Nat.le_refl _, fun _ _ e => Heap.get?_push_of_some _ e, ⟨_, rfl⟩, ?_, hQ⟩
  rintro C a v s₃ m₃ E' ha ⟨u, rfl⟩ hC hn' hm hk
  exact helt C a u s₃ m₃ E' ha hC hn' hm hk

theorem lc_bytes {elt iter : Expr} {x : Str} {px : Pos} {scope : Scope} {cl : List (Str × Addr)} {pos : Pos} {Q : Value → Shared → Prop} (l : List UInt8) (F : UInt8 → Value → Prop)
    (hclos : closureFor scope env = pure cl) (hcell : ∀ y ∈ scope.names, y.2 ≠ .cell) (hkind : scope.kind = .function)
    (hnames : ∀ y ∈ scope.names, y.2 = .local → scope.names.lookup y.1 = some .local) (hx : scope.names.lookup x = some .local) (hh : A.handled = none)
    (h : wpAny (model prog w) A (eval iter env) (fun xv s₁ => Stop (∃ t, xv = .bytes l.toArray t ∧ l.length ≤ sizeLine ∧
      (∀ C a u s₃ m₃ E', a ∈ l → s₁.heap.objs.size ≤ C → s₃.heap.Ns C m₃ → m₃ x = some (.int (a.toNat : Int) u) → Kp s₁.heap s₃.heap →
        wpAny (model prog w) A (eval elt (compEnvC scope cl C env)) (fun y s₄ => F a y ∧ Keeps s₃ s₄) E' s₃) ∧
      (∀ D h' tk n ys, Kp s₁.heap h' → s₁.heap.get? D = none → h'.get? D = some ({ cls := .type "list", data := .seq ys.toArray n } : Obj) → Paired F l ys → Q (.ref D) { s₁ with heap := h', toks := tk }))) E s)
    (hs : ∀ x, foldedSetIterable iter env x = pure x := by intro _; rfl) :
    wpAny (model prog w) A (eval (.ListComp elt [⟨.Name x px, iter, [], 0⟩] scope pos) env) Q E s := by
  refine lc_walk l (fun a v => ∃ u, v = .int (a.toNat : Int) u) F ?_ hclos hcell hkind hnames hx (wpAny_mono h (fun xv s₁ h₁ => ?_) fun _ _ e => e) hs
  · rintro a a' v ⟨u, rfl⟩ ⟨u', e⟩
    injection e with e1 _
    exact UInt8.toNat_inj.mp (Int.ofNat.inj e1)
  obtain ⟨t, rfl, hsz, helt, hQ⟩ := h₁
  refine KBw.pyIter_bytes ?_
  have W' := KBw.walks (prog := prog) (w := w) hh s₁.heap.objs.size l.toArray t
  rw [show l.toArray.size = l.length from by simp] at W'
  refine ⟨s₁.heap.objs.size, _, _, rfl, W', ?_, hsz, ⟨_, Heap.get?_push_size _ rfl, rfl, rfl⟩, by show _ < (s₁.heap.push _).objs.size; rw [Heap.size_push]; exact Nat.lt_succ_self _, Nat.le_refl _, fun _ _ e => Heap.get?_push_of_some _ e, ⟨_, rfl⟩, ?_, hQ⟩
  · rintro i v ⟨c, u, hc, rfl⟩
    exact ⟨c, by simpa using hc, u, rfl⟩
  rintro C a v s₃ m₃ E' ha ⟨u, rfl⟩ hC hn' hm hk
  exact helt C a u s₃ m₃ E' ha hC hn' hm hk
end

theorem addNew {h₀ h h' : Heap} {L D : Addr} {m : Str → Option Value} {o : Obj} {news : List (Addr × Obj)} (F : Fr h₀ L h m) (N : News h₀ L h news) (k : Kp h h') (hD : h.get? D = none) (e : h'.get? D = some o) : News h₀ L h' ((D, o) :: news) := by
  intro p hp
  rcases List.mem_cons.mp hp with rfl | hp
  · refine ⟨e, ?_, ?_⟩
    · rintro rfl
      obtain ⟨oL, _, _, hL, _⟩ := F.ns
      rw [hL] at hD; cases hD
    · cases q : h₀.get? D with
      | none => rfl
      | some o' => have := F.keep _ _ q; rw [hD] at this; cases this
  · exact N.grown k p hp

theorem useCl {w : World} {n : Nat} {s : Shared} {c : Sem Value} {P : Value → Heap → Prop} {A : Around} {Q E : Value → Shared → Prop} {vw : Program} {lo : List Str} {mean : ExcName → Option Value} {mg mb : Str → Option Value}
    {h₀ : Heap} {L : Addr} {m : Str → Option Value} {news : List (Addr × Obj)} (C : Bs w vw lo mean mg mb s.heap → Cl w n s c P)
    (F : Fr h₀ L s.heap m) (N : News h₀ L s.heap news) (X : (hd.heap_39 w.params).In h₀) (T : Top vw lo mean mg mb h₀)
    (hh : A.handled = none) (hd : A.depth + n < recursionLimit) (hu : A.units + 8 * n < cLine)
    (h : ∀ v h' tk, Kp s.heap h' → Fr h₀ L h' m → News h₀ L h' news → P v h' → Q v { s with heap := h', toks := tk }) : wpAny (model Pg w) A c Q E s :=
  C (Bs.keeps ⟨X, T⟩ F.keep) A Q E hh hd hu fun v h' tk k p => h v h' tk k (F.keeps k) (N.grown k) p
/-- from any state that keeps H: the tree ends, keeps, and gives P -/
noncomputable def Ev (w : World) (A : Around) (H : Heap) (c : Sem Value) (P : Value → Prop) : Prop :=
  ∀ (s : Shared) (Q E : Value → Shared → Prop), Kp H s.heap → (∀ v h' tk, Kp s.heap h' → P v → Q v { s with heap := h', toks := tk }) → wpAny (model Pg w) A c Q E s

section
variable {w : World} {A : Around} {H : Heap} {env : Env} {vw : Program} {lo : List Str} {mean : ExcName → Option Value} {mg mb : Str → Option Value} {P R : Value → Prop}

theorem Ev.keeps {e : Expr} {s : Shared} {E : Value → Shared → Prop} (h : Ev w A H (eval e env) P) (k : Kp H s.heap) : wpAny (model Pg w) A (eval e env) (fun y s₄ => P y ∧ Keeps s s₄) E s :=
  h s _ E k fun v h' tk kk p => ⟨p, h', tk, rfl, kk⟩
theorem Ev.imp {c : Sem Value} (h : Ev w A H c P) (f : ∀ v, P v → R v) : Ev w A H c R := fun s Q E k q => h s Q E k fun v h' tk kk p => q v h' tk kk (f v p)
theorem Ev.mono {c : Sem Value} {H' : Heap} (h : Ev w A H c P) (k : Kp H H') : Ev w A H' c P := fun s Q E k' q => h s Q E (k.trans k') q

theorem Ev.loc {x : Str} {pos : Pos} {v : Value} {m : Str → Option Value} (hn : H.Ns env.locals m) (hm : m x = some v) (hk : env.scope.kind = .function) (hl : env.kindOf x = some .local) (hd : (x == ("__debug__" : Str)) = false := by decide) :
    Ev w A H (eval (.Name x pos) env) (fun r => r = v) := fun s Q E k q =>
  wpAny_Name (wpAny_loadName_local hk hl (hn.keeps k) hm (q v s.heap s.toks (Kp.refl _) rfl)) hd

theorem Ev.cel {x : Str} {pos : Pos} {v : Value} {c : Addr} (hc : env.cells.lookup x = some c) (hv : H.IsCell c (some v)) (hk : env.scope.kind = .function) (hl : env.kindOf x = some .cell) (hd : (x == ("__debug__" : Str)) = false := by decide) :
    Ev w A H (eval (.Name x pos) env) (fun r => r = v) := fun s Q E k q =>
  wpAny_Name (wpAny_loadName_cell hk hl hc (by obtain ⟨o, e, r⟩ := hv; exact ⟨o, k _ _ e, r⟩) (q v s.heap s.toks (Kp.refl _) rfl)) hd

theorem Ev.glob {x : Str} {pos : Pos} {v : Value} (b : Bs w vw lo mean mg mb H) (e : nsIn (hd.heap_39 w.params) mainGlobals x = some (some v)) (hg : env.globals = mainGlobals) (hk : env.scope.kind = .function) (hl : env.kindOf x = some .globalImplicit) (hd : (x == ("__debug__" : Str)) = false := by decide) :
    Ev w A H (eval (.Name x pos) env) (fun r => r = v) := fun s Q E k q =>
  Name_function_global hk hl (loadGlobal_global (env := env) (by rw [hg]; exact b.T.g.keeps k) (mg_of b.X b.T.g e) (q v s.heap s.toks (Kp.refl _) rfl)) hd

theorem Ev.blt {x : Str} {pos : Pos} {v : Value} (b : Bs w vw lo mean mg mb H) (e : nsIn (hd.heap_39 w.params) mainGlobals x = some none) (hv : bootBuiltins x = some v) (hg : env.globals = mainGlobals) (hbn : env.builtins = builtinsNs) (hk : env.scope.kind = .function) (hl : env.kindOf x = some .globalImplicit) (hn : x ≠ "__name__" := by decide) (hd : (x == ("__debug__" : Str)) = false := by decide) :
    Ev w A H (eval (.Name x pos) env) (fun r => r = v) := fun s Q E k q =>
  Name_function_global hk hl (loadGlobal_builtin (env := env) (by rw [hg]; exact b.T.g.keeps k) (mg_none_of b.X b.T.g e) (by rw [hbn]; exact b.T.b.keeps k) ((b.T.builtins x hn).trans hv) (q v s.heap s.toks (Kp.refl _) rfl)) hd

theorem Ev.str {x : Str} {k : Nat} {pos : Pos} : Ev w A H (eval (.Constant (.str x) k pos) env) (fun r => ∃ t, r = .str x t) := fun s Q E _ q =>
  Calls.Constant_str (q _ s.heap _ (Kp.refl _) ⟨_, rfl⟩)
theorem Ev.int {i : Int} {k : Nat} {pos : Pos} : Ev w A H (eval (.Constant (.int i) k pos) env) (fun r => ∃ t, r = .int i t) := fun s Q E _ q =>
  wpAny_Constant_int (q _ s.heap _ (Kp.refl _) ⟨_, rfl⟩)

theorem Ev.callB {f e : Expr} {pos : Pos} {id : String} (hf : Ev w A H (eval f env) (fun r => r = .builtin id)) (he : Ev w A H (eval e env) P) (hc : ∀ v, P v → Ev w A H (call (.builtin id) [v]) R)
    (h1 : starEach (e :: []) env = (false, eval e env) :: starEach [] env := by rfl)
    (h2 : eval (.Call f [e] [] pos) env = (do callWith pos (← eval f env) [] (backTo pos (starEach [e] env)) (backToKw pos (keywordEach [] env))) := by rfl) : Ev w A H (eval (.Call f [e] [] pos) env) R := fun s Q E k q =>
  Call_ (hf s _ _ k fun v h' tk k1 p => by
    subst p
    refine callWith_builtin1 (spliced_more (he _ _ _ (k.trans k1) fun v h2 tk2 k2 p => ?_) h1) h1 rfl
    refine spliced_none ?_
    exact hc v p _ _ _ ((k.trans k1).trans k2) fun r h3 tk3 k3 p3 => q r h3 tk3 ((k1.trans k2).trans k3) p3) h2

theorem Ev.callK {f e : Expr} {pos : Pos} {a : Addr} {n : Nat} (b : Bs w vw lo mean mg mb H) (hf : Ev w A H (eval f env) (fun r => r = .ref a)) (hkp : keepIn (hd.heap_39 w.params) (.ref a) = true) (he : Ev w A H (eval e env) P)
    (hh : A.handled = none) (hd : A.depth + n < recursionLimit) (hu : A.units + 8 * n < cLine)
    (hc : ∀ v s, P v → Kp H s.heap → Cl w n s (call (.ref a) [v]) (fun r _ => R r))
    (h1 : starEach (e :: []) env = (false, eval e env) :: starEach [] env := by rfl)
    (h2 : eval (.Call f [e] [] pos) env = (do callWith pos (← eval f env) [] (backTo pos (starEach [e] env)) (backToKw pos (keywordEach [] env))) := by rfl) : Ev w A H (eval (.Call f [e] [] pos) env) R := fun s Q E k q =>
  Call_ (hf s _ _ k fun v h' tk k1 p => by
    subst p
    refine callWith_K b.X hkp (spliced_more (he _ _ _ (k.trans k1) fun v h2 tk2 k2 p => ?_) h1) h1 rfl
    refine spliced_none ?_
    refine ⟨b.X.keeps ((k.trans k1).trans k2), ?_⟩
    exact hc v _ p ((k.trans k1).trans k2) A _ _ hh hd hu fun r h3 tk3 k3 p3 => q r h3 tk3 ((k1.trans k2).trans k3) p3) h2

theorem Ev.ifc {l r body orelse : Expr} {op : CmpOp} {p1 p2 : Pos} {c : Bool} {P1 P2 : Value → Prop} (hl : Ev w A H (eval l env) P1) (hr : Ev w A H (eval r env) P2)
    (hc : ∀ v u, P1 v → P2 u → Ev w A H (compareOp op v u) (fun z => z = .bool c)) (h1 : c = true → Ev w A H (eval body env) R) (h2 : c = false → Ev w A H (eval orelse env) R)
    (hm : behindInMarks op r = false := by with_unfolding_all rfl) : Ev w A H (eval (.IfExp (.Compare l [op] [r] p1) body orelse p2) env) R := fun s Q E k q =>
  wpAny_IfExp (wpAny_isTrue_Compare1 (hl _ _ _ k fun v ha ta ka pa => hr _ _ _ (k.trans ka) fun u hb tb kb pb => hc v u pa pb _ _ _ ((k.trans ka).trans kb) fun z hz tz kz pz => by
    subst pz
    refine wpAny_truthy_bool ?_
    cases c with
    | true => exact h1 rfl _ _ _ (((k.trans ka).trans kb).trans kz) fun r' hx tx kx px => q r' hx tx (((ka.trans kb).trans kz).trans kx) px
    | false => exact h2 rfl _ _ _ (((k.trans ka).trans kb).trans kz) fun r' hx tx kx px => q r' hx tx (((ka.trans kb).trans kz).trans kx) px) hm)

theorem Ev.bin {l r : Expr} {op : Operator} {p : Pos} {P1 P2 : Value → Prop} (hl : Ev w A H (eval l env) P1) (hr : Ev w A H (eval r env) P2)
    (hc : ∀ v u, P1 v → P2 u → Ev w A H (binaryOp op v u) R) : Ev w A H (eval (.BinOp l op r p) env) R := fun s Q E k q =>
  wpAny_BinOp (hl _ _ _ k fun v ha ta ka pa => hr _ _ _ (k.trans ka) fun u hb tb kb pb => hc v u pa pb _ _ _ ((k.trans ka).trans kb) fun z hz tz kz pz => q z hz tz ((ka.trans kb).trans kz) pz)

theorem Ev.ord {c : Nat} {t : Tok} : Ev w A H (call (.builtin "ord") [.str (st [c]) t]) (fun r => ∃ u, r = .int (c : Int) u) := fun s Q E _ q =>
  PySem.P.ord_of_char (q _ s.heap _ (Kp.refl _) ⟨_, rfl⟩)
theorem Ev.chr {i : Int} {t : Tok} (h0 : 0 ≤ i) (h1 : i ≤ 1114111) : Ev w A H (call (.builtin "chr") [.int i t]) (fun r => ∃ u, r = .str (st [i.toNat]) u) := fun s Q E _ q =>
  chr_of_range h0 h1 (q _ s.heap _ (Kp.refl _) ⟨_, rfl⟩)
theorem Ev.addI {i j : Int} {t u : Tok} : Ev w A H (binaryOp .Add (.int i t) (.int j u)) (fun r => ∃ v, r = .int (i + j) v) := fun s Q E _ q =>
  add_int (q _ s.heap _ (Kp.refl _) ⟨_, rfl⟩)
theorem Ev.subI {i j : Int} {t u : Tok} : Ev w A H (binaryOp .Sub (.int i t) (.int j u)) (fun r => ∃ v, r = .int (i - j) v) := fun s Q E _ q =>
  sub_int (q _ s.heap _ (Kp.refl _) ⟨_, rfl⟩)
theorem Ev.eqI {i j : Int} {t u : Tok} : Ev w A H (compareOp .Eq (.int i t) (.int j u)) (fun r => r = .bool (i == j)) := fun s Q E _ q =>
  eq_int (q _ s.heap _ (Kp.refl _) rfl)
theorem Ev.inS {x y : Str} {t u : Tok} : Ev w A H (compareOp .In (.str y u) (.str x t)) (fun r => r = .bool !(Builtin.Str.occurrences x y 0 x.length 1).isEmpty) := fun s Q E _ q =>
  in_str (q _ s.heap _ (Kp.refl _) rfl)
end

theorem anyToks {α : Type} {M : Model} {A : Around} {t : Sem α} {Q : α → Shared → Prop} {E : Value → Shared → Prop} {h : Heap} {g : Array GenState} {d : Drawn} {tk : Nat} {os : OsState} (x : ∀ tk, wpAny M A t Q E ⟨h, g, d, tk, os⟩) : wpAny M A t Q E ⟨h, g, d, tk, os⟩ := x tk

section
variable {w : World} {n : Nat} {s : Shared} {c : Sem Value} {A : Around} {Q E : Value → Shared → Prop} {vw : Program} {lo : List Str} {mean : ExcName → Option Value} {mg mb : Str → Option Value}
    {h₀ : Heap} {L : Addr} {m : Str → Option Value} {news : List (Addr × Obj)}
theorem offNew {h : Heap} {D : Addr} (N : News h₀ L h news) (hD : h.get? D = none) : LCg.Off1 D news := by
  induction news with
  | nil => trivial
  | cons p r ih =>
    refine ⟨?_, ih fun q hq => N q (.tail _ hq)⟩
    rintro rfl
    have := (N p (.head _)).1
    rw [hD] at this; cases this
/-- a call that hands back a plain value -/
theorem useV {R : Tok → Value} (C : Bs w vw lo mean mg mb s.heap → Cl w n s c (fun r _ => ∃ t, r = R t))
    (F : Fr h₀ L s.heap m) (N : News h₀ L s.heap news) (X : (hd.heap_39 w.params).In h₀) (T : Top vw lo mean mg mb h₀)
    (hh : A.handled = none) (hd : A.depth + n < recursionLimit) (hu : A.units + 8 * n < cLine)
    (h : ∀ t h' tk, Fr h₀ L h' m → News h₀ L h' news → Q (R t) { s with heap := h', toks := tk }) : wpAny (model Pg w) A c Q E s :=
  useCl C F N X T hh hd hu fun v h' tk k F' N' p => by obtain ⟨t, rfl⟩ := p; exact h t h' tk F' N'
theorem useV0 {r : Value} (C : Bs w vw lo mean mg mb s.heap → Cl w n s c (fun v _ => v = r))
    (F : Fr h₀ L s.heap m) (N : News h₀ L s.heap news) (X : (hd.heap_39 w.params).In h₀) (T : Top vw lo mean mg mb h₀)
    (hh : A.handled = none) (hd : A.depth + n < recursionLimit) (hu : A.units + 8 * n < cLine)
    (h : ∀ h' tk, Fr h₀ L h' m → News h₀ L h' news → Q r { s with heap := h', toks := tk }) : wpAny (model Pg w) A c Q E s :=
  useCl C F N X T hh hd hu fun v h' tk k F' N' p => by subst p; exact h h' tk F' N'

noncomputable abbrev tupO (vs : List Value) (n : Nat) : Obj := { cls := .type "tuple", data := .seq vs.toArray n }
/-- a new tuple of two -/
noncomputable def isTup2 (R1 R2 : Tok → Value) (H : Heap) (r : Value) (h : Heap) : Prop := ∃ D n t1 t2, r = .ref D ∧ H.get? D = none ∧ h.get? D = some (tupO [R1 t1, R2 t2] n)
noncomputable def isTup3 (R1 R2 R3 : Tok → Value) (H : Heap) (r : Value) (h : Heap) : Prop := ∃ D n t1 t2 t3, r = .ref D ∧ H.get? D = none ∧ h.get? D = some (tupO [R1 t1, R2 t2, R3 t3] n)
theorem useT2 {R1 R2 : Tok → Value} (C : Bs w vw lo mean mg mb s.heap → Cl w n s c (isTup2 R1 R2 s.heap))
    (F : Fr h₀ L s.heap m) (N : News h₀ L s.heap news) (X : (hd.heap_39 w.params).In h₀) (T : Top vw lo mean mg mb h₀)
    (hh : A.handled = none) (hd : A.depth + n < recursionLimit) (hu : A.units + 8 * n < cLine)
    (h : ∀ D n t1 t2 h' tk, Fr h₀ L h' m → News h₀ L h' ((D, tupO [R1 t1, R2 t2] n) :: news) → LCg.Off1 D news → Q (.ref D) { s with heap := h', toks := tk }) : wpAny (model Pg w) A c Q E s :=
  useCl C F N X T hh hd hu fun v h' tk k F' N' p => by obtain ⟨D, n, t1, t2, rfl, hD, e⟩ := p; exact h D n t1 t2 h' tk F' (addNew F N k hD e) (offNew N hD)
theorem useT3 {R1 R2 R3 : Tok → Value} (C : Bs w vw lo mean mg mb s.heap → Cl w n s c (isTup3 R1 R2 R3 s.heap))
    (F : Fr h₀ L s.heap m) (N : News h₀ L s.heap news) (X : (hd.heap_39 w.params).In h₀) (T : Top vw lo mean mg mb h₀)
    (hh : A.handled = none) (hd : A.depth + n < recursionLimit) (hu : A.units + 8 * n < cLine)
    (h : ∀ D n t1 t2 t3 h' tk, Fr h₀ L h' m → News h₀ L h' ((D, tupO [R1 t1, R2 t2, R3 t3] n) :: news) → LCg.Off1 D news → Q (.ref D) { s with heap := h', toks := tk }) : wpAny (model Pg w) A c Q E s :=
  useCl C F N X T hh hd hu fun v h' tk k F' N' p => by obtain ⟨D, n, t1, t2, t3, rfl, hD, e⟩ := p; exact h D n t1 t2 t3 h' tk F' (addNew F N k hD e) (offNew N hD)
theorem Done.tup2 {R1 R2 : Tok → Value} {D : Addr} {n : Nat} {t1 t2 : Tok} {h' : Heap} {tk : Nat} (F : Fr s.heap L h' m) (N : News s.heap L h' ((D, tupO [R1 t1, R2 t2] n) :: news)) :
    Done s (isTup2 R1 R2 s.heap) (.ret (.ref D)) { s with heap := h', toks := tk } := Done.ret F ⟨D, n, t1, t2, rfl, (N _ (.head _)).2.2, (N _ (.head _)).1⟩
theorem Done.tup3 {R1 R2 R3 : Tok → Value} {D : Addr} {n : Nat} {t1 t2 t3 : Tok} {h' : Heap} {tk : Nat} (F : Fr s.heap L h' m) (N : News s.heap L h' ((D, tupO [R1 t1, R2 t2, R3 t3] n) :: news)) :
    Done s (isTup3 R1 R2 R3 s.heap) (.ret (.ref D)) { s with heap := h', toks := tk } := Done.ret F ⟨D, n, t1, t2, t3, rfl, (N _ (.head _)).2.2, (N _ (.head _)).1⟩
end

section
variable {prog : Program} {w : World} {A : Around} {E : Value → Shared → Prop} {s : Shared}
/-- an octet at a place, its worth known -/
theorem item_at {value slice : PySem.Expr} {t : Tok} {Q : Value → Shared → Prop} {x : List UInt8} {i : Int} {ui : Tok} {v : Int} (hfit : x.length ≤ 1099511627776) (h0 : 0 ≤ i) (h1 : i < (x.length : Int)) (e : ((x.getD i.toNat 0).toNat : Int) = v)
    (h : Q (.int v s.toks) { s with toks := s.toks + 1 })
    (hs : subscripted slice false (.bytes x.toArray t) (.int i ui) = operate [.bytes x.toArray t, .int i ui] (getItem (.bytes x.toArray t) (.int i ui)) := by with_unfolding_all rfl)
    (ht : ∀ r, letTemporaryGo value (.bytes x.toArray t) r = pure () := by intro _; with_unfolding_all rfl) :
    wpAny (model prog w) A (subscriptTail value slice (.bytes x.toArray t) (.int i ui)) Q E s := by
  subst e
  exact KBy.item_N hfit h0 h1 h hs ht
end
theorem Done.tupII {s : Shared} {a b a' b' : Int} {D L : Addr} {n : Nat} {t1 t2 : Tok} {h' : Heap} {tk : Nat} {m : Str → Option Value} {news : List (Addr × Obj)} (F : Fr s.heap L h' m) (N : News s.heap L h' ((D, tupO [.int a' t1, .int b' t2] n) :: news)) (e1 : a' = a) (e2 : b' = b) :
    Done s (isTup2 (.int a) (.int b) s.heap) (.ret (.ref D)) { s with heap := h', toks := tk } := by subst e1; subst e2; exact Done.tup2 F N

theorem frSet {h₀ h : Heap} {L : Addr} {m : Str → Option Value} {x : Str} {v : Value} (F : Fr h₀ L h m) (e : m x = some v) : Fr h₀ L h (fun y => if y = x then some v else m y) := by
  have : (fun y => if y = x then some v else m y) = m := by
    funext y
    by_cases h : y = x
    · simp [h, e]
    · simp [h]
  rw [this]; exact F

section
variable {prog : Program} {w : World} {A : Around} {s : Shared} {env : Env} {h₀ : Heap} {L : Addr}
noncomputable abbrev Jn := (Str → Option Value) → List (Addr × Obj) → Prop
noncomputable def FPost (h₀ : Heap) (L : Addr) (s : Shared) (I : Addr) (oI : Obj) (J : Jn) (Q : Flow → Shared → Prop) (f : Flow) (s' : Shared) : Prop :=
  match f with
  | .ret v => Q (.ret v) s'
  | .brk => Q .next s'
  | _ => ∃ h tk m news, s' = { s with heap := h, toks := tk } ∧ Fr h₀ L h m ∧ News h₀ L h ((I, oI) :: news) ∧ LCg.Off1 I news ∧ J m news

theorem off1_mem {D : Addr} : ∀ {l : List (Addr × Obj)}, LCg.Off1 D l → ∀ p ∈ l, p.1 ≠ D
  | [], _, _, h => nomatch h
  | _ :: _, x, p, h => by
    rcases List.mem_cons.mp h with rfl | h
    · exact x.1
    · exact off1_mem x.2 p h
theorem off1_of {D : Addr} : ∀ {l : List (Addr × Obj)}, (∀ p ∈ l, p.1 ≠ D) → LCg.Off1 D l
  | [], _ => trivial
  | _ :: _, h => ⟨h _ (.head _), off1_of fun p hp => h p (.tail _ hp)⟩

theorem for_go {target : Expr} {body : List Stmt} {Q : Flow → Shared → Prop} {I : Addr} {fp : List Addr} {n : Nat} {P : Nat → Value → Prop} {St : Nat → Heap → Prop} {m₀ : Str → Option Value} {news₀ : List (Addr × Obj)} (J : Nat → Jn)
    (W : Walks prog w A I fp [I] n P St) (hIo : ∀ i h, St i h → ∃ o, h.get? I = some o)
    (hSt : ∀ i h h' o m' news', St i h → h.get? I = some o → h'.get? I = some o → Fr h₀ L h' m' → News h₀ L h' news' → J i m' news' → St i h')
    (hIL : L ≠ I) (hI₀ : h₀.get? I = none) (hst : St 0 s.heap) (F : Fr h₀ L s.heap m₀) (N : News h₀ L s.heap news₀) (off : LCg.Off1 I news₀) (h0 : J 0 m₀ news₀)
    (turn : ∀ i v oI h tk m news, i < n → P i v → J i m news → Fr h₀ L h m → News h₀ L h ((I, oI) :: news) → LCg.Off1 I news →
      wpAny (model prog w) A (assign target env v) (fun _ s₄ => wpAny (model prog w) A (execs body env) (FPost h₀ L s I oI (J (i + 1)) Q) (fun _ _ => False) s₄) (fun _ _ => False) { s with heap := h, toks := tk })
    (done : ∀ h tk m news, J n m news → Fr h₀ L h m → News h₀ L h news → Q .next { s with heap := h, toks := tk })
    (ht : ∀ v, letOwnedTupleGo target (.ref I) v = pure () := by intro _; rfl) :
    codeAny (model prog w) A (.forLoop target (.ref I) body [] env) (fun r s' => match r with | .ok f => Q f s' | .error e => cameBackBy (model prog w) A env (fun _ _ => False) e s') s := by
  refine codeAny_forLoop
    (fun k s' => ∃ h tk m news i, s' = { s with heap := h, toks := tk } ∧ St i h ∧ Fr h₀ L h m ∧ News h₀ L h news ∧ LCg.Off1 I news ∧ J i m news ∧ i ≤ n ∧ k = n + 1 - i) ?_ (n + 1)
    ⟨s.heap, s.toks, m₀, news₀, 0, rfl, hst, F, N, off, h0, Nat.zero_le _, rfl⟩ ht
  rintro k s' ⟨h, tk, m, news, i, rfl, hst', F', N', off', hJ, hi, rfl⟩
  have offm := off1_mem off'
  by_cases hlt : i < n
  · refine W.item i _ _ _ hlt hst' fun v h₁ tk₁ hP hst₁ hk₁ => ?_
    obtain ⟨oI, heI⟩ := hIo _ _ hst₁
    have F₁ : Fr h₀ L h₁ m := LCg.fr_but F' hk₁ hIL hI₀
    have N₁ : News h₀ L h₁ ((I, oI) :: news) := fun p hp => by
      rcases List.mem_cons.mp hp with rfl | hp
      · exact ⟨heI, Ne.symm hIL, hI₀⟩
      · exact LCg.news_but N' hk₁ offm p hp
    refine wpAny_mono (turn i v oI h₁ tk₁ m news hlt hP hJ F₁ N₁ off') (fun _ s₄ h₄ => ?_) fun _ _ x => x.elim
    refine wpAny_mono h₄ (fun f s₅ h₅ => ?_) fun _ _ x => x.elim
    have fin : (∃ h tk m news, s₅ = { s with heap := h, toks := tk } ∧ Fr h₀ L h m ∧ News h₀ L h ((I, oI) :: news) ∧ LCg.Off1 I news ∧ J (i + 1) m news) → ∃ k', k' < n + 1 - i ∧ ∃ h tk m news i', s₅ = { s with heap := h, toks := tk } ∧ St i' h ∧ Fr h₀ L h m ∧ News h₀ L h news ∧ LCg.Off1 I news ∧ J i' m news ∧ i' ≤ n ∧ k' = n + 1 - i' := by
      rintro ⟨h₂, tk₂, m₂, news₂, rfl, F₂, N₂, off₂, hJ₂⟩
      have Nt : News h₀ L h₂ news₂ := fun p hp => N₂ p (.tail _ hp)
      exact ⟨n + 1 - (i + 1), by omega, h₂, tk₂, m₂, news₂, i + 1, rfl, hSt _ _ _ _ _ _ hst₁ heI (N₂ _ (.head _)).1 F₂ Nt hJ₂, F₂, Nt, off₂, hJ₂, hlt, rfl⟩
    cases f with
    | ret v => exact h₅
    | brk => exact h₅
    | cont => exact fin h₅
    | next => exact fin h₅
  · have hin : i = n := by omega
    subst hin
    refine W.done _ _ _ hst' fun h₁ tk₁ hk₁ => wpAny_execs_nil ?_
    exact done h₁ tk₁ m news hJ (LCg.fr_but F' hk₁ hIL hI₀) (LCg.news_but N' hk₁ offm)

theorem for_list {target iter : Expr} {body : List Stmt} {pos : Pos} {Q : Flow → Shared → Prop} {mx : Str → Option Value} (F₀ : Fr h₀ L s.heap mx) (hh : A.handled = none)
    (h : wpAny (model prog w) A (eval iter env) (fun xv s₁ => Stop (∃ (ax : Addr) (items : Array Value) (m₀ : Str → Option Value) (news₀ : List (Addr × Obj)) (J : Nat → Jn), xv = .ref ax ∧ Fr h₀ L s₁.heap m₀ ∧ News h₀ L s₁.heap news₀ ∧ (∀ i m news (h : Heap), J i m news → Fr h₀ L h m → News h₀ L h news → h.IsList ax items) ∧ J 0 m₀ news₀ ∧
      (∀ i v I oI h tk m news, i < items.size → items[i]? = some v → J i m news → Fr h₀ L h m → News h₀ L h ((I, oI) :: news) → LCg.Off1 I news →
        wpAny (model prog w) A (assign target env v) (fun _ s₄ => wpAny (model prog w) A (execs body env) (FPost h₀ L s₁ I oI (J (i + 1)) Q) (fun _ _ => False) s₄) (fun _ _ => False) { s₁ with heap := h, toks := tk }) ∧
      (∀ h tk m news, J items.size m news → Fr h₀ L h m → News h₀ L h news → Q .next { s₁ with heap := h, toks := tk }))) (fun _ _ => False) s)
    (hs : ∀ x, foldedSetIterable iter env x = pure x := by intro _; rfl) (ht : ∀ I v, letOwnedTupleGo target (.ref I) v = pure () := by intro _ _; rfl) :
    wpAny (model prog w) A (exec (.For target iter body [] pos) env) Q (fun _ _ => False) s := by
  refine wpAny_For (wpAny_mono h (fun xv s₁ h₁ => ?_) fun _ _ e => e) hs
  obtain ⟨ax, items, m₀, news₀, J, rfl, F, N, hsrc, h0, turn, done⟩ := h₁
  have hl := hsrc 0 m₀ news₀ s₁.heap h0 F N
  have hlt : ax < s₁.heap.objs.size := by obtain ⟨_, e, _⟩ := hl; exact Heap.lt_size e
  refine wpAny_pyIter_list hl ?_
  have up : ∀ b o, s₁.heap.get? b = some o → (s₁.heap.push { cls := .type "list_iterator", data := .fields #[.ref ax, .int 0 0] }).get? b = some o := fun b o e => Heap.get?_push_of_some _ e
  refine for_go J (Walks.list hh s₁.heap.objs.size ax (Nat.ne_of_lt hlt) items) (fun i h st => by obtain ⟨o, e, _⟩ := st.1; exact ⟨o, e⟩) ?_ (Nat.ne_of_lt F.ns.lt) (next_is_new F) ⟨⟨_, Heap.get?_push_size _ rfl, rfl, rfl⟩, hl.push _⟩ (F.keeps up) (N.grown up) (off1_of fun p hp => Nat.ne_of_lt (Heap.lt_size (N p hp).1)) h0 ?_ done (ht _)
  · intro i h h' o m' news' st e e' F' N' hJ
    exact ⟨by obtain ⟨o', q, r⟩ := st.1; rw [e] at q; cases q; exact ⟨o, e', r⟩, hsrc i m' news' h' hJ F' N'⟩
  · intro i v oI h tk m news hi hv hJ F' N' off
    exact turn i v _ oI h tk m news hi hv hJ F' N' off

theorem for_tup {target iter : Expr} {body : List Stmt} {pos : Pos} {Q : Flow → Shared → Prop} {mx : Str → Option Value} (F₀ : Fr h₀ L s.heap mx) (hh : A.handled = none)
    (h : wpAny (model prog w) A (eval iter env) (fun xv s₁ => Stop (∃ (ax : Addr) (items : Array Value) (m₀ : Str → Option Value) (news₀ : List (Addr × Obj)) (J : Nat → Jn), xv = .ref ax ∧ Fr h₀ L s₁.heap m₀ ∧ News h₀ L s₁.heap news₀ ∧ (∀ i m news (h : Heap), J i m news → Fr h₀ L h m → News h₀ L h news → h.IsTuple ax items) ∧ J 0 m₀ news₀ ∧
      (∀ i v I oI h tk m news, i < items.size → items[i]? = some v → J i m news → Fr h₀ L h m → News h₀ L h ((I, oI) :: news) → LCg.Off1 I news →
        wpAny (model prog w) A (assign target env v) (fun _ s₄ => wpAny (model prog w) A (execs body env) (FPost h₀ L s₁ I oI (J (i + 1)) Q) (fun _ _ => False) s₄) (fun _ _ => False) { s₁ with heap := h, toks := tk }) ∧
      (∀ h tk m news, J items.size m news → Fr h₀ L h m → News h₀ L h news → Q .next { s₁ with heap := h, toks := tk }))) (fun _ _ => False) s)
    (hs : ∀ x, foldedSetIterable iter env x = pure x := by intro _; rfl) (ht : ∀ I v, letOwnedTupleGo target (.ref I) v = pure () := by intro _ _; rfl) :
    wpAny (model prog w) A (exec (.For target iter body [] pos) env) Q (fun _ _ => False) s := by
  refine wpAny_For (wpAny_mono h (fun xv s₁ h₁ => ?_) fun _ _ e => e) hs
  obtain ⟨ax, items, m₀, news₀, J, rfl, F, N, hsrc, h0, turn, done⟩ := h₁
  have hl := hsrc 0 m₀ news₀ s₁.heap h0 F N
  have hlt : ax < s₁.heap.objs.size := by obtain ⟨_, e, _⟩ := hl; exact Heap.lt_size e
  refine wpAny_pyIter_tuple hl ?_
  have up : ∀ b o, s₁.heap.get? b = some o → (s₁.heap.push { cls := .type "tuple_iterator", data := .fields #[.ref ax, .int 0 0] }).get? b = some o := fun b o e => Heap.get?_push_of_some _ e
  refine for_go J (Walks.tuple hh s₁.heap.objs.size ax (Nat.ne_of_lt hlt) items) (fun i h st => by obtain ⟨o, e, _⟩ := st.1; exact ⟨o, e⟩) ?_ (Nat.ne_of_lt F.ns.lt) (next_is_new F) ⟨⟨_, Heap.get?_push_size _ rfl, rfl, rfl⟩, by obtain ⟨o, e, r⟩ := hl; exact ⟨o, up _ _ e, r⟩⟩ (F.keeps up) (N.grown up) (off1_of fun p hp => Nat.ne_of_lt (Heap.lt_size (N p hp).1)) h0 ?_ done (ht _)
  · intro i h h' o m' news' st e e' F' N' hJ
    exact ⟨by obtain ⟨o', q, r⟩ := st.1; rw [e] at q; cases q; exact ⟨o, e', r⟩, hsrc i m' news' h' hJ F' N'⟩
  · intro i v oI h tk m news hi hv hJ F' N' off
    exact turn i v _ oI h tk m news hi hv hJ F' N' off

theorem for_range {target iter : Expr} {body : List Stmt} {pos : Pos} {Q : Flow → Shared → Prop} {mx : Str → Option Value} (F₀ : Fr h₀ L s.heap mx) (hh : A.handled = none)
    (h : wpAny (model prog w) A (eval iter env) (fun xv s₁ => Stop (∃ (r : Addr) (a b : Int) (t u v : Tok) (n : Nat) (m₀ : Str → Option Value) (news₀ : List (Addr × Obj)) (J : Nat → Jn), xv = .ref r ∧ IsRange s₁.heap r a b 1 t u v ∧ Builtin.Range.small a b 1 = true ∧ Builtin.Range.rangeSize a b 1 = ((n : Nat) : Int) ∧ Fr h₀ L s₁.heap m₀ ∧ News h₀ L s₁.heap news₀ ∧ J 0 m₀ news₀ ∧
      (∀ i t I oI h tk m news, i < n → J i m news → Fr h₀ L h m → News h₀ L h ((I, oI) :: news) → LCg.Off1 I news →
        wpAny (model prog w) A (assign target env (.int (a + (i : Int)) t)) (fun _ s₄ => wpAny (model prog w) A (execs body env) (FPost h₀ L s₁ I oI (J (i + 1)) Q) (fun _ _ => False) s₄) (fun _ _ => False) { s₁ with heap := h, toks := tk }) ∧
      (∀ h tk m news, J n m news → Fr h₀ L h m → News h₀ L h news → Q .next { s₁ with heap := h, toks := tk }))) (fun _ _ => False) s)
    (hs : ∀ x, foldedSetIterable iter env x = pure x := by intro _; rfl) (ht : ∀ I v, letOwnedTupleGo target (.ref I) v = pure () := by intro _ _; rfl) :
    wpAny (model prog w) A (exec (.For target iter body [] pos) env) Q (fun _ _ => False) s := by
  refine wpAny_For (wpAny_mono h (fun xv s₁ h₁ => ?_) fun _ _ e => e) hs
  obtain ⟨r, a, b, t, u, v, n, m₀, news₀, J, rfl, hr, hsm, hn, F, N, h0, turn, done⟩ := h₁
  refine wpAny_pyIter_range hr hsm ?_
  have up : ∀ (oo : Obj), ∀ b o, s₁.heap.get? b = some o → (s₁.heap.push oo).get? b = some o := fun oo b o e => Heap.get?_push_of_some _ e
  refine for_go J (LCg.range_walks hh a n) (fun i h st => ⟨_, st⟩) ?_ (Nat.ne_of_lt F.ns.lt) (next_is_new F) (by show IsRangeIter _ _ _ _ _; rw [hn]; simpa using Heap.get?_push_size _ rfl) (F.keeps (up _)) (N.grown (up _)) (off1_of fun p hp => Nat.ne_of_lt (Heap.lt_size (N p hp).1)) h0 ?_ done (ht _)
  · intro i h h' o m' news' st e e' F' N' hJ
    exact LCg.range_st i h h' o news' st e e' F'.keep N' trivial
  · rintro i v oI h tk m news hi ⟨t', rfl⟩ hJ F' N' off
    exact turn i t' _ oI h tk m news hi hJ F' N' off

theorem for_str {target iter : Expr} {body : List Stmt} {pos : Pos} {Q : Flow → Shared → Prop} {mx : Str → Option Value} (F₀ : Fr h₀ L s.heap mx) (hh : A.handled = none)
    (h : wpAny (model prog w) A (eval iter env) (fun xv s₁ => Stop (∃ (l : List Nat) (t : Tok) (m₀ : Str → Option Value) (news₀ : List (Addr × Obj)) (J : Nat → Jn), xv = .str (st l) t ∧ Fr h₀ L s₁.heap m₀ ∧ News h₀ L s₁.heap news₀ ∧ J 0 m₀ news₀ ∧
      (∀ i c t I oI h tk m news, l[i]? = some c → J i m news → Fr h₀ L h m → News h₀ L h ((I, oI) :: news) → LCg.Off1 I news →
        wpAny (model prog w) A (assign target env (.str (st [c]) t)) (fun _ s₄ => wpAny (model prog w) A (execs body env) (FPost h₀ L s₁ I oI (J (i + 1)) Q) (fun _ _ => False) s₄) (fun _ _ => False) { s₁ with heap := h, toks := tk }) ∧
      (∀ h tk m news, J l.length m news → Fr h₀ L h m → News h₀ L h news → Q .next { s₁ with heap := h, toks := tk }))) (fun _ _ => False) s)
    (hs : ∀ x, foldedSetIterable iter env x = pure x := by intro _; rfl) (ht : ∀ I v, letOwnedTupleGo target (.ref I) v = pure () := by intro _ _; rfl) :
    wpAny (model prog w) A (exec (.For target iter body [] pos) env) Q (fun _ _ => False) s := by
  refine wpAny_For (wpAny_mono h (fun xv s₁ h₁ => ?_) fun _ _ e => e) hs
  obtain ⟨l, t, m₀, news₀, J, rfl, F, N, h0, turn, done⟩ := h₁
  have up : ∀ (oo : Obj), ∀ b o, s₁.heap.get? b = some o → (s₁.heap.push oo).get? b = some o := fun oo b o e => Heap.get?_push_of_some _ e
  have hn : (st l).cps.size = l.length := by simp [st]
  have go : ∀ (o : Obj) (ty : String), o.cls = .type ty → o.data = .fields #[.str (st l) t, .int 0 0] → o.isFreed = false → Walks prog w A s₁.heap.objs.size [s₁.heap.objs.size] [s₁.heap.objs.size] (st l).cps.size (SignAt (st l)) (fun i h => h.IsStrIter s₁.heap.objs.size ty (st l) t i) →
      codeAny (model prog w) A (.forLoop target (.ref s₁.heap.objs.size) body [] env) (fun r s' => match r with | .ok f => Q f s' | .error e => cameBackBy (model prog w) A env (fun _ _ => False) e s') { s₁ with heap := s₁.heap.push o } := by
    intro o ty hc hd hfr W
    rw [hn] at W
    refine for_go J W (fun i h st => by obtain ⟨o, e, _⟩ := st; exact ⟨o, e⟩) ?_ (Nat.ne_of_lt F.ns.lt) (next_is_new F) ⟨_, Heap.get?_push_size _ hfr, hc, hd⟩ (F.keeps (up _)) (N.grown (up _)) (off1_of fun p hp => Nat.ne_of_lt (Heap.lt_size (N p hp).1)) h0 ?_ done (ht _)
    · intro i h h' o m' news' st e e' F' N' hJ
      obtain ⟨o', q, r⟩ := st
      rw [e] at q; cases q
      exact ⟨o, e', r⟩
    · rintro i v oI h tk m news hi ⟨c, u, hc, rfl⟩ hJ F' N' off
      exact turn i c u _ oI h tk m news (by simpa [st] using hc) hJ F' N' off
  cases ha : (st l).cps.all (· < 128)
  · exact wpAny_pyIter_wide ha (go _ "str_iterator" rfl rfl rfl (Walks.strWide hh _ _ t))
  · exact wpAny_pyIter_ascii ha (go _ "str_ascii_iterator" rfl rfl rfl (Walks.strAscii hh _ _ t))
end

section
variable {w : World} {vw : Program} {lo : List Str} {mean : ExcName → Option Value} {mg mb : Str → Option Value} {s : Shared}

noncomputable def lowC (v : Int) : Int := if 65 ≤ v ∧ v ≤ 90 then v + 32 else v

theorem c_lower_code {v : Int} {t : Tok} (b : Bs w vw lo mean mg mb s.heap) : Cl w 1 s (call (.ref 61) [.int v t]) (fun r _ => ∃ t', r = .int (lowC v) t') := by
  refine' enter (binds := [(Str.ofString "code", .int v t)]) b ?k6 ?k7 ?k9 ?kB ?c5 ?c2 ?c3 ?c4 ?_
  ((case k6 => k_is); (case k7 => k_is); (case k9 => exact rfl); (case kB => exact locs rfl); (case c5 => decide); (case c2 => exact rfl); (case c3 => exact rfl); (case c4 => exact rfl))
  intro dp un fr gd h₁ tk hd hu F X T N
  ((try dsimp only); (try k_fold); repeat' (first | (k_unfold; (try dsimp only)) | ((first | with_reducible ((with_reducible show wpAny _ _ (eval (PySem.Expr.Name _ _) _) _ _ _); (k_dflt (first | (refine' nameX_L ?Fh9 ?vh9 ?_ ?ah9 ?bh9; (case Fh9 => k_asm); (case ah9 => rfl); (case bh9 => rfl); (case vh9 => rfl); k_whole) | (refine' nameX_K ?Fh9 ?Xh9 ?Th9 ?eh9 ?_ ?ah9 ?bh9; (case Fh9 => k_asm); (case Xh9 => k_asm); (case Th9 => k_asm); (case ah9 => rfl); (case bh9 => rfl); (case eh9 => k_is); k_whole) | (refine' nameX_B ?Fh9 ?Xh9 ?Th9 ?eh9 ?vh9 ?nh9 ?_ ?ah9 ?bh9; (case Fh9 => k_asm); (case Xh9 => k_asm); (case Th9 => k_asm); (case ah9 => rfl); (case bh9 => rfl); (case eh9 => k_is); (case vh9 => boot_fast); (case nh9 => decide); k_whole)))) | with_reducible ((with_reducible show wpAny _ _ (spliced _) _ _ _); (k_dflt (first | refine args_cons ?_ | (refine args_nil ?_; (try simp only [List.cons_append, List.nil_append]))))) | with_reducible ((with_reducible show wpAny _ _ (eval (PySem.Expr.ListComp _ _ _ _) _) _ _ _); ((rename Mk 1 => mk'z); refine Stop.mk ?_)) | with_reducible (k_closed; first | with_reducible refine PySem.W.ite_pos (by with_unfolding_all decide) ?_ | with_reducible refine PySem.W.ite_neg (by with_unfolding_all decide) ?_) | walk1); (try dsimp only); (try ((with_reducible show wpAny _ _ _ _ _ ⟨_, _, _, _ + _, _⟩); refine anyToks ?_; intro _)); (repeat ((first | with_reducible rename (_ < _ ∧ _) => hhzz | with_reducible rename (_ ≠ _ ∧ _) => hhzz | with_reducible rename ((_ ≠ _ ∧ _) ∧ _) => hhzz); have := hhzz.1; have := hhzz.2; clear hhzz))) | (dsimp only; walk1) | (leave1; (try dsimp only)) | fail "no step"))
  all_goals (show Done _ _ _ _)
  all_goals exact Done.ret (by k_asm) ⟨_, congrArg (Value.int · _) (by unfold lowC; split <;> omega)⟩
noncomputable def lowN (c : Nat) : Nat := if 65 ≤ c ∧ c ≤ 90 then c + 32 else c
theorem lowC_nat (c : Nat) : lowC (c : Int) = (lowN c : Int) := by
  unfold lowC lowN; split <;> split <;> omega

theorem join_eq (x : Str) (l : List Str) : Txt.join x l = Str.join x l := eq_of_beq (join_plain_closes x l)
theorem sum_ones {α : Type} (f : α → Nat) (l : List α) : ((l.map fun c => st [f c]).map (·.length)).sum = l.length := by
  induction l with
  | nil => rfl
  | cons a r ih => simp only [List.map_cons, List.sum_cons, List.length_cons, ih, st_len, List.length_nil]; omega
theorem join_map {α : Type} (f : α → Nat) (l : List α) : Txt.join ⟨#[]⟩ (l.map fun c => st [f c]) = st (l.map f) := by
  have h := join_ones (l.map f)
  rw [List.map_map] at h
  rw [join_eq]
  exact h

theorem c_lower_text {l : List Nat} {t : Tok} (hc : ∀ c ∈ l, c ≤ 1000000) (hl : l.length ≤ 1000000) (b : Bs w vw lo mean mg mb s.heap) : Cl w 2 s (call (.ref 66) [.str (st l) t]) (fun r _ => ∃ t', r = .str (st (l.map lowN)) t') := by
  refine' enter (binds := [(Str.ofString "text", .str (st l) t)]) b ?k6 ?k7 ?k9 ?kB ?c5 ?c2 ?c3 ?c4 ?_
  ((case k6 => k_is); (case k7 => k_is); (case k9 => exact rfl); (case kB => exact locs rfl); (case c5 => decide); (case c2 => exact rfl); (case c3 => exact rfl); (case c4 => exact rfl))
  intro dp un fr gd h₁ tk hd hu F X T N
  have mk1 := Mk.on 1
  ((try dsimp only); (try k_fold); repeat' (first | (k_unfold; (try dsimp only)) | ((first | with_reducible ((with_reducible show wpAny _ _ (eval (PySem.Expr.Name _ _) _) _ _ _); (k_dflt (first | (refine' nameX_L ?Fh9 ?vh9 ?_ ?ah9 ?bh9; (case Fh9 => k_asm); (case ah9 => rfl); (case bh9 => rfl); (case vh9 => rfl); k_whole) | (refine' nameX_K ?Fh9 ?Xh9 ?Th9 ?eh9 ?_ ?ah9 ?bh9; (case Fh9 => k_asm); (case Xh9 => k_asm); (case Th9 => k_asm); (case ah9 => rfl); (case bh9 => rfl); (case eh9 => k_is); k_whole) | (refine' nameX_B ?Fh9 ?Xh9 ?Th9 ?eh9 ?vh9 ?nh9 ?_ ?ah9 ?bh9; (case Fh9 => k_asm); (case Xh9 => k_asm); (case Th9 => k_asm); (case ah9 => rfl); (case bh9 => rfl); (case eh9 => k_is); (case vh9 => boot_fast); (case nh9 => decide); k_whole)))) | with_reducible ((with_reducible show wpAny _ _ (spliced _) _ _ _); (k_dflt (first | refine args_cons ?_ | (refine args_nil ?_; (try simp only [List.cons_append, List.nil_append]))))) | with_reducible ((with_reducible show wpAny _ _ (eval (PySem.Expr.ListComp _ _ _ _) _) _ _ _); ((rename Mk 1 => mk'z); refine Stop.mk ?_)) | with_reducible (k_closed; first | with_reducible refine PySem.W.ite_pos (by with_unfolding_all decide) ?_ | with_reducible refine PySem.W.ite_neg (by with_unfolding_all decide) ?_) | walk1); (try dsimp only); (try ((with_reducible show wpAny _ _ _ _ _ ⟨_, _, _, _ + _, _⟩); refine anyToks ?_; intro _)); (repeat ((first | with_reducible rename (_ < _ ∧ _) => hhzz | with_reducible rename (_ ≠ _ ∧ _) => hhzz | with_reducible rename ((_ ≠ _ ∧ _) ∧ _) => hhzz); have := hhzz.1; have := hhzz.2; clear hhzz))) | (dsimp only; walk1) | (leave1; (try dsimp only)) | fail "no step"))
  refine Stop.out ?_
  refine lc_str l (fun c v => ∃ t, v = .str (st [lowN c]) t) (by with_unfolding_all rfl) (by decide) rfl (by decide) rfl rfl ?_
  refine ld F rfl ?_
  refine Stop.out ⟨t, rfl, by rw [sizeLine_eq]; omega, ?_, ?_⟩
  · intro C a u s₃ m₃ E' ha hC hn hm hk
    have b₃ := b.keeps (Kp.trans F.keep hk)
    refine Ev.keeps (H := s₃.heap) (P := fun v => ∃ t, v = .str (st [lowN a]) t) ?_ (Kp.refl _)
    refine Ev.callB (P := fun v => ∃ t, v = .int (lowN a : Int) t) (Ev.blt b₃ (by k_is) (by boot_fast) rfl rfl rfl rfl) ?_ ?_
    · refine Ev.callK (n := 1) (P := fun v => ∃ t, v = .int (a : Int) t) b₃ (Ev.glob b₃ (by k_is) rfl rfl rfl) (by k_is) ?_ rfl (by dsimp only; omega) (by dsimp only; omega) ?_
      · refine Ev.callB (Ev.blt b₃ (by k_is) (by boot_fast) rfl rfl rfl rfl) (Ev.loc hn hm rfl rfl) ?_
        rintro v rfl
        exact Ev.ord
      · rintro v s' ⟨t', rfl⟩ k
        have c := c_lower_code (v := (a : Int)) (t := t') (b₃.keeps k)
        rw [lowC_nat] at c
        exact c
    · rintro v ⟨t', rfl⟩
      have := hc a ha
      have h1 : lowN a ≤ 1000100 := by unfold lowN; split <;> omega
      exact (Ev.chr (by omega) (by omega)).imp fun v h => by simpa using h
  intro D h' tk' nn ys hk hD hobj hp
  have F' := F.keeps hk
  have N' := addNew F N hk hD hobj
  k_steps
  refine join_list (News.isList N' (.head _)) (paired_strs hp) ?_ ?_
  · rw [sum_ones, show (Str.ofString "").length = 0 from by decide +kernel]; omega
  intro t' k'
  have e : Txt.join (Str.ofString "") (l.map fun c => st [lowN c]) = st (l.map lowN) := join_map lowN l
  rw [e]
  exact Done.ret F' ⟨_, rfl⟩
end

section
variable {w : World} {vw : Program} {lo : List Str} {mean : ExcName → Option Value} {mg mb : Str → Option Value} {s : Shared}

theorem tup67 {h : Heap} (X : (hd.heap_39 w.params).In h) : ∃ a b c, IsTup h 67 #[.str (Str.ofString "us-ascii") a, .str (Str.ofString "iso-8859-1") b, .str (Str.ofString "utf-8") c] := by
  refine ⟨_, _, _, _, X 67 _ (by k_is), rfl, _, rfl⟩

theorem c_need_charset {x : Str} {t : Tok} (hx : x = Str.ofString "utf-8" ∨ x = Str.ofString "iso-8859-1") (b : Bs w vw lo mean mg mb s.heap) : Cl w 1 s (call (.ref 88) [.str x t]) (fun r _ => r = .none) := by
  refine' enter (binds := [(Str.ofString "charset", .str x t)]) b ?k6 ?k7 ?k9 ?kB ?c5 ?c2 ?c3 ?c4 ?_
  ((case k6 => k_is); (case k7 => k_is); (case k9 => exact rfl); (case kB => exact locs rfl); (case c5 => decide); (case c2 => exact rfl); (case c3 => exact rfl); (case c4 => exact rfl))
  intro dp un fr gd h₁ tk hd hu F X T N
  obtain ⟨ta, tb, tc, t67⟩ := tup67 X
  ((try dsimp only); (try k_fold); repeat' (first | (k_unfold; (try dsimp only)) | ((first | with_reducible ((with_reducible show wpAny _ _ (call (Value.ref 95) _) _ _ _); refine' useT3 (fun b => c_follower_span2 b) ?kF ?kN ?kX ?kT ?kh ?kd ?ku ?_; walk_at "ARGS"; intro D n'z t1 t2 t3 h'z tk'z F'z N'z o1; (try (simp only [LCg.Off1, and_true] at o1))) | with_reducible ((with_reducible show wpAny _ _ (call (Value.ref 95) _) _ _ _); refine' useT3 (fun b => c_follower_span1 b) ?kF ?kN ?kX ?kT ?kh ?kd ?ku ?_; walk_at "ARGS"; intro D n'z t1 t2 t3 h'z tk'z F'z N'z o1; (try (simp only [LCg.Off1, and_true] at o1))) | with_reducible ((with_reducible show wpAny _ _ (call (Value.ref 88) _) _ _ _); refine' useV0 (fun b => c_need_charset (by first | exact .inl rfl | exact .inr rfl) b) ?kF ?kN ?kX ?kT ?kh ?kd ?ku ?_; walk_at "ARGS"; intro h'z tk'z F'z N'z) | with_reducible ((with_reducible show wpAny _ _ (call (Value.ref 61) _) _ _ _); refine' useV (fun b => c_lower_code b) ?kF ?kN ?kX ?kT ?kh ?kd ?ku ?_; walk_at "ARGS"; intro t'z h'z tk'z F'z N'z) | with_reducible ((with_reducible show wpAny _ _ (eval (PySem.Expr.Name _ _) _) _ _ _); (k_dflt (first | (refine' nameX_L ?Fh9 ?vh9 ?_ ?ah9 ?bh9; (case Fh9 => k_asm); (case ah9 => rfl); (case bh9 => rfl); (case vh9 => rfl); k_whole) | (refine' nameX_K ?Fh9 ?Xh9 ?Th9 ?eh9 ?_ ?ah9 ?bh9; (case Fh9 => k_asm); (case Xh9 => k_asm); (case Th9 => k_asm); (case ah9 => rfl); (case bh9 => rfl); (case eh9 => k_is); k_whole) | (refine' nameX_B ?Fh9 ?Xh9 ?Th9 ?eh9 ?vh9 ?nh9 ?_ ?ah9 ?bh9; (case Fh9 => k_asm); (case Xh9 => k_asm); (case Th9 => k_asm); (case ah9 => rfl); (case bh9 => rfl); (case eh9 => k_is); (case vh9 => boot_fast); (case nh9 => decide); k_whole)))) | with_reducible ((with_reducible show wpAny _ _ (spliced _) _ _ _); (k_dflt (first | refine args_cons ?_ | (refine args_nil ?_; (try simp only [List.cons_append, List.nil_append]))))) | with_reducible ((with_reducible show wpAny _ _ (subscriptTail _ _ (Value.bytes (List.toArray _) _) (Value.int _ _)) _ _ _); (refine item_at (by omega) (by omega) (by omega) (by assumption) ?_)) | with_reducible (k_closed; first | with_reducible refine PySem.W.ite_pos (by with_unfolding_all decide) ?_ | with_reducible refine PySem.W.ite_neg (by with_unfolding_all decide) ?_) | walk1); (try dsimp only); (try ((with_reducible show wpAny _ _ _ _ _ ⟨_, _, _, _ + _, _⟩); refine anyToks ?_; intro _)); (repeat ((first | with_reducible rename (_ < _ ∧ _) => hhzz | with_reducible rename (_ ≠ _ ∧ _) => hhzz | with_reducible rename ((_ ≠ _ ∧ _) ∧ _) => hhzz); have := hhzz.1; have := hhzz.2; clear hhzz))) | (dsimp only; walk1) | (leave1; (try dsimp only)) | fail "no step"))
  · exact Done.next F rfl
  · exfalso
    rename _ = false => e
    rcases hx with rfl | rfl <;> exact absurd e (by decide +kernel)

theorem c_follower_span1 {t : Tok} (b : Bs w vw lo mean mg mb s.heap) : Cl w 1 s (call (.ref 95) [.int 195 t]) (isTup3 (.int 128) (.int 191) (.int 1) s.heap) := by
  refine' enter (binds := [(Str.ofString "lead", .int 195 t)]) b ?k6 ?k7 ?k9 ?kB ?c5 ?c2 ?c3 ?c4 ?_
  ((case k6 => k_is); (case k7 => k_is); (case k9 => exact rfl); (case kB => exact locs rfl); (case c5 => decide); (case c2 => exact rfl); (case c3 => exact rfl); (case c4 => exact rfl))
  intro dp un fr gd h₁ tk hd hu F X T N
  ((try dsimp only); (try k_fold); repeat' (first | (k_unfold; (try dsimp only)) | ((first | with_reducible ((with_reducible show wpAny _ _ (call (Value.ref 95) _) _ _ _); refine' useT3 (fun b => c_follower_span2 b) ?kF ?kN ?kX ?kT ?kh ?kd ?ku ?_; walk_at "ARGS"; intro D n'z t1 t2 t3 h'z tk'z F'z N'z o1; (try (simp only [LCg.Off1, and_true] at o1))) | with_reducible ((with_reducible show wpAny _ _ (call (Value.ref 95) _) _ _ _); refine' useT3 (fun b => c_follower_span1 b) ?kF ?kN ?kX ?kT ?kh ?kd ?ku ?_; walk_at "ARGS"; intro D n'z t1 t2 t3 h'z tk'z F'z N'z o1; (try (simp only [LCg.Off1, and_true] at o1))) | with_reducible ((with_reducible show wpAny _ _ (call (Value.ref 88) _) _ _ _); refine' useV0 (fun b => c_need_charset (by first | exact .inl rfl | exact .inr rfl) b) ?kF ?kN ?kX ?kT ?kh ?kd ?ku ?_; walk_at "ARGS"; intro h'z tk'z F'z N'z) | with_reducible ((with_reducible show wpAny _ _ (call (Value.ref 61) _) _ _ _); refine' useV (fun b => c_lower_code b) ?kF ?kN ?kX ?kT ?kh ?kd ?ku ?_; walk_at "ARGS"; intro t'z h'z tk'z F'z N'z) | with_reducible ((with_reducible show wpAny _ _ (eval (PySem.Expr.Name _ _) _) _ _ _); (k_dflt (first | (refine' nameX_L ?Fh9 ?vh9 ?_ ?ah9 ?bh9; (case Fh9 => k_asm); (case ah9 => rfl); (case bh9 => rfl); (case vh9 => rfl); k_whole) | (refine' nameX_K ?Fh9 ?Xh9 ?Th9 ?eh9 ?_ ?ah9 ?bh9; (case Fh9 => k_asm); (case Xh9 => k_asm); (case Th9 => k_asm); (case ah9 => rfl); (case bh9 => rfl); (case eh9 => k_is); k_whole) | (refine' nameX_B ?Fh9 ?Xh9 ?Th9 ?eh9 ?vh9 ?nh9 ?_ ?ah9 ?bh9; (case Fh9 => k_asm); (case Xh9 => k_asm); (case Th9 => k_asm); (case ah9 => rfl); (case bh9 => rfl); (case eh9 => k_is); (case vh9 => boot_fast); (case nh9 => decide); k_whole)))) | with_reducible ((with_reducible show wpAny _ _ (spliced _) _ _ _); (k_dflt (first | refine args_cons ?_ | (refine args_nil ?_; (try simp only [List.cons_append, List.nil_append]))))) | with_reducible ((with_reducible show wpAny _ _ (subscriptTail _ _ (Value.bytes (List.toArray _) _) (Value.int _ _)) _ _ _); (refine item_at (by omega) (by omega) (by omega) (by assumption) ?_)) | with_reducible (k_closed; first | with_reducible refine PySem.W.ite_pos (by with_unfolding_all decide) ?_ | with_reducible refine PySem.W.ite_neg (by with_unfolding_all decide) ?_) | walk1); (try dsimp only); (try ((with_reducible show wpAny _ _ _ _ _ ⟨_, _, _, _ + _, _⟩); refine anyToks ?_; intro _)); (repeat ((first | with_reducible rename (_ < _ ∧ _) => hhzz | with_reducible rename (_ ≠ _ ∧ _) => hhzz | with_reducible rename ((_ ≠ _ ∧ _) ∧ _) => hhzz); have := hhzz.1; have := hhzz.2; clear hhzz))) | (dsimp only; walk1) | (leave1; (try dsimp only)) | fail "no step"))
  exact Done.tup3 (by k_asm) (by k_asm)
theorem c_follower_span2 {t : Tok} (b : Bs w vw lo mean mg mb s.heap) : Cl w 1 s (call (.ref 95) [.int 226 t]) (isTup3 (.int 128) (.int 191) (.int 2) s.heap) := by
  refine' enter (binds := [(Str.ofString "lead", .int 226 t)]) b ?k6 ?k7 ?k9 ?kB ?c5 ?c2 ?c3 ?c4 ?_
  ((case k6 => k_is); (case k7 => k_is); (case k9 => exact rfl); (case kB => exact locs rfl); (case c5 => decide); (case c2 => exact rfl); (case c3 => exact rfl); (case c4 => exact rfl))
  intro dp un fr gd h₁ tk hd hu F X T N
  ((try dsimp only); (try k_fold); repeat' (first | (k_unfold; (try dsimp only)) | ((first | with_reducible ((with_reducible show wpAny _ _ (call (Value.ref 95) _) _ _ _); refine' useT3 (fun b => c_follower_span2 b) ?kF ?kN ?kX ?kT ?kh ?kd ?ku ?_; walk_at "ARGS"; intro D n'z t1 t2 t3 h'z tk'z F'z N'z o1; (try (simp only [LCg.Off1, and_true] at o1))) | with_reducible ((with_reducible show wpAny _ _ (call (Value.ref 95) _) _ _ _); refine' useT3 (fun b => c_follower_span1 b) ?kF ?kN ?kX ?kT ?kh ?kd ?ku ?_; walk_at "ARGS"; intro D n'z t1 t2 t3 h'z tk'z F'z N'z o1; (try (simp only [LCg.Off1, and_true] at o1))) | with_reducible ((with_reducible show wpAny _ _ (call (Value.ref 88) _) _ _ _); refine' useV0 (fun b => c_need_charset (by first | exact .inl rfl | exact .inr rfl) b) ?kF ?kN ?kX ?kT ?kh ?kd ?ku ?_; walk_at "ARGS"; intro h'z tk'z F'z N'z) | with_reducible ((with_reducible show wpAny _ _ (call (Value.ref 61) _) _ _ _); refine' useV (fun b => c_lower_code b) ?kF ?kN ?kX ?kT ?kh ?kd ?ku ?_; walk_at "ARGS"; intro t'z h'z tk'z F'z N'z) | with_reducible ((with_reducible show wpAny _ _ (eval (PySem.Expr.Name _ _) _) _ _ _); (k_dflt (first | (refine' nameX_L ?Fh9 ?vh9 ?_ ?ah9 ?bh9; (case Fh9 => k_asm); (case ah9 => rfl); (case bh9 => rfl); (case vh9 => rfl); k_whole) | (refine' nameX_K ?Fh9 ?Xh9 ?Th9 ?eh9 ?_ ?ah9 ?bh9; (case Fh9 => k_asm); (case Xh9 => k_asm); (case Th9 => k_asm); (case ah9 => rfl); (case bh9 => rfl); (case eh9 => k_is); k_whole) | (refine' nameX_B ?Fh9 ?Xh9 ?Th9 ?eh9 ?vh9 ?nh9 ?_ ?ah9 ?bh9; (case Fh9 => k_asm); (case Xh9 => k_asm); (case Th9 => k_asm); (case ah9 => rfl); (case bh9 => rfl); (case eh9 => k_is); (case vh9 => boot_fast); (case nh9 => decide); k_whole)))) | with_reducible ((with_reducible show wpAny _ _ (spliced _) _ _ _); (k_dflt (first | refine args_cons ?_ | (refine args_nil ?_; (try simp only [List.cons_append, List.nil_append]))))) | with_reducible ((with_reducible show wpAny _ _ (subscriptTail _ _ (Value.bytes (List.toArray _) _) (Value.int _ _)) _ _ _); (refine item_at (by omega) (by omega) (by omega) (by assumption) ?_)) | with_reducible (k_closed; first | with_reducible refine PySem.W.ite_pos (by with_unfolding_all decide) ?_ | with_reducible refine PySem.W.ite_neg (by with_unfolding_all decide) ?_) | walk1); (try dsimp only); (try ((with_reducible show wpAny _ _ _ _ _ ⟨_, _, _, _ + _, _⟩); refine anyToks ?_; intro _)); (repeat ((first | with_reducible rename (_ < _ ∧ _) => hhzz | with_reducible rename (_ ≠ _ ∧ _) => hhzz | with_reducible rename ((_ ≠ _ ∧ _) ∧ _) => hhzz); have := hhzz.1; have := hhzz.2; clear hhzz))) | (dsimp only; walk1) | (leave1; (try dsimp only)) | fail "no step"))
  exact Done.tup3 (by k_asm) (by k_asm)
theorem c_utf8_1 {x : List UInt8} {i c : Int} {t t2 : Tok} (hx : x.length ≤ 1000000) (h0 : 0 ≤ i) (h1 : i < x.length) (e : ((x.getD i.toNat 0).toNat : Int) = c) (hc : c < 128) (b : Bs w vw lo mean mg mb s.heap) :
    Cl w 1 s (call (.ref 102) [.bytes x.toArray t, .int i t2]) (isTup2 (.int c) (.int 1) s.heap) := by
  refine' enter (binds := [(Str.ofString "octets", .bytes x.toArray t), (Str.ofString "at", .int i t2)]) b ?k6 ?k7 ?k9 ?kB ?c5 ?c2 ?c3 ?c4 ?_
  ((case k6 => k_is); (case k7 => k_is); (case k9 => exact rfl); (case kB => exact locs rfl); (case c5 => decide); (case c2 => exact rfl); (case c3 => exact rfl); (case c4 => exact rfl))
  intro dp un fr gd h₁ tk hd hu F X T N
  ((try dsimp only); (try k_fold); repeat' (first | (k_unfold; (try dsimp only)) | ((first | with_reducible ((with_reducible show wpAny _ _ (call (Value.ref 95) _) _ _ _); refine' useT3 (fun b => c_follower_span2 b) ?kF ?kN ?kX ?kT ?kh ?kd ?ku ?_; walk_at "ARGS"; intro D n'z t1 t2 t3 h'z tk'z F'z N'z o1; (try (simp only [LCg.Off1, and_true] at o1))) | with_reducible ((with_reducible show wpAny _ _ (call (Value.ref 95) _) _ _ _); refine' useT3 (fun b => c_follower_span1 b) ?kF ?kN ?kX ?kT ?kh ?kd ?ku ?_; walk_at "ARGS"; intro D n'z t1 t2 t3 h'z tk'z F'z N'z o1; (try (simp only [LCg.Off1, and_true] at o1))) | with_reducible ((with_reducible show wpAny _ _ (call (Value.ref 88) _) _ _ _); refine' useV0 (fun b => c_need_charset (by first | exact .inl rfl | exact .inr rfl) b) ?kF ?kN ?kX ?kT ?kh ?kd ?ku ?_; walk_at "ARGS"; intro h'z tk'z F'z N'z) | with_reducible ((with_reducible show wpAny _ _ (call (Value.ref 61) _) _ _ _); refine' useV (fun b => c_lower_code b) ?kF ?kN ?kX ?kT ?kh ?kd ?ku ?_; walk_at "ARGS"; intro t'z h'z tk'z F'z N'z) | with_reducible ((with_reducible show wpAny _ _ (eval (PySem.Expr.Name _ _) _) _ _ _); (k_dflt (first | (refine' nameX_L ?Fh9 ?vh9 ?_ ?ah9 ?bh9; (case Fh9 => k_asm); (case ah9 => rfl); (case bh9 => rfl); (case vh9 => rfl); k_whole) | (refine' nameX_K ?Fh9 ?Xh9 ?Th9 ?eh9 ?_ ?ah9 ?bh9; (case Fh9 => k_asm); (case Xh9 => k_asm); (case Th9 => k_asm); (case ah9 => rfl); (case bh9 => rfl); (case eh9 => k_is); k_whole) | (refine' nameX_B ?Fh9 ?Xh9 ?Th9 ?eh9 ?vh9 ?nh9 ?_ ?ah9 ?bh9; (case Fh9 => k_asm); (case Xh9 => k_asm); (case Th9 => k_asm); (case ah9 => rfl); (case bh9 => rfl); (case eh9 => k_is); (case vh9 => boot_fast); (case nh9 => decide); k_whole)))) | with_reducible ((with_reducible show wpAny _ _ (spliced _) _ _ _); (k_dflt (first | refine args_cons ?_ | (refine args_nil ?_; (try simp only [List.cons_append, List.nil_append]))))) | with_reducible ((with_reducible show wpAny _ _ (subscriptTail _ _ (Value.bytes (List.toArray _) _) (Value.int _ _)) _ _ _); (refine item_at (by omega) (by omega) (by omega) (by assumption) ?_)) | with_reducible (k_closed; first | with_reducible refine PySem.W.ite_pos (by with_unfolding_all decide) ?_ | with_reducible refine PySem.W.ite_neg (by with_unfolding_all decide) ?_) | walk1); (try dsimp only); (try ((with_reducible show wpAny _ _ _ _ _ ⟨_, _, _, _ + _, _⟩); refine anyToks ?_; intro _)); (repeat ((first | with_reducible rename (_ < _ ∧ _) => hhzz | with_reducible rename (_ ≠ _ ∧ _) => hhzz | with_reducible rename ((_ ≠ _ ∧ _) ∧ _) => hhzz); have := hhzz.1; have := hhzz.2; clear hhzz))) | (dsimp only; walk1) | (leave1; (try dsimp only)) | fail "no step"))
  exact Done.tup2 (by k_asm) (by k_asm)
theorem c_utf8_2 {x : List UInt8} {i k : Int} {t t2 : Tok} (hx : x.length ≤ 1000000) (h0 : 0 ≤ i) (h1 : i + 1 < x.length) (e : ((x.getD i.toNat 0).toNat : Int) = 195) (e2 : ((x.getD (i + 1).toNat 0).toNat : Int) = k) (hk : 128 ≤ k) (hk' : k ≤ 191) (b : Bs w vw lo mean mg mb s.heap) :
    Cl w 2 s (call (.ref 102) [.bytes x.toArray t, .int i t2]) (isTup2 (.int (192 + k % 64)) (.int 2) s.heap) := by
  refine' enter (binds := [(Str.ofString "octets", .bytes x.toArray t), (Str.ofString "at", .int i t2)]) b ?k6 ?k7 ?k9 ?kB ?c5 ?c2 ?c3 ?c4 ?_
  ((case k6 => k_is); (case k7 => k_is); (case k9 => exact rfl); (case kB => exact locs rfl); (case c5 => decide); (case c2 => exact rfl); (case c3 => exact rfl); (case c4 => exact rfl))
  intro dp un fr gd h₁ tk hd hu F X T N
  have e2' : ((x.getD (i + (1 + ((0 : Nat) : Int))).toNat 0).toNat : Int) = k := by simpa using e2
  ((try dsimp only); (try k_fold); repeat' (first | (k_unfold; (try dsimp only)) | ((first | with_reducible ((with_reducible show wpAny _ _ (call (Value.ref 95) _) _ _ _); refine' useT3 (fun b => c_follower_span2 b) ?kF ?kN ?kX ?kT ?kh ?kd ?ku ?_; walk_at "ARGS"; intro D n'z t1 t2 t3 h'z tk'z F'z N'z o1; (try (simp only [LCg.Off1, and_true] at o1))) | with_reducible ((with_reducible show wpAny _ _ (call (Value.ref 95) _) _ _ _); refine' useT3 (fun b => c_follower_span1 b) ?kF ?kN ?kX ?kT ?kh ?kd ?ku ?_; walk_at "ARGS"; intro D n'z t1 t2 t3 h'z tk'z F'z N'z o1; (try (simp only [LCg.Off1, and_true] at o1))) | with_reducible ((with_reducible show wpAny _ _ (call (Value.ref 88) _) _ _ _); refine' useV0 (fun b => c_need_charset (by first | exact .inl rfl | exact .inr rfl) b) ?kF ?kN ?kX ?kT ?kh ?kd ?ku ?_; walk_at "ARGS"; intro h'z tk'z F'z N'z) | with_reducible ((with_reducible show wpAny _ _ (call (Value.ref 61) _) _ _ _); refine' useV (fun b => c_lower_code b) ?kF ?kN ?kX ?kT ?kh ?kd ?ku ?_; walk_at "ARGS"; intro t'z h'z tk'z F'z N'z) | with_reducible ((with_reducible show wpAny _ _ (eval (PySem.Expr.Name _ _) _) _ _ _); (k_dflt (first | (refine' nameX_L ?Fh9 ?vh9 ?_ ?ah9 ?bh9; (case Fh9 => k_asm); (case ah9 => rfl); (case bh9 => rfl); (case vh9 => rfl); k_whole) | (refine' nameX_K ?Fh9 ?Xh9 ?Th9 ?eh9 ?_ ?ah9 ?bh9; (case Fh9 => k_asm); (case Xh9 => k_asm); (case Th9 => k_asm); (case ah9 => rfl); (case bh9 => rfl); (case eh9 => k_is); k_whole) | (refine' nameX_B ?Fh9 ?Xh9 ?Th9 ?eh9 ?vh9 ?nh9 ?_ ?ah9 ?bh9; (case Fh9 => k_asm); (case Xh9 => k_asm); (case Th9 => k_asm); (case ah9 => rfl); (case bh9 => rfl); (case eh9 => k_is); (case vh9 => boot_fast); (case nh9 => decide); k_whole)))) | with_reducible ((with_reducible show wpAny _ _ (spliced _) _ _ _); (k_dflt (first | refine args_cons ?_ | (refine args_nil ?_; (try simp only [List.cons_append, List.nil_append]))))) | with_reducible ((with_reducible show wpAny _ _ (subscriptTail _ _ (Value.bytes (List.toArray _) _) (Value.int _ _)) _ _ _); (refine item_at (by omega) (by omega) (by omega) (by assumption) ?_)) | with_reducible (k_closed; first | with_reducible refine PySem.W.ite_pos (by with_unfolding_all decide) ?_ | with_reducible refine PySem.W.ite_neg (by with_unfolding_all decide) ?_) | walk1); (try dsimp only); (try ((with_reducible show wpAny _ _ _ _ _ ⟨_, _, _, _ + _, _⟩); refine anyToks ?_; intro _)); (repeat ((first | with_reducible rename (_ < _ ∧ _) => hhzz | with_reducible rename (_ ≠ _ ∧ _) => hhzz | with_reducible rename ((_ ≠ _ ∧ _) ∧ _) => hhzz); have := hhzz.1; have := hhzz.2; clear hhzz))) | (dsimp only; walk1) | (leave1; (try dsimp only)) | fail "no step"))
  refine Done.tupII (by k_asm) (by k_asm) ?_ rfl
  rw [show Int.fmod 195 (Int.fdiv 64 (2 ^ Int.toNat 1)) = 3 from by decide +kernel, Int.fmod_eq_emod_of_nonneg _ (by decide)]
  omega


theorem c_utf8_3 {x : List UInt8} {i : Int} {t t2 : Tok} (hx : x.length ≤ 1000000) (h0 : 0 ≤ i) (h1 : i + 2 < x.length) (e : ((x.getD i.toNat 0).toNat : Int) = 226) (e2 : ((x.getD (i + 1).toNat 0).toNat : Int) = 130) (e3 : ((x.getD (i + 2).toNat 0).toNat : Int) = 172) (b : Bs w vw lo mean mg mb s.heap) :
    Cl w 2 s (call (.ref 102) [.bytes x.toArray t, .int i t2]) (isTup2 (.int 8364) (.int 3) s.heap) := by
  refine' enter (binds := [(Str.ofString "octets", .bytes x.toArray t), (Str.ofString "at", .int i t2)]) b ?k6 ?k7 ?k9 ?kB ?c5 ?c2 ?c3 ?c4 ?_
  ((case k6 => k_is); (case k7 => k_is); (case k9 => exact rfl); (case kB => exact locs rfl); (case c5 => decide); (case c2 => exact rfl); (case c3 => exact rfl); (case c4 => exact rfl))
  intro dp un fr gd h₁ tk hd hu F X T N
  have e2' : ((x.getD (i + (1 + ((0 : Nat) : Int))).toNat 0).toNat : Int) = 130 := by simpa using e2
  have e3' : ((x.getD (i + (1 + ((0 + 1 : Nat) : Int))).toNat 0).toNat : Int) = 172 := by simpa using e3
  ((try dsimp only); (try k_fold); repeat' (first | (k_unfold; (try dsimp only)) | ((first | with_reducible ((with_reducible show wpAny _ _ (call (Value.ref 95) _) _ _ _); refine' useT3 (fun b => c_follower_span2 b) ?kF ?kN ?kX ?kT ?kh ?kd ?ku ?_; walk_at "ARGS"; intro D n'z t1 t2 t3 h'z tk'z F'z N'z o1; (try (simp only [LCg.Off1, and_true] at o1))) | with_reducible ((with_reducible show wpAny _ _ (call (Value.ref 95) _) _ _ _); refine' useT3 (fun b => c_follower_span1 b) ?kF ?kN ?kX ?kT ?kh ?kd ?ku ?_; walk_at "ARGS"; intro D n'z t1 t2 t3 h'z tk'z F'z N'z o1; (try (simp only [LCg.Off1, and_true] at o1))) | with_reducible ((with_reducible show wpAny _ _ (call (Value.ref 88) _) _ _ _); refine' useV0 (fun b => c_need_charset (by first | exact .inl rfl | exact .inr rfl) b) ?kF ?kN ?kX ?kT ?kh ?kd ?ku ?_; walk_at "ARGS"; intro h'z tk'z F'z N'z) | with_reducible ((with_reducible show wpAny _ _ (call (Value.ref 61) _) _ _ _); refine' useV (fun b => c_lower_code b) ?kF ?kN ?kX ?kT ?kh ?kd ?ku ?_; walk_at "ARGS"; intro t'z h'z tk'z F'z N'z) | with_reducible ((with_reducible show wpAny _ _ (eval (PySem.Expr.Name _ _) _) _ _ _); (k_dflt (first | (refine' nameX_L ?Fh9 ?vh9 ?_ ?ah9 ?bh9; (case Fh9 => k_asm); (case ah9 => rfl); (case bh9 => rfl); (case vh9 => rfl); k_whole) | (refine' nameX_K ?Fh9 ?Xh9 ?Th9 ?eh9 ?_ ?ah9 ?bh9; (case Fh9 => k_asm); (case Xh9 => k_asm); (case Th9 => k_asm); (case ah9 => rfl); (case bh9 => rfl); (case eh9 => k_is); k_whole) | (refine' nameX_B ?Fh9 ?Xh9 ?Th9 ?eh9 ?vh9 ?nh9 ?_ ?ah9 ?bh9; (case Fh9 => k_asm); (case Xh9 => k_asm); (case Th9 => k_asm); (case ah9 => rfl); (case bh9 => rfl); (case eh9 => k_is); (case vh9 => boot_fast); (case nh9 => decide); k_whole)))) | with_reducible ((with_reducible show wpAny _ _ (spliced _) _ _ _); (k_dflt (first | refine args_cons ?_ | (refine args_nil ?_; (try simp only [List.cons_append, List.nil_append]))))) | with_reducible ((with_reducible show wpAny _ _ (subscriptTail _ _ (Value.bytes (List.toArray _) _) (Value.int _ _)) _ _ _); (refine item_at (by omega) (by omega) (by omega) (by assumption) ?_)) | with_reducible (k_closed; first | with_reducible refine PySem.W.ite_pos (by with_unfolding_all decide) ?_ | with_reducible refine PySem.W.ite_neg (by with_unfolding_all decide) ?_) | walk1); (try dsimp only); (try ((with_reducible show wpAny _ _ _ _ _ ⟨_, _, _, _ + _, _⟩); refine anyToks ?_; intro _)); (repeat ((first | with_reducible rename (_ < _ ∧ _) => hhzz | with_reducible rename (_ ≠ _ ∧ _) => hhzz | with_reducible rename ((_ ≠ _ ∧ _) ∧ _) => hhzz); have := hhzz.1; have := hhzz.2; clear hhzz))) | (dsimp only; walk1) | (leave1; (try dsimp only)) | fail "no step"))
  exact Done.tupII (by k_asm) (by k_asm) (by decide +kernel) rfl

end

section
variable {w : World} {vw : Program} {lo : List Str} {mean : ExcName → Option Value} {mg mb : Str → Option Value} {s : Shared}

/-- the octets at a place spell the sign c in l octets -/
noncomputable def Sg (x : List UInt8) (i c l : Int) : Prop :=
  (l = 1 ∧ 0 ≤ c ∧ c < 128 ∧ i < x.length ∧ ((x.getD i.toNat 0).toNat : Int) = c) ∨
  (∃ k : Int, l = 2 ∧ c = 192 + k % 64 ∧ 128 ≤ k ∧ k ≤ 191 ∧ i + 1 < x.length ∧ ((x.getD i.toNat 0).toNat : Int) = 195 ∧ ((x.getD (i + 1).toNat 0).toNat : Int) = k) ∨
  (l = 3 ∧ c = 8364 ∧ i + 2 < x.length ∧ ((x.getD i.toNat 0).toNat : Int) = 226 ∧ ((x.getD (i + 1).toNat 0).toNat : Int) = 130 ∧ ((x.getD (i + 2).toNat 0).toNat : Int) = 172)
theorem Sg.pos {x : List UInt8} {i c l : Int} (h : Sg x i c l) : 1 ≤ l ∧ i + l ≤ x.length ∧ 0 ≤ c ∧ c ≤ 100000 := by
  rcases h with ⟨rfl, h1, h2, h3, _⟩ | ⟨k, rfl, rfl, h1, h2, h3, _⟩ | ⟨rfl, rfl, h3, _⟩ <;> omega

theorem c_utf8 {x : List UInt8} {i c l : Int} {t t2 : Tok} (hx : x.length ≤ 1000000) (h0 : 0 ≤ i) (h : Sg x i c l) (b : Bs w vw lo mean mg mb s.heap) :
    Cl w 2 s (call (.ref 102) [.bytes x.toArray t, .int i t2]) (isTup2 (.int c) (.int l) s.heap) := by
  rcases h with ⟨rfl, h1, h2, h3, h4⟩ | ⟨k, rfl, rfl, h1, h2, h3, h4, h5⟩ | ⟨rfl, rfl, h3, h4, h5, h6⟩
  · intro A Q E hh hd hu hQ
    exact c_utf8_1 hx h0 h3 h4 h2 b A Q E hh (by omega) (by omega) hQ
  · exact c_utf8_2 hx h0 h3 h4 h5 h1 h2 b
  · exact c_utf8_3 hx h0 h3 h4 h5 h6 b

theorem c_sign_u {x : List UInt8} {i c l : Int} {t t2 t3 : Tok} (hx : x.length ≤ 1000000) (h0 : 0 ≤ i) (h : Sg x i c l) (b : Bs w vw lo mean mg mb s.heap) :
    Cl w 3 s (call (.ref 109) [.str (Str.ofString "utf-8") t3, .bytes x.toArray t, .int i t2]) (isTup2 (.int c) (.int l) s.heap) := by
  refine' enter (binds := [(Str.ofString "charset", .str (Str.ofString "utf-8") t3), (Str.ofString "octets", .bytes x.toArray t), (Str.ofString "at", .int i t2)]) b ?k6 ?k7 ?k9 ?kB ?c5 ?c2 ?c3 ?c4 ?_
  ((case k6 => k_is); (case k7 => k_is); (case k9 => exact rfl); (case kB => exact locs rfl); (case c5 => decide); (case c2 => exact rfl); (case c3 => exact rfl); (case c4 => exact rfl))
  intro dp un fr gd h₁ tk hd hu F X T N
  ((try dsimp only); (try k_fold); repeat' (first | (k_unfold; (try dsimp only)) | ((first | with_reducible ((with_reducible show wpAny _ _ (call (Value.ref 109) _) _ _ _); refine' useT2 (fun b => c_sign_l (by assumption) (by assumption) (by assumption) (by assumption) b) ?kF ?kN ?kX ?kT ?kh ?kd ?ku ?_; walk_at "ARGS"; intro D n'z t1 t2 h'z tk'z F'z N'z o1; (try (simp only [LCg.Off1, and_true] at o1))) | with_reducible ((with_reducible show wpAny _ _ (call (Value.ref 109) _) _ _ _); refine' useT2 (fun b => c_sign_u (by assumption) (by assumption) (by assumption) b) ?kF ?kN ?kX ?kT ?kh ?kd ?ku ?_; walk_at "ARGS"; intro D n'z t1 t2 h'z tk'z F'z N'z o1; (try (simp only [LCg.Off1, and_true] at o1))) | with_reducible ((with_reducible show wpAny _ _ (call (Value.ref 102) _) _ _ _); refine' useT2 (fun b => c_utf8 (by assumption) (by assumption) (by assumption) b) ?kF ?kN ?kX ?kT ?kh ?kd ?ku ?_; walk_at "ARGS"; intro D n'z t1 t2 h'z tk'z F'z N'z o1; (try (simp only [LCg.Off1, and_true] at o1))) | with_reducible ((with_reducible show wpAny _ _ (call (Value.ref 95) _) _ _ _); refine' useT3 (fun b => c_follower_span2 b) ?kF ?kN ?kX ?kT ?kh ?kd ?ku ?_; walk_at "ARGS"; intro D n'z t1 t2 t3 h'z tk'z F'z N'z o1; (try (simp only [LCg.Off1, and_true] at o1))) | with_reducible ((with_reducible show wpAny _ _ (eval (PySem.Expr.Name _ _) _) _ _ _); (k_dflt (first | (refine' nameX_L ?Fh9 ?vh9 ?_ ?ah9 ?bh9; (case Fh9 => k_asm); (case ah9 => rfl); (case bh9 => rfl); (case vh9 => rfl); k_whole) | (refine' nameX_K ?Fh9 ?Xh9 ?Th9 ?eh9 ?_ ?ah9 ?bh9; (case Fh9 => k_asm); (case Xh9 => k_asm); (case Th9 => k_asm); (case ah9 => rfl); (case bh9 => rfl); (case eh9 => k_is); k_whole) | (refine' nameX_B ?Fh9 ?Xh9 ?Th9 ?eh9 ?vh9 ?nh9 ?_ ?ah9 ?bh9; (case Fh9 => k_asm); (case Xh9 => k_asm); (case Th9 => k_asm); (case ah9 => rfl); (case bh9 => rfl); (case eh9 => k_is); (case vh9 => boot_fast); (case nh9 => decide); k_whole)))) | with_reducible ((with_reducible show wpAny _ _ (spliced _) _ _ _); (k_dflt (first | refine args_cons ?_ | (refine args_nil ?_; (try simp only [List.cons_append, List.nil_append]))))) | with_reducible ((with_reducible show wpAny _ _ (subscriptTail _ _ (Value.bytes (List.toArray _) _) (Value.int _ _)) _ _ _); (refine item_at (by omega) (by omega) (by omega) (by assumption) ?_)) | with_reducible (k_closed; first | with_reducible refine PySem.W.ite_pos (by with_unfolding_all decide) ?_ | with_reducible refine PySem.W.ite_neg (by with_unfolding_all decide) ?_) | walk1); (try dsimp only); (try ((with_reducible show wpAny _ _ _ _ _ ⟨_, _, _, _ + _, _⟩); refine anyToks ?_; intro _)); (repeat ((first | with_reducible rename (_ < _ ∧ _) => hhzz | with_reducible rename (_ ≠ _ ∧ _) => hhzz | with_reducible rename ((_ ≠ _ ∧ _) ∧ _) => hhzz); have := hhzz.1; have := hhzz.2; clear hhzz))) | (dsimp only; walk1) | (leave1; (try dsimp only)) | fail "no step"))
  exact Done.tup2 (by k_asm) (by k_asm)
theorem c_sign_l {x : List UInt8} {i c : Int} {t t2 t3 : Tok} (hx : x.length ≤ 1000000) (h0 : 0 ≤ i) (h1 : i < x.length) (h : ((x.getD i.toNat 0).toNat : Int) = c) (b : Bs w vw lo mean mg mb s.heap) :
    Cl w 3 s (call (.ref 109) [.str (Str.ofString "iso-8859-1") t3, .bytes x.toArray t, .int i t2]) (isTup2 (.int c) (.int 1) s.heap) := by
  refine' enter (binds := [(Str.ofString "charset", .str (Str.ofString "iso-8859-1") t3), (Str.ofString "octets", .bytes x.toArray t), (Str.ofString "at", .int i t2)]) b ?k6 ?k7 ?k9 ?kB ?c5 ?c2 ?c3 ?c4 ?_
  ((case k6 => k_is); (case k7 => k_is); (case k9 => exact rfl); (case kB => exact locs rfl); (case c5 => decide); (case c2 => exact rfl); (case c3 => exact rfl); (case c4 => exact rfl))
  intro dp un fr gd h₁ tk hd hu F X T N
  ((try dsimp only); (try k_fold); repeat' (first | (k_unfold; (try dsimp only)) | ((first | with_reducible ((with_reducible show wpAny _ _ (call (Value.ref 109) _) _ _ _); refine' useT2 (fun b => c_sign_l (by assumption) (by assumption) (by assumption) (by assumption) b) ?kF ?kN ?kX ?kT ?kh ?kd ?ku ?_; walk_at "ARGS"; intro D n'z t1 t2 h'z tk'z F'z N'z o1; (try (simp only [LCg.Off1, and_true] at o1))) | with_reducible ((with_reducible show wpAny _ _ (call (Value.ref 109) _) _ _ _); refine' useT2 (fun b => c_sign_u (by assumption) (by assumption) (by assumption) b) ?kF ?kN ?kX ?kT ?kh ?kd ?ku ?_; walk_at "ARGS"; intro D n'z t1 t2 h'z tk'z F'z N'z o1; (try (simp only [LCg.Off1, and_true] at o1))) | with_reducible ((with_reducible show wpAny _ _ (call (Value.ref 102) _) _ _ _); refine' useT2 (fun b => c_utf8 (by assumption) (by assumption) (by assumption) b) ?kF ?kN ?kX ?kT ?kh ?kd ?ku ?_; walk_at "ARGS"; intro D n'z t1 t2 h'z tk'z F'z N'z o1; (try (simp only [LCg.Off1, and_true] at o1))) | with_reducible ((with_reducible show wpAny _ _ (call (Value.ref 95) _) _ _ _); refine' useT3 (fun b => c_follower_span2 b) ?kF ?kN ?kX ?kT ?kh ?kd ?ku ?_; walk_at "ARGS"; intro D n'z t1 t2 t3 h'z tk'z F'z N'z o1; (try (simp only [LCg.Off1, and_true] at o1))) | with_reducible ((with_reducible show wpAny _ _ (eval (PySem.Expr.Name _ _) _) _ _ _); (k_dflt (first | (refine' nameX_L ?Fh9 ?vh9 ?_ ?ah9 ?bh9; (case Fh9 => k_asm); (case ah9 => rfl); (case bh9 => rfl); (case vh9 => rfl); k_whole) | (refine' nameX_K ?Fh9 ?Xh9 ?Th9 ?eh9 ?_ ?ah9 ?bh9; (case Fh9 => k_asm); (case Xh9 => k_asm); (case Th9 => k_asm); (case ah9 => rfl); (case bh9 => rfl); (case eh9 => k_is); k_whole) | (refine' nameX_B ?Fh9 ?Xh9 ?Th9 ?eh9 ?vh9 ?nh9 ?_ ?ah9 ?bh9; (case Fh9 => k_asm); (case Xh9 => k_asm); (case Th9 => k_asm); (case ah9 => rfl); (case bh9 => rfl); (case eh9 => k_is); (case vh9 => boot_fast); (case nh9 => decide); k_whole)))) | with_reducible ((with_reducible show wpAny _ _ (spliced _) _ _ _); (k_dflt (first | refine args_cons ?_ | (refine args_nil ?_; (try simp only [List.cons_append, List.nil_append]))))) | with_reducible ((with_reducible show wpAny _ _ (subscriptTail _ _ (Value.bytes (List.toArray _) _) (Value.int _ _)) _ _ _); (refine item_at (by omega) (by omega) (by omega) (by assumption) ?_)) | with_reducible (k_closed; first | with_reducible refine PySem.W.ite_pos (by with_unfolding_all decide) ?_ | with_reducible refine PySem.W.ite_neg (by with_unfolding_all decide) ?_) | walk1); (try dsimp only); (try ((with_reducible show wpAny _ _ _ _ _ ⟨_, _, _, _ + _, _⟩); refine anyToks ?_; intro _)); (repeat ((first | with_reducible rename (_ < _ ∧ _) => hhzz | with_reducible rename (_ ≠ _ ∧ _) => hhzz | with_reducible rename ((_ ≠ _ ∧ _) ∧ _) => hhzz); have := hhzz.1; have := hhzz.2; clear hhzz))) | (dsimp only; walk1) | (leave1; (try dsimp only)) | fail "no step"))
  exact Done.tup2 (by k_asm) (by k_asm)
end

section
variable {w : World} {vw : Program} {lo : List Str} {mean : ExcName → Option Value} {mg mb : Str → Option Value} {s : Shared}

/-- the octets from a place on spell the signs -/
noncomputable def Dec (x : List UInt8) : Int → List Nat → Prop
  | i, [] => i = x.length
  | i, c :: l => ∃ n : Int, Sg x i c n ∧ Dec x (i + n) l

structure TextI (s : Shared) (L : Addr) (x : List UInt8) (ch : Str) (Dc : Int → List Nat → Prop) (l : List Nat) (c : Int × List Nat × List Nat) (s' : Shared) : Prop where
  ex : ∃ (h : Heap) (tk : Nat) (m₀ : Str → Option Value) (D : Addr) (vs : Array Value) (n : Nat) (t1 t2 t3 : Tok), s' = { s with heap := h, toks := tk } ∧
    Fr s.heap L h (fun y => if y = Str.ofString "charset" then some (.str ch t1) else if y = Str.ofString "octets" then some (.bytes x.toArray t2) else if y = Str.ofString "signs" then some (.ref D) else if y = Str.ofString "at" then some (.int c.1 t3) else m₀ y) ∧
    News s.heap L h [(D, PySem.W.listOf vs n)] ∧ StrsAre vs.toList (c.2.1.map fun k => st [k])
  i0 : 0 ≤ c.1
  sz : c.2.1.length ≤ c.1
  dec : Dc c.1 c.2.2
  all : l = c.2.1 ++ c.2.2

theorem strsAre_len : ∀ {vs : List Value} {ys : List Str}, StrsAre vs ys → vs.length = ys.length
  | _, _, .nil => rfl
  | _, _, .cons _ _ r => by simp [strsAre_len r]
theorem c_text_u {x : List UInt8} {l : List Nat} {t t3 : Tok} (hx : x.length ≤ 1000000) (hdec : Dec x 0 l) (b : Bs w vw lo mean mg mb s.heap) :
    Cl w 4 s (call (.ref 116) [.str (Str.ofString "utf-8") t3, .bytes x.toArray t]) (fun r _ => ∃ t, r = .str (st l) t) := by
  refine' enter (binds := [(Str.ofString "charset", .str (Str.ofString "utf-8") t3), (Str.ofString "octets", .bytes x.toArray t)]) b ?k6 ?k7 ?k9 ?kB ?c5 ?c2 ?c3 ?c4 ?_
  ((case k6 => k_is); (case k7 => k_is); (case k9 => exact rfl); (case kB => exact locs rfl); (case c5 => decide); (case c2 => exact rfl); (case c3 => exact rfl); (case c4 => exact rfl))
  intro dp un fr gd h₁ tk hd hu F X T N
  have mk2 := Mk.on 2
  ((try dsimp only); (try k_fold); repeat' (first | (k_unfold; (try dsimp only)) | ((first | with_reducible ((with_reducible show wpAny _ _ (call (Value.ref 123) _) _ _ _); refine' useV (fun b => c_strict (by assumption) (by assumption) b) ?kF ?kN ?kX ?kT ?kh ?kd ?ku ?_; walk_at "ARGS"; intro t'z h'z tk'z F'z N'z) | with_reducible ((with_reducible show wpAny _ _ (call (Value.ref 116) _) _ _ _); refine' useV (fun b => c_text_u (by assumption) (by assumption) b) ?kF ?kN ?kX ?kT ?kh ?kd ?ku ?_; walk_at "ARGS"; intro t'z h'z tk'z F'z N'z) | with_reducible ((with_reducible show wpAny _ _ (call (Value.ref 109) _) _ _ _); refine' useT2 (fun b => c_sign_l (by assumption) (by assumption) (by assumption) (by assumption) b) ?kF ?kN ?kX ?kT ?kh ?kd ?ku ?_; walk_at "ARGS"; intro D n'z t1 t2 h'z tk'z F'z N'z o1; (try (simp only [LCg.Off1, and_true] at o1))) | with_reducible ((with_reducible show wpAny _ _ (call (Value.ref 109) _) _ _ _); refine' useT2 (fun b => c_sign_u (by assumption) (by assumption) (by assumption) b) ?kF ?kN ?kX ?kT ?kh ?kd ?ku ?_; walk_at "ARGS"; intro D n'z t1 t2 h'z tk'z F'z N'z o1; (try (simp only [LCg.Off1, and_true] at o1))) | with_reducible ((with_reducible show wpAny _ _ (call (Value.ref 102) _) _ _ _); refine' useT2 (fun b => c_utf8 (by assumption) (by assumption) (by assumption) b) ?kF ?kN ?kX ?kT ?kh ?kd ?ku ?_; walk_at "ARGS"; intro D n'z t1 t2 h'z tk'z F'z N'z o1; (try (simp only [LCg.Off1, and_true] at o1))) | with_reducible ((with_reducible show wpAny _ _ (call (Value.ref 95) _) _ _ _); refine' useT3 (fun b => c_follower_span2 b) ?kF ?kN ?kX ?kT ?kh ?kd ?ku ?_; walk_at "ARGS"; intro D n'z t1 t2 t3 h'z tk'z F'z N'z o1; (try (simp only [LCg.Off1, and_true] at o1))) | with_reducible ((with_reducible show wpAny _ _ (call (Value.ref 95) _) _ _ _); refine' useT3 (fun b => c_follower_span1 b) ?kF ?kN ?kX ?kT ?kh ?kd ?ku ?_; walk_at "ARGS"; intro D n'z t1 t2 t3 h'z tk'z F'z N'z o1; (try (simp only [LCg.Off1, and_true] at o1))) | with_reducible ((with_reducible show wpAny _ _ (call (Value.ref 88) _) _ _ _); refine' useV0 (fun b => c_need_charset (by first | exact .inl rfl | exact .inr rfl) b) ?kF ?kN ?kX ?kT ?kh ?kd ?ku ?_; walk_at "ARGS"; intro h'z tk'z F'z N'z) | with_reducible ((with_reducible show wpAny _ _ (call (Value.ref 61) _) _ _ _); refine' useV (fun b => c_lower_code b) ?kF ?kN ?kX ?kT ?kh ?kd ?ku ?_; walk_at "ARGS"; intro t'z h'z tk'z F'z N'z) | with_reducible ((with_reducible show wpAny _ _ (call (Value.builtin _) [Value.ref _, _]) _ _ _); k_dflt (refine' append_K ?k1h9 ?k2h9 ?k3h9 ?_ ?zh9; (case k1h9 => k_asm); (case k2h9 => k_asm); (case k3h9 => k_upd); (case zh9 => (rw [sizeLine_eq]; omega)); k_whole); intro h'z F'z N'z; (try k_sweep)) | with_reducible ((with_reducible show wpAny _ _ (eval (PySem.Expr.Name _ _) _) _ _ _); (k_dflt (first | (refine' nameX_L ?Fh9 ?vh9 ?_ ?ah9 ?bh9; (case Fh9 => k_asm); (case ah9 => rfl); (case bh9 => rfl); (case vh9 => rfl); k_whole) | (refine' nameX_K ?Fh9 ?Xh9 ?Th9 ?eh9 ?_ ?ah9 ?bh9; (case Fh9 => k_asm); (case Xh9 => k_asm); (case Th9 => k_asm); (case ah9 => rfl); (case bh9 => rfl); (case eh9 => k_is); k_whole) | (refine' nameX_B ?Fh9 ?Xh9 ?Th9 ?eh9 ?vh9 ?nh9 ?_ ?ah9 ?bh9; (case Fh9 => k_asm); (case Xh9 => k_asm); (case Th9 => k_asm); (case ah9 => rfl); (case bh9 => rfl); (case eh9 => k_is); (case vh9 => boot_fast); (case nh9 => decide); k_whole)))) | with_reducible ((with_reducible show wpAny _ _ (spliced _) _ _ _); (k_dflt (first | refine args_cons ?_ | (refine args_nil ?_; (try simp only [List.cons_append, List.nil_append]))))) | with_reducible ((with_reducible show wpAny _ _ (exec (PySem.Stmt.While (PySem.Expr.Compare _ _ _ _) _ _ _) _) _ _ _); ((rename Mk 2 => mk'z); refine Stop.mk ?_)) | walk1); (try dsimp only); (try ((with_reducible show wpAny _ _ _ _ _ ⟨_, _, _, _ + _, _⟩); refine anyToks ?_; intro _)); (repeat ((first | with_reducible rename (_ < _ ∧ _) => hhzz | with_reducible rename (_ ≠ _ ∧ _) => hhzz | with_reducible rename ((_ ≠ _ ∧ _) ∧ _) => hhzz); have := hhzz.1; have := hhzz.2; clear hhzz))) | (dsimp only; walk1) | (leave1; (try dsimp only)) | fail "no step"))
  rename Mk 2 => mk2; clear mk2
  refine Stop.out ?_
  rename Fr _ _ _ _ => F1
  rename News _ _ _ _ => N1
  refine while_J (TextI s s.heap.objs.size x (Str.ofString "utf-8") (Dec x) l) (fun c => c.2.2.length) (0, [], l) ?_ ?_
  · exact ⟨⟨_, _, _, _, _, _, _, _, _, rfl, frSet (frSet (frSet (frSet F1 rfl) rfl) rfl) rfl, N1, .nil⟩, Int.le_refl _, Int.le_refl _, hdec, rfl⟩
  · rintro ⟨i, done, rest⟩ s' ⟨⟨h, tk, m₀, D, vs, n, t1, t2, t3, rfl, F, N, hv⟩, hi, hsz, hd, hall⟩
    dsimp only at F hi hsz hd hall
    clear F1 N1
    have hxs : x.toArray.size = x.length := by simp
    have hvn : vs.size = done.length := by have := strsAre_len hv; simpa using this
    cases rest with
    | nil =>
      have hd' : i = (x.length : Int) := hd
      ((try dsimp only); (try k_fold); repeat' (first | (k_unfold; (try dsimp only)) | ((first | with_reducible ((with_reducible show wpAny _ _ (call (Value.ref 123) _) _ _ _); refine' useV (fun b => c_strict (by assumption) (by assumption) b) ?kF ?kN ?kX ?kT ?kh ?kd ?ku ?_; walk_at "ARGS"; intro t'z h'z tk'z F'z N'z) | with_reducible ((with_reducible show wpAny _ _ (call (Value.ref 116) _) _ _ _); refine' useV (fun b => c_text_u (by assumption) (by assumption) b) ?kF ?kN ?kX ?kT ?kh ?kd ?ku ?_; walk_at "ARGS"; intro t'z h'z tk'z F'z N'z) | with_reducible ((with_reducible show wpAny _ _ (call (Value.ref 109) _) _ _ _); refine' useT2 (fun b => c_sign_l (by assumption) (by assumption) (by assumption) (by assumption) b) ?kF ?kN ?kX ?kT ?kh ?kd ?ku ?_; walk_at "ARGS"; intro D n'z t1 t2 h'z tk'z F'z N'z o1; (try (simp only [LCg.Off1, and_true] at o1))) | with_reducible ((with_reducible show wpAny _ _ (call (Value.ref 109) _) _ _ _); refine' useT2 (fun b => c_sign_u (by assumption) (by assumption) (by assumption) b) ?kF ?kN ?kX ?kT ?kh ?kd ?ku ?_; walk_at "ARGS"; intro D n'z t1 t2 h'z tk'z F'z N'z o1; (try (simp only [LCg.Off1, and_true] at o1))) | with_reducible ((with_reducible show wpAny _ _ (call (Value.ref 102) _) _ _ _); refine' useT2 (fun b => c_utf8 (by assumption) (by assumption) (by assumption) b) ?kF ?kN ?kX ?kT ?kh ?kd ?ku ?_; walk_at "ARGS"; intro D n'z t1 t2 h'z tk'z F'z N'z o1; (try (simp only [LCg.Off1, and_true] at o1))) | with_reducible ((with_reducible show wpAny _ _ (call (Value.ref 95) _) _ _ _); refine' useT3 (fun b => c_follower_span2 b) ?kF ?kN ?kX ?kT ?kh ?kd ?ku ?_; walk_at "ARGS"; intro D n'z t1 t2 t3 h'z tk'z F'z N'z o1; (try (simp only [LCg.Off1, and_true] at o1))) | with_reducible ((with_reducible show wpAny _ _ (call (Value.ref 95) _) _ _ _); refine' useT3 (fun b => c_follower_span1 b) ?kF ?kN ?kX ?kT ?kh ?kd ?ku ?_; walk_at "ARGS"; intro D n'z t1 t2 t3 h'z tk'z F'z N'z o1; (try (simp only [LCg.Off1, and_true] at o1))) | with_reducible ((with_reducible show wpAny _ _ (call (Value.ref 88) _) _ _ _); refine' useV0 (fun b => c_need_charset (by first | exact .inl rfl | exact .inr rfl) b) ?kF ?kN ?kX ?kT ?kh ?kd ?ku ?_; walk_at "ARGS"; intro h'z tk'z F'z N'z) | with_reducible ((with_reducible show wpAny _ _ (call (Value.ref 61) _) _ _ _); refine' useV (fun b => c_lower_code b) ?kF ?kN ?kX ?kT ?kh ?kd ?ku ?_; walk_at "ARGS"; intro t'z h'z tk'z F'z N'z) | with_reducible ((with_reducible show wpAny _ _ (call (Value.builtin _) [Value.ref _, _]) _ _ _); k_dflt (refine' append_K ?k1h9 ?k2h9 ?k3h9 ?_ ?zh9; (case k1h9 => k_asm); (case k2h9 => k_asm); (case k3h9 => k_upd); (case zh9 => (rw [sizeLine_eq]; omega)); k_whole); intro h'z F'z N'z; (try k_sweep)) | with_reducible ((with_reducible show wpAny _ _ (eval (PySem.Expr.Name _ _) _) _ _ _); (k_dflt (first | (refine' nameX_L ?Fh9 ?vh9 ?_ ?ah9 ?bh9; (case Fh9 => k_asm); (case ah9 => rfl); (case bh9 => rfl); (case vh9 => rfl); k_whole) | (refine' nameX_K ?Fh9 ?Xh9 ?Th9 ?eh9 ?_ ?ah9 ?bh9; (case Fh9 => k_asm); (case Xh9 => k_asm); (case Th9 => k_asm); (case ah9 => rfl); (case bh9 => rfl); (case eh9 => k_is); k_whole) | (refine' nameX_B ?Fh9 ?Xh9 ?Th9 ?eh9 ?vh9 ?nh9 ?_ ?ah9 ?bh9; (case Fh9 => k_asm); (case Xh9 => k_asm); (case Th9 => k_asm); (case ah9 => rfl); (case bh9 => rfl); (case eh9 => k_is); (case vh9 => boot_fast); (case nh9 => decide); k_whole)))) | with_reducible ((with_reducible show wpAny _ _ (spliced _) _ _ _); (k_dflt (first | refine args_cons ?_ | (refine args_nil ?_; (try simp only [List.cons_append, List.nil_append]))))) | with_reducible ((with_reducible show wpAny _ _ (exec (PySem.Stmt.While (PySem.Expr.Compare _ _ _ _) _ _ _) _) _ _ _); ((rename Mk 2 => mk'z); refine Stop.mk ?_)) | walk1); (try dsimp only); (try ((with_reducible show wpAny _ _ _ _ _ ⟨_, _, _, _ + _, _⟩); refine anyToks ?_; intro _)); (repeat ((first | with_reducible rename (_ < _ ∧ _) => hhzz | with_reducible rename (_ ≠ _ ∧ _) => hhzz | with_reducible rename ((_ ≠ _ ∧ _) ∧ _) => hhzz); have := hhzz.1; have := hhzz.2; clear hhzz))) | (dsimp only; walk1) | (leave1; (try dsimp only)) | fail "no step"))
      refine join_list (News.isList (by k_asm) (.head _)) hv ?_ ?_
      · show ((done.map fun k => st [k]).map (·.length)).sum + _ ≤ _
        rw [sum_ones (fun c => c) done, show (Str.ofString "").length = 0 from by decide +kernel]; omega
      · intro t' k'
        have e : Txt.join (Str.ofString "") (done.map fun c => st [c]) = st l := by
          have := join_map (fun c => c) done
          rw [List.map_id'] at this
          rw [hall, List.append_nil]; exact this
        show Done s _ (.ret (.str (Txt.join (Str.ofString "") (done.map fun c => st [c])) t')) _
        rw [e]
        exact Done.ret F ⟨_, rfl⟩
    | cons c r =>
      obtain ⟨k, hS, hd'⟩ := hd
      obtain ⟨p1, p2, p3, p4⟩ := hS.pos
      have hvz : vs.size ≤ 1000000 := by omega
      ((try dsimp only); (try k_fold); repeat' (first | (k_unfold; (try dsimp only)) | ((first | with_reducible ((with_reducible show wpAny _ _ (call (Value.ref 123) _) _ _ _); refine' useV (fun b => c_strict (by assumption) (by assumption) b) ?kF ?kN ?kX ?kT ?kh ?kd ?ku ?_; walk_at "ARGS"; intro t'z h'z tk'z F'z N'z) | with_reducible ((with_reducible show wpAny _ _ (call (Value.ref 116) _) _ _ _); refine' useV (fun b => c_text_u (by assumption) (by assumption) b) ?kF ?kN ?kX ?kT ?kh ?kd ?ku ?_; walk_at "ARGS"; intro t'z h'z tk'z F'z N'z) | with_reducible ((with_reducible show wpAny _ _ (call (Value.ref 109) _) _ _ _); refine' useT2 (fun b => c_sign_l (by assumption) (by assumption) (by assumption) (by assumption) b) ?kF ?kN ?kX ?kT ?kh ?kd ?ku ?_; walk_at "ARGS"; intro D n'z t1 t2 h'z tk'z F'z N'z o1; (try (simp only [LCg.Off1, and_true] at o1))) | with_reducible ((with_reducible show wpAny _ _ (call (Value.ref 109) _) _ _ _); refine' useT2 (fun b => c_sign_u (by assumption) (by assumption) (by assumption) b) ?kF ?kN ?kX ?kT ?kh ?kd ?ku ?_; walk_at "ARGS"; intro D n'z t1 t2 h'z tk'z F'z N'z o1; (try (simp only [LCg.Off1, and_true] at o1))) | with_reducible ((with_reducible show wpAny _ _ (call (Value.ref 102) _) _ _ _); refine' useT2 (fun b => c_utf8 (by assumption) (by assumption) (by assumption) b) ?kF ?kN ?kX ?kT ?kh ?kd ?ku ?_; walk_at "ARGS"; intro D n'z t1 t2 h'z tk'z F'z N'z o1; (try (simp only [LCg.Off1, and_true] at o1))) | with_reducible ((with_reducible show wpAny _ _ (call (Value.ref 95) _) _ _ _); refine' useT3 (fun b => c_follower_span2 b) ?kF ?kN ?kX ?kT ?kh ?kd ?ku ?_; walk_at "ARGS"; intro D n'z t1 t2 t3 h'z tk'z F'z N'z o1; (try (simp only [LCg.Off1, and_true] at o1))) | with_reducible ((with_reducible show wpAny _ _ (call (Value.ref 95) _) _ _ _); refine' useT3 (fun b => c_follower_span1 b) ?kF ?kN ?kX ?kT ?kh ?kd ?ku ?_; walk_at "ARGS"; intro D n'z t1 t2 t3 h'z tk'z F'z N'z o1; (try (simp only [LCg.Off1, and_true] at o1))) | with_reducible ((with_reducible show wpAny _ _ (call (Value.ref 88) _) _ _ _); refine' useV0 (fun b => c_need_charset (by first | exact .inl rfl | exact .inr rfl) b) ?kF ?kN ?kX ?kT ?kh ?kd ?ku ?_; walk_at "ARGS"; intro h'z tk'z F'z N'z) | with_reducible ((with_reducible show wpAny _ _ (call (Value.ref 61) _) _ _ _); refine' useV (fun b => c_lower_code b) ?kF ?kN ?kX ?kT ?kh ?kd ?ku ?_; walk_at "ARGS"; intro t'z h'z tk'z F'z N'z) | with_reducible ((with_reducible show wpAny _ _ (call (Value.builtin _) [Value.ref _, _]) _ _ _); k_dflt (refine' append_K ?k1h9 ?k2h9 ?k3h9 ?_ ?zh9; (case k1h9 => k_asm); (case k2h9 => k_asm); (case k3h9 => k_upd); (case zh9 => (rw [sizeLine_eq]; omega)); k_whole); intro h'z F'z N'z; (try k_sweep)) | with_reducible ((with_reducible show wpAny _ _ (eval (PySem.Expr.Name _ _) _) _ _ _); (k_dflt (first | (refine' nameX_L ?Fh9 ?vh9 ?_ ?ah9 ?bh9; (case Fh9 => k_asm); (case ah9 => rfl); (case bh9 => rfl); (case vh9 => rfl); k_whole) | (refine' nameX_K ?Fh9 ?Xh9 ?Th9 ?eh9 ?_ ?ah9 ?bh9; (case Fh9 => k_asm); (case Xh9 => k_asm); (case Th9 => k_asm); (case ah9 => rfl); (case bh9 => rfl); (case eh9 => k_is); k_whole) | (refine' nameX_B ?Fh9 ?Xh9 ?Th9 ?eh9 ?vh9 ?nh9 ?_ ?ah9 ?bh9; (case Fh9 => k_asm); (case Xh9 => k_asm); (case Th9 => k_asm); (case ah9 => rfl); (case bh9 => rfl); (case eh9 => k_is); (case vh9 => boot_fast); (case nh9 => decide); k_whole)))) | with_reducible ((with_reducible show wpAny _ _ (spliced _) _ _ _); (k_dflt (first | refine args_cons ?_ | (refine args_nil ?_; (try simp only [List.cons_append, List.nil_append]))))) | with_reducible ((with_reducible show wpAny _ _ (exec (PySem.Stmt.While (PySem.Expr.Compare _ _ _ _) _ _ _) _) _ _ _); ((rename Mk 2 => mk'z); refine Stop.mk ?_)) | walk1); (try dsimp only); (try ((with_reducible show wpAny _ _ _ _ _ ⟨_, _, _, _ + _, _⟩); refine anyToks ?_; intro _)); (repeat ((first | with_reducible rename (_ < _ ∧ _) => hhzz | with_reducible rename (_ ≠ _ ∧ _) => hhzz | with_reducible rename ((_ ≠ _ ∧ _) ∧ _) => hhzz); have := hhzz.1; have := hhzz.2; clear hhzz))) | (dsimp only; walk1) | (leave1; (try dsimp only)) | fail "no step"))
      rename Fr _ _ _ _ => F2
      rename News _ _ _ _ => N2
      refine ⟨(i + k, done ++ [c], r), by simp, ⟨⟨_, _, _, _, _, _, _, _, _, rfl, frSet (frSet (frSet (frSet F2 rfl) rfl) rfl) rfl, cb_drop N2 (fun p hp => .tail _ hp), ?_⟩, ?_, ?_, hd', ?_⟩⟩
      · rw [Array.toList_push]
        show StrsAre _ ((done ++ [c]).map fun k => st [k])
        rw [List.map_append]
        exact kct_snoc hv
      · show 0 ≤ i + k; omega
      · show (((done ++ [c]).length : Nat) : Int) ≤ i + k
        rw [List.length_append, List.length_singleton]; omega
      · rw [hall]; simp
theorem c_strict {x : List UInt8} {l : List Nat} {t t3 : Tok} (hx : x.length ≤ 1000000) (hdec : Dec x 0 l) (b : Bs w vw lo mean mg mb s.heap) :
    Cl w 4 s (call (.ref 123) [.str (Str.ofString "utf-8") t3, .bytes x.toArray t]) (fun r _ => ∃ t, r = .str (st l) t) := by
  refine' enter (binds := [(Str.ofString "charset", .str (Str.ofString "utf-8") t3), (Str.ofString "octets", .bytes x.toArray t)]) b ?k6 ?k7 ?k9 ?kB ?c5 ?c2 ?c3 ?c4 ?_
  ((case k6 => k_is); (case k7 => k_is); (case k9 => exact rfl); (case kB => exact locs rfl); (case c5 => decide); (case c2 => exact rfl); (case c3 => exact rfl); (case c4 => exact rfl))
  intro dp un fr gd h₁ tk hd hu F X T N
  have mk2 := Mk.on 2
  ((try dsimp only); (try k_fold); repeat' (first | (k_unfold; (try dsimp only)) | ((first | with_reducible ((with_reducible show wpAny _ _ (call (Value.ref 123) _) _ _ _); refine' useV (fun b => c_strict (by assumption) (by assumption) b) ?kF ?kN ?kX ?kT ?kh ?kd ?ku ?_; walk_at "ARGS"; intro t'z h'z tk'z F'z N'z) | with_reducible ((with_reducible show wpAny _ _ (call (Value.ref 116) _) _ _ _); refine' useV (fun b => c_text_u (by assumption) (by assumption) b) ?kF ?kN ?kX ?kT ?kh ?kd ?ku ?_; walk_at "ARGS"; intro t'z h'z tk'z F'z N'z) | with_reducible ((with_reducible show wpAny _ _ (call (Value.ref 109) _) _ _ _); refine' useT2 (fun b => c_sign_l (by assumption) (by assumption) (by assumption) (by assumption) b) ?kF ?kN ?kX ?kT ?kh ?kd ?ku ?_; walk_at "ARGS"; intro D n'z t1 t2 h'z tk'z F'z N'z o1; (try (simp only [LCg.Off1, and_true] at o1))) | with_reducible ((with_reducible show wpAny _ _ (call (Value.ref 109) _) _ _ _); refine' useT2 (fun b => c_sign_u (by assumption) (by assumption) (by assumption) b) ?kF ?kN ?kX ?kT ?kh ?kd ?ku ?_; walk_at "ARGS"; intro D n'z t1 t2 h'z tk'z F'z N'z o1; (try (simp only [LCg.Off1, and_true] at o1))) | with_reducible ((with_reducible show wpAny _ _ (call (Value.ref 102) _) _ _ _); refine' useT2 (fun b => c_utf8 (by assumption) (by assumption) (by assumption) b) ?kF ?kN ?kX ?kT ?kh ?kd ?ku ?_; walk_at "ARGS"; intro D n'z t1 t2 h'z tk'z F'z N'z o1; (try (simp only [LCg.Off1, and_true] at o1))) | with_reducible ((with_reducible show wpAny _ _ (call (Value.ref 95) _) _ _ _); refine' useT3 (fun b => c_follower_span2 b) ?kF ?kN ?kX ?kT ?kh ?kd ?ku ?_; walk_at "ARGS"; intro D n'z t1 t2 t3 h'z tk'z F'z N'z o1; (try (simp only [LCg.Off1, and_true] at o1))) | with_reducible ((with_reducible show wpAny _ _ (call (Value.ref 95) _) _ _ _); refine' useT3 (fun b => c_follower_span1 b) ?kF ?kN ?kX ?kT ?kh ?kd ?ku ?_; walk_at "ARGS"; intro D n'z t1 t2 t3 h'z tk'z F'z N'z o1; (try (simp only [LCg.Off1, and_true] at o1))) | with_reducible ((with_reducible show wpAny _ _ (call (Value.ref 88) _) _ _ _); refine' useV0 (fun b => c_need_charset (by first | exact .inl rfl | exact .inr rfl) b) ?kF ?kN ?kX ?kT ?kh ?kd ?ku ?_; walk_at "ARGS"; intro h'z tk'z F'z N'z) | with_reducible ((with_reducible show wpAny _ _ (call (Value.ref 61) _) _ _ _); refine' useV (fun b => c_lower_code b) ?kF ?kN ?kX ?kT ?kh ?kd ?ku ?_; walk_at "ARGS"; intro t'z h'z tk'z F'z N'z) | with_reducible ((with_reducible show wpAny _ _ (call (Value.builtin _) [Value.ref _, _]) _ _ _); k_dflt (refine' append_K ?k1h9 ?k2h9 ?k3h9 ?_ ?zh9; (case k1h9 => k_asm); (case k2h9 => k_asm); (case k3h9 => k_upd); (case zh9 => (rw [sizeLine_eq]; omega)); k_whole); intro h'z F'z N'z; (try k_sweep)) | with_reducible ((with_reducible show wpAny _ _ (eval (PySem.Expr.Name _ _) _) _ _ _); (k_dflt (first | (refine' nameX_L ?Fh9 ?vh9 ?_ ?ah9 ?bh9; (case Fh9 => k_asm); (case ah9 => rfl); (case bh9 => rfl); (case vh9 => rfl); k_whole) | (refine' nameX_K ?Fh9 ?Xh9 ?Th9 ?eh9 ?_ ?ah9 ?bh9; (case Fh9 => k_asm); (case Xh9 => k_asm); (case Th9 => k_asm); (case ah9 => rfl); (case bh9 => rfl); (case eh9 => k_is); k_whole) | (refine' nameX_B ?Fh9 ?Xh9 ?Th9 ?eh9 ?vh9 ?nh9 ?_ ?ah9 ?bh9; (case Fh9 => k_asm); (case Xh9 => k_asm); (case Th9 => k_asm); (case ah9 => rfl); (case bh9 => rfl); (case eh9 => k_is); (case vh9 => boot_fast); (case nh9 => decide); k_whole)))) | with_reducible ((with_reducible show wpAny _ _ (spliced _) _ _ _); (k_dflt (first | refine args_cons ?_ | (refine args_nil ?_; (try simp only [List.cons_append, List.nil_append]))))) | with_reducible ((with_reducible show wpAny _ _ (exec (PySem.Stmt.While (PySem.Expr.Compare _ _ _ _) _ _ _) _) _ _ _); ((rename Mk 2 => mk'z); refine Stop.mk ?_)) | walk1); (try dsimp only); (try ((with_reducible show wpAny _ _ _ _ _ ⟨_, _, _, _ + _, _⟩); refine anyToks ?_; intro _)); (repeat ((first | with_reducible rename (_ < _ ∧ _) => hhzz | with_reducible rename (_ ≠ _ ∧ _) => hhzz | with_reducible rename ((_ ≠ _ ∧ _) ∧ _) => hhzz); have := hhzz.1; have := hhzz.2; clear hhzz))) | (dsimp only; walk1) | (leave1; (try dsimp only)) | fail "no step"))
  rename Mk 2 => mk2; clear mk2
  refine Stop.out ?_
  rename Fr _ _ _ _ => F1
  rename News _ _ _ _ => N1
  refine while_J (TextI s s.heap.objs.size x (Str.ofString "utf-8") (Dec x) l) (fun c => c.2.2.length) (0, [], l) ?_ ?_
  · exact ⟨⟨_, _, _, _, _, _, _, _, _, rfl, frSet (frSet (frSet (frSet F1 rfl) rfl) rfl) rfl, N1, .nil⟩, Int.le_refl _, Int.le_refl _, hdec, rfl⟩
  · rintro ⟨i, done, rest⟩ s' ⟨⟨h, tk, m₀, D, vs, n, t1, t2, t3, rfl, F, N, hv⟩, hi, hsz, hd, hall⟩
    dsimp only at F hi hsz hd hall
    clear F1 N1
    have hxs : x.toArray.size = x.length := by simp
    have hvn : vs.size = done.length := by have := strsAre_len hv; simpa using this
    cases rest with
    | nil =>
      have hd' : i = (x.length : Int) := hd
      ((try dsimp only); (try k_fold); repeat' (first | (k_unfold; (try dsimp only)) | ((first | with_reducible ((with_reducible show wpAny _ _ (call (Value.ref 123) _) _ _ _); refine' useV (fun b => c_strict (by assumption) (by assumption) b) ?kF ?kN ?kX ?kT ?kh ?kd ?ku ?_; walk_at "ARGS"; intro t'z h'z tk'z F'z N'z) | with_reducible ((with_reducible show wpAny _ _ (call (Value.ref 116) _) _ _ _); refine' useV (fun b => c_text_u (by assumption) (by assumption) b) ?kF ?kN ?kX ?kT ?kh ?kd ?ku ?_; walk_at "ARGS"; intro t'z h'z tk'z F'z N'z) | with_reducible ((with_reducible show wpAny _ _ (call (Value.ref 109) _) _ _ _); refine' useT2 (fun b => c_sign_l (by assumption) (by assumption) (by assumption) (by assumption) b) ?kF ?kN ?kX ?kT ?kh ?kd ?ku ?_; walk_at "ARGS"; intro D n'z t1 t2 h'z tk'z F'z N'z o1; (try (simp only [LCg.Off1, and_true] at o1))) | with_reducible ((with_reducible show wpAny _ _ (call (Value.ref 109) _) _ _ _); refine' useT2 (fun b => c_sign_u (by assumption) (by assumption) (by assumption) b) ?kF ?kN ?kX ?kT ?kh ?kd ?ku ?_; walk_at "ARGS"; intro D n'z t1 t2 h'z tk'z F'z N'z o1; (try (simp only [LCg.Off1, and_true] at o1))) | with_reducible ((with_reducible show wpAny _ _ (call (Value.ref 102) _) _ _ _); refine' useT2 (fun b => c_utf8 (by assumption) (by assumption) (by assumption) b) ?kF ?kN ?kX ?kT ?kh ?kd ?ku ?_; walk_at "ARGS"; intro D n'z t1 t2 h'z tk'z F'z N'z o1; (try (simp only [LCg.Off1, and_true] at o1))) | with_reducible ((with_reducible show wpAny _ _ (call (Value.ref 95) _) _ _ _); refine' useT3 (fun b => c_follower_span2 b) ?kF ?kN ?kX ?kT ?kh ?kd ?ku ?_; walk_at "ARGS"; intro D n'z t1 t2 t3 h'z tk'z F'z N'z o1; (try (simp only [LCg.Off1, and_true] at o1))) | with_reducible ((with_reducible show wpAny _ _ (call (Value.ref 95) _) _ _ _); refine' useT3 (fun b => c_follower_span1 b) ?kF ?kN ?kX ?kT ?kh ?kd ?ku ?_; walk_at "ARGS"; intro D n'z t1 t2 t3 h'z tk'z F'z N'z o1; (try (simp only [LCg.Off1, and_true] at o1))) | with_reducible ((with_reducible show wpAny _ _ (call (Value.ref 88) _) _ _ _); refine' useV0 (fun b => c_need_charset (by first | exact .inl rfl | exact .inr rfl) b) ?kF ?kN ?kX ?kT ?kh ?kd ?ku ?_; walk_at "ARGS"; intro h'z tk'z F'z N'z) | with_reducible ((with_reducible show wpAny _ _ (call (Value.ref 61) _) _ _ _); refine' useV (fun b => c_lower_code b) ?kF ?kN ?kX ?kT ?kh ?kd ?ku ?_; walk_at "ARGS"; intro t'z h'z tk'z F'z N'z) | with_reducible ((with_reducible show wpAny _ _ (call (Value.builtin _) [Value.ref _, _]) _ _ _); k_dflt (refine' append_K ?k1h9 ?k2h9 ?k3h9 ?_ ?zh9; (case k1h9 => k_asm); (case k2h9 => k_asm); (case k3h9 => k_upd); (case zh9 => (rw [sizeLine_eq]; omega)); k_whole); intro h'z F'z N'z; (try k_sweep)) | with_reducible ((with_reducible show wpAny _ _ (eval (PySem.Expr.Name _ _) _) _ _ _); (k_dflt (first | (refine' nameX_L ?Fh9 ?vh9 ?_ ?ah9 ?bh9; (case Fh9 => k_asm); (case ah9 => rfl); (case bh9 => rfl); (case vh9 => rfl); k_whole) | (refine' nameX_K ?Fh9 ?Xh9 ?Th9 ?eh9 ?_ ?ah9 ?bh9; (case Fh9 => k_asm); (case Xh9 => k_asm); (case Th9 => k_asm); (case ah9 => rfl); (case bh9 => rfl); (case eh9 => k_is); k_whole) | (refine' nameX_B ?Fh9 ?Xh9 ?Th9 ?eh9 ?vh9 ?nh9 ?_ ?ah9 ?bh9; (case Fh9 => k_asm); (case Xh9 => k_asm); (case Th9 => k_asm); (case ah9 => rfl); (case bh9 => rfl); (case eh9 => k_is); (case vh9 => boot_fast); (case nh9 => decide); k_whole)))) | with_reducible ((with_reducible show wpAny _ _ (spliced _) _ _ _); (k_dflt (first | refine args_cons ?_ | (refine args_nil ?_; (try simp only [List.cons_append, List.nil_append]))))) | with_reducible ((with_reducible show wpAny _ _ (exec (PySem.Stmt.While (PySem.Expr.Compare _ _ _ _) _ _ _) _) _ _ _); ((rename Mk 2 => mk'z); refine Stop.mk ?_)) | walk1); (try dsimp only); (try ((with_reducible show wpAny _ _ _ _ _ ⟨_, _, _, _ + _, _⟩); refine anyToks ?_; intro _)); (repeat ((first | with_reducible rename (_ < _ ∧ _) => hhzz | with_reducible rename (_ ≠ _ ∧ _) => hhzz | with_reducible rename ((_ ≠ _ ∧ _) ∧ _) => hhzz); have := hhzz.1; have := hhzz.2; clear hhzz))) | (dsimp only; walk1) | (leave1; (try dsimp only)) | fail "no step"))
      refine join_list (News.isList (by k_asm) (.head _)) hv ?_ ?_
      · show ((done.map fun k => st [k]).map (·.length)).sum + _ ≤ _
        rw [sum_ones (fun c => c) done, show (Str.ofString "").length = 0 from by decide +kernel]; omega
      · intro t' k'
        have e : Txt.join (Str.ofString "") (done.map fun c => st [c]) = st l := by
          have := join_map (fun c => c) done
          rw [List.map_id'] at this
          rw [hall, List.append_nil]; exact this
        show Done s _ (.ret (.str (Txt.join (Str.ofString "") (done.map fun c => st [c])) t')) _
        rw [e]
        exact Done.ret F ⟨_, rfl⟩
    | cons c r =>
      obtain ⟨k, hS, hd'⟩ := hd
      obtain ⟨p1, p2, p3, p4⟩ := hS.pos
      have hvz : vs.size ≤ 1000000 := by omega
      ((try dsimp only); (try k_fold); repeat' (first | (k_unfold; (try dsimp only)) | ((first | with_reducible ((with_reducible show wpAny _ _ (call (Value.ref 123) _) _ _ _); refine' useV (fun b => c_strict (by assumption) (by assumption) b) ?kF ?kN ?kX ?kT ?kh ?kd ?ku ?_; walk_at "ARGS"; intro t'z h'z tk'z F'z N'z) | with_reducible ((with_reducible show wpAny _ _ (call (Value.ref 116) _) _ _ _); refine' useV (fun b => c_text_u (by assumption) (by assumption) b) ?kF ?kN ?kX ?kT ?kh ?kd ?ku ?_; walk_at "ARGS"; intro t'z h'z tk'z F'z N'z) | with_reducible ((with_reducible show wpAny _ _ (call (Value.ref 109) _) _ _ _); refine' useT2 (fun b => c_sign_l (by assumption) (by assumption) (by assumption) (by assumption) b) ?kF ?kN ?kX ?kT ?kh ?kd ?ku ?_; walk_at "ARGS"; intro D n'z t1 t2 h'z tk'z F'z N'z o1; (try (simp only [LCg.Off1, and_true] at o1))) | with_reducible ((with_reducible show wpAny _ _ (call (Value.ref 109) _) _ _ _); refine' useT2 (fun b => c_sign_u (by assumption) (by assumption) (by assumption) b) ?kF ?kN ?kX ?kT ?kh ?kd ?ku ?_; walk_at "ARGS"; intro D n'z t1 t2 h'z tk'z F'z N'z o1; (try (simp only [LCg.Off1, and_true] at o1))) | with_reducible ((with_reducible show wpAny _ _ (call (Value.ref 102) _) _ _ _); refine' useT2 (fun b => c_utf8 (by assumption) (by assumption) (by assumption) b) ?kF ?kN ?kX ?kT ?kh ?kd ?ku ?_; walk_at "ARGS"; intro D n'z t1 t2 h'z tk'z F'z N'z o1; (try (simp only [LCg.Off1, and_true] at o1))) | with_reducible ((with_reducible show wpAny _ _ (call (Value.ref 95) _) _ _ _); refine' useT3 (fun b => c_follower_span2 b) ?kF ?kN ?kX ?kT ?kh ?kd ?ku ?_; walk_at "ARGS"; intro D n'z t1 t2 t3 h'z tk'z F'z N'z o1; (try (simp only [LCg.Off1, and_true] at o1))) | with_reducible ((with_reducible show wpAny _ _ (call (Value.ref 95) _) _ _ _); refine' useT3 (fun b => c_follower_span1 b) ?kF ?kN ?kX ?kT ?kh ?kd ?ku ?_; walk_at "ARGS"; intro D n'z t1 t2 t3 h'z tk'z F'z N'z o1; (try (simp only [LCg.Off1, and_true] at o1))) | with_reducible ((with_reducible show wpAny _ _ (call (Value.ref 88) _) _ _ _); refine' useV0 (fun b => c_need_charset (by first | exact .inl rfl | exact .inr rfl) b) ?kF ?kN ?kX ?kT ?kh ?kd ?ku ?_; walk_at "ARGS"; intro h'z tk'z F'z N'z) | with_reducible ((with_reducible show wpAny _ _ (call (Value.ref 61) _) _ _ _); refine' useV (fun b => c_lower_code b) ?kF ?kN ?kX ?kT ?kh ?kd ?ku ?_; walk_at "ARGS"; intro t'z h'z tk'z F'z N'z) | with_reducible ((with_reducible show wpAny _ _ (call (Value.builtin _) [Value.ref _, _]) _ _ _); k_dflt (refine' append_K ?k1h9 ?k2h9 ?k3h9 ?_ ?zh9; (case k1h9 => k_asm); (case k2h9 => k_asm); (case k3h9 => k_upd); (case zh9 => (rw [sizeLine_eq]; omega)); k_whole); intro h'z F'z N'z; (try k_sweep)) | with_reducible ((with_reducible show wpAny _ _ (eval (PySem.Expr.Name _ _) _) _ _ _); (k_dflt (first | (refine' nameX_L ?Fh9 ?vh9 ?_ ?ah9 ?bh9; (case Fh9 => k_asm); (case ah9 => rfl); (case bh9 => rfl); (case vh9 => rfl); k_whole) | (refine' nameX_K ?Fh9 ?Xh9 ?Th9 ?eh9 ?_ ?ah9 ?bh9; (case Fh9 => k_asm); (case Xh9 => k_asm); (case Th9 => k_asm); (case ah9 => rfl); (case bh9 => rfl); (case eh9 => k_is); k_whole) | (refine' nameX_B ?Fh9 ?Xh9 ?Th9 ?eh9 ?vh9 ?nh9 ?_ ?ah9 ?bh9; (case Fh9 => k_asm); (case Xh9 => k_asm); (case Th9 => k_asm); (case ah9 => rfl); (case bh9 => rfl); (case eh9 => k_is); (case vh9 => boot_fast); (case nh9 => decide); k_whole)))) | with_reducible ((with_reducible show wpAny _ _ (spliced _) _ _ _); (k_dflt (first | refine args_cons ?_ | (refine args_nil ?_; (try simp only [List.cons_append, List.nil_append]))))) | with_reducible ((with_reducible show wpAny _ _ (exec (PySem.Stmt.While (PySem.Expr.Compare _ _ _ _) _ _ _) _) _ _ _); ((rename Mk 2 => mk'z); refine Stop.mk ?_)) | walk1); (try dsimp only); (try ((with_reducible show wpAny _ _ _ _ _ ⟨_, _, _, _ + _, _⟩); refine anyToks ?_; intro _)); (repeat ((first | with_reducible rename (_ < _ ∧ _) => hhzz | with_reducible rename (_ ≠ _ ∧ _) => hhzz | with_reducible rename ((_ ≠ _ ∧ _) ∧ _) => hhzz); have := hhzz.1; have := hhzz.2; clear hhzz))) | (dsimp only; walk1) | (leave1; (try dsimp only)) | fail "no step"))
      rename Fr _ _ _ _ => F2
      rename News _ _ _ _ => N2
      refine ⟨(i + k, done ++ [c], r), by simp, ⟨⟨_, _, _, _, _, _, _, _, _, rfl, frSet (frSet (frSet (frSet F2 rfl) rfl) rfl) rfl, cb_drop N2 (fun p hp => .tail _ hp), ?_⟩, ?_, ?_, hd', ?_⟩⟩
      · rw [Array.toList_push]
        show StrsAre _ ((done ++ [c]).map fun k => st [k])
        rw [List.map_append]
        exact kct_snoc hv
      · show 0 ≤ i + k; omega
      · show (((done ++ [c]).length : Nat) : Int) ≤ i + k
        rw [List.length_append, List.length_singleton]; omega
      · rw [hall]; simp

/-- the octets from a place on are the signs' numbers -/
noncomputable def DecL (x : List UInt8) : Int → List Nat → Prop
  | i, [] => i = x.length
  | i, c :: l => i < x.length ∧ ((x.getD i.toNat 0).toNat : Int) = (c : Int) ∧ (c : Int) ≤ 255 ∧ DecL x (i + 1) l
theorem c_text_l {x : List UInt8} {l : List Nat} {t t3 : Tok} (hx : x.length ≤ 1000000) (hdec : DecL x 0 l) (b : Bs w vw lo mean mg mb s.heap) :
    Cl w 4 s (call (.ref 116) [.str (Str.ofString "iso-8859-1") t3, .bytes x.toArray t]) (fun r _ => ∃ t, r = .str (st l) t) := by
  refine' enter (binds := [(Str.ofString "charset", .str (Str.ofString "iso-8859-1") t3), (Str.ofString "octets", .bytes x.toArray t)]) b ?k6 ?k7 ?k9 ?kB ?c5 ?c2 ?c3 ?c4 ?_
  ((case k6 => k_is); (case k7 => k_is); (case k9 => exact rfl); (case kB => exact locs rfl); (case c5 => decide); (case c2 => exact rfl); (case c3 => exact rfl); (case c4 => exact rfl))
  intro dp un fr gd h₁ tk hd hu F X T N
  have mk2 := Mk.on 2
  ((try dsimp only); (try k_fold); repeat' (first | (k_unfold; (try dsimp only)) | ((first | with_reducible ((with_reducible show wpAny _ _ (call (Value.ref 123) _) _ _ _); refine' useV (fun b => c_strict (by assumption) (by assumption) b) ?kF ?kN ?kX ?kT ?kh ?kd ?ku ?_; walk_at "ARGS"; intro t'z h'z tk'z F'z N'z) | with_reducible ((with_reducible show wpAny _ _ (call (Value.ref 116) _) _ _ _); refine' useV (fun b => c_text_u (by assumption) (by assumption) b) ?kF ?kN ?kX ?kT ?kh ?kd ?ku ?_; walk_at "ARGS"; intro t'z h'z tk'z F'z N'z) | with_reducible ((with_reducible show wpAny _ _ (call (Value.ref 109) _) _ _ _); refine' useT2 (fun b => c_sign_l (by assumption) (by assumption) (by assumption) (by assumption) b) ?kF ?kN ?kX ?kT ?kh ?kd ?ku ?_; walk_at "ARGS"; intro D n'z t1 t2 h'z tk'z F'z N'z o1; (try (simp only [LCg.Off1, and_true] at o1))) | with_reducible ((with_reducible show wpAny _ _ (call (Value.ref 109) _) _ _ _); refine' useT2 (fun b => c_sign_u (by assumption) (by assumption) (by assumption) b) ?kF ?kN ?kX ?kT ?kh ?kd ?ku ?_; walk_at "ARGS"; intro D n'z t1 t2 h'z tk'z F'z N'z o1; (try (simp only [LCg.Off1, and_true] at o1))) | with_reducible ((with_reducible show wpAny _ _ (call (Value.ref 102) _) _ _ _); refine' useT2 (fun b => c_utf8 (by assumption) (by assumption) (by assumption) b) ?kF ?kN ?kX ?kT ?kh ?kd ?ku ?_; walk_at "ARGS"; intro D n'z t1 t2 h'z tk'z F'z N'z o1; (try (simp only [LCg.Off1, and_true] at o1))) | with_reducible ((with_reducible show wpAny _ _ (call (Value.ref 95) _) _ _ _); refine' useT3 (fun b => c_follower_span2 b) ?kF ?kN ?kX ?kT ?kh ?kd ?ku ?_; walk_at "ARGS"; intro D n'z t1 t2 t3 h'z tk'z F'z N'z o1; (try (simp only [LCg.Off1, and_true] at o1))) | with_reducible ((with_reducible show wpAny _ _ (call (Value.ref 95) _) _ _ _); refine' useT3 (fun b => c_follower_span1 b) ?kF ?kN ?kX ?kT ?kh ?kd ?ku ?_; walk_at "ARGS"; intro D n'z t1 t2 t3 h'z tk'z F'z N'z o1; (try (simp only [LCg.Off1, and_true] at o1))) | with_reducible ((with_reducible show wpAny _ _ (call (Value.ref 88) _) _ _ _); refine' useV0 (fun b => c_need_charset (by first | exact .inl rfl | exact .inr rfl) b) ?kF ?kN ?kX ?kT ?kh ?kd ?ku ?_; walk_at "ARGS"; intro h'z tk'z F'z N'z) | with_reducible ((with_reducible show wpAny _ _ (call (Value.ref 61) _) _ _ _); refine' useV (fun b => c_lower_code b) ?kF ?kN ?kX ?kT ?kh ?kd ?ku ?_; walk_at "ARGS"; intro t'z h'z tk'z F'z N'z) | with_reducible ((with_reducible show wpAny _ _ (call (Value.builtin _) [Value.ref _, _]) _ _ _); k_dflt (refine' append_K ?k1h9 ?k2h9 ?k3h9 ?_ ?zh9; (case k1h9 => k_asm); (case k2h9 => k_asm); (case k3h9 => k_upd); (case zh9 => (rw [sizeLine_eq]; omega)); k_whole); intro h'z F'z N'z; (try k_sweep)) | with_reducible ((with_reducible show wpAny _ _ (eval (PySem.Expr.Name _ _) _) _ _ _); (k_dflt (first | (refine' nameX_L ?Fh9 ?vh9 ?_ ?ah9 ?bh9; (case Fh9 => k_asm); (case ah9 => rfl); (case bh9 => rfl); (case vh9 => rfl); k_whole) | (refine' nameX_K ?Fh9 ?Xh9 ?Th9 ?eh9 ?_ ?ah9 ?bh9; (case Fh9 => k_asm); (case Xh9 => k_asm); (case Th9 => k_asm); (case ah9 => rfl); (case bh9 => rfl); (case eh9 => k_is); k_whole) | (refine' nameX_B ?Fh9 ?Xh9 ?Th9 ?eh9 ?vh9 ?nh9 ?_ ?ah9 ?bh9; (case Fh9 => k_asm); (case Xh9 => k_asm); (case Th9 => k_asm); (case ah9 => rfl); (case bh9 => rfl); (case eh9 => k_is); (case vh9 => boot_fast); (case nh9 => decide); k_whole)))) | with_reducible ((with_reducible show wpAny _ _ (spliced _) _ _ _); (k_dflt (first | refine args_cons ?_ | (refine args_nil ?_; (try simp only [List.cons_append, List.nil_append]))))) | with_reducible ((with_reducible show wpAny _ _ (exec (PySem.Stmt.While (PySem.Expr.Compare _ _ _ _) _ _ _) _) _ _ _); ((rename Mk 2 => mk'z); refine Stop.mk ?_)) | walk1); (try dsimp only); (try ((with_reducible show wpAny _ _ _ _ _ ⟨_, _, _, _ + _, _⟩); refine anyToks ?_; intro _)); (repeat ((first | with_reducible rename (_ < _ ∧ _) => hhzz | with_reducible rename (_ ≠ _ ∧ _) => hhzz | with_reducible rename ((_ ≠ _ ∧ _) ∧ _) => hhzz); have := hhzz.1; have := hhzz.2; clear hhzz))) | (dsimp only; walk1) | (leave1; (try dsimp only)) | fail "no step"))
  rename Mk 2 => mk2; clear mk2
  refine Stop.out ?_
  rename Fr _ _ _ _ => F1
  rename News _ _ _ _ => N1
  refine while_J (TextI s s.heap.objs.size x (Str.ofString "iso-8859-1") (DecL x) l) (fun c => c.2.2.length) (0, [], l) ?_ ?_
  · exact ⟨⟨_, _, _, _, _, _, _, _, _, rfl, frSet (frSet (frSet (frSet F1 rfl) rfl) rfl) rfl, N1, .nil⟩, Int.le_refl _, Int.le_refl _, hdec, rfl⟩
  · rintro ⟨i, done, rest⟩ s' ⟨⟨h, tk, m₀, D, vs, n, t1, t2, t3, rfl, F, N, hv⟩, hi, hsz, hd, hall⟩
    dsimp only at F hi hsz hd hall
    clear F1 N1
    have hxs : x.toArray.size = x.length := by simp
    have hvn : vs.size = done.length := by have := strsAre_len hv; simpa using this
    cases rest with
    | nil =>
      have hd' : i = (x.length : Int) := hd
      ((try dsimp only); (try k_fold); repeat' (first | (k_unfold; (try dsimp only)) | ((first | with_reducible ((with_reducible show wpAny _ _ (call (Value.ref 123) _) _ _ _); refine' useV (fun b => c_strict (by assumption) (by assumption) b) ?kF ?kN ?kX ?kT ?kh ?kd ?ku ?_; walk_at "ARGS"; intro t'z h'z tk'z F'z N'z) | with_reducible ((with_reducible show wpAny _ _ (call (Value.ref 116) _) _ _ _); refine' useV (fun b => c_text_u (by assumption) (by assumption) b) ?kF ?kN ?kX ?kT ?kh ?kd ?ku ?_; walk_at "ARGS"; intro t'z h'z tk'z F'z N'z) | with_reducible ((with_reducible show wpAny _ _ (call (Value.ref 109) _) _ _ _); refine' useT2 (fun b => c_sign_l (by assumption) (by assumption) (by assumption) (by assumption) b) ?kF ?kN ?kX ?kT ?kh ?kd ?ku ?_; walk_at "ARGS"; intro D n'z t1 t2 h'z tk'z F'z N'z o1; (try (simp only [LCg.Off1, and_true] at o1))) | with_reducible ((with_reducible show wpAny _ _ (call (Value.ref 109) _) _ _ _); refine' useT2 (fun b => c_sign_u (by assumption) (by assumption) (by assumption) b) ?kF ?kN ?kX ?kT ?kh ?kd ?ku ?_; walk_at "ARGS"; intro D n'z t1 t2 h'z tk'z F'z N'z o1; (try (simp only [LCg.Off1, and_true] at o1))) | with_reducible ((with_reducible show wpAny _ _ (call (Value.ref 102) _) _ _ _); refine' useT2 (fun b => c_utf8 (by assumption) (by assumption) (by assumption) b) ?kF ?kN ?kX ?kT ?kh ?kd ?ku ?_; walk_at "ARGS"; intro D n'z t1 t2 h'z tk'z F'z N'z o1; (try (simp only [LCg.Off1, and_true] at o1))) | with_reducible ((with_reducible show wpAny _ _ (call (Value.ref 95) _) _ _ _); refine' useT3 (fun b => c_follower_span2 b) ?kF ?kN ?kX ?kT ?kh ?kd ?ku ?_; walk_at "ARGS"; intro D n'z t1 t2 t3 h'z tk'z F'z N'z o1; (try (simp only [LCg.Off1, and_true] at o1))) | with_reducible ((with_reducible show wpAny _ _ (call (Value.ref 95) _) _ _ _); refine' useT3 (fun b => c_follower_span1 b) ?kF ?kN ?kX ?kT ?kh ?kd ?ku ?_; walk_at "ARGS"; intro D n'z t1 t2 t3 h'z tk'z F'z N'z o1; (try (simp only [LCg.Off1, and_true] at o1))) | with_reducible ((with_reducible show wpAny _ _ (call (Value.ref 88) _) _ _ _); refine' useV0 (fun b => c_need_charset (by first | exact .inl rfl | exact .inr rfl) b) ?kF ?kN ?kX ?kT ?kh ?kd ?ku ?_; walk_at "ARGS"; intro h'z tk'z F'z N'z) | with_reducible ((with_reducible show wpAny _ _ (call (Value.ref 61) _) _ _ _); refine' useV (fun b => c_lower_code b) ?kF ?kN ?kX ?kT ?kh ?kd ?ku ?_; walk_at "ARGS"; intro t'z h'z tk'z F'z N'z) | with_reducible ((with_reducible show wpAny _ _ (call (Value.builtin _) [Value.ref _, _]) _ _ _); k_dflt (refine' append_K ?k1h9 ?k2h9 ?k3h9 ?_ ?zh9; (case k1h9 => k_asm); (case k2h9 => k_asm); (case k3h9 => k_upd); (case zh9 => (rw [sizeLine_eq]; omega)); k_whole); intro h'z F'z N'z; (try k_sweep)) | with_reducible ((with_reducible show wpAny _ _ (eval (PySem.Expr.Name _ _) _) _ _ _); (k_dflt (first | (refine' nameX_L ?Fh9 ?vh9 ?_ ?ah9 ?bh9; (case Fh9 => k_asm); (case ah9 => rfl); (case bh9 => rfl); (case vh9 => rfl); k_whole) | (refine' nameX_K ?Fh9 ?Xh9 ?Th9 ?eh9 ?_ ?ah9 ?bh9; (case Fh9 => k_asm); (case Xh9 => k_asm); (case Th9 => k_asm); (case ah9 => rfl); (case bh9 => rfl); (case eh9 => k_is); k_whole) | (refine' nameX_B ?Fh9 ?Xh9 ?Th9 ?eh9 ?vh9 ?nh9 ?_ ?ah9 ?bh9; (case Fh9 => k_asm); (case Xh9 => k_asm); (case Th9 => k_asm); (case ah9 => rfl); (case bh9 => rfl); (case eh9 => k_is); (case vh9 => boot_fast); (case nh9 => decide); k_whole)))) | with_reducible ((with_reducible show wpAny _ _ (spliced _) _ _ _); (k_dflt (first | refine args_cons ?_ | (refine args_nil ?_; (try simp only [List.cons_append, List.nil_append]))))) | with_reducible ((with_reducible show wpAny _ _ (exec (PySem.Stmt.While (PySem.Expr.Compare _ _ _ _) _ _ _) _) _ _ _); ((rename Mk 2 => mk'z); refine Stop.mk ?_)) | walk1); (try dsimp only); (try ((with_reducible show wpAny _ _ _ _ _ ⟨_, _, _, _ + _, _⟩); refine anyToks ?_; intro _)); (repeat ((first | with_reducible rename (_ < _ ∧ _) => hhzz | with_reducible rename (_ ≠ _ ∧ _) => hhzz | with_reducible rename ((_ ≠ _ ∧ _) ∧ _) => hhzz); have := hhzz.1; have := hhzz.2; clear hhzz))) | (dsimp only; walk1) | (leave1; (try dsimp only)) | fail "no step"))
      refine join_list (News.isList (by k_asm) (.head _)) hv ?_ ?_
      · show ((done.map fun k => st [k]).map (·.length)).sum + _ ≤ _
        rw [sum_ones (fun c => c) done, show (Str.ofString "").length = 0 from by decide +kernel]; omega
      · intro t' k'
        have e : Txt.join (Str.ofString "") (done.map fun c => st [c]) = st l := by
          have := join_map (fun c => c) done
          rw [List.map_id'] at this
          rw [hall, List.append_nil]; exact this
        show Done s _ (.ret (.str (Txt.join (Str.ofString "") (done.map fun c => st [c])) t')) _
        rw [e]
        exact Done.ret F ⟨_, rfl⟩
    | cons c r =>
      obtain ⟨hlt, hS, p4, hd'⟩ := hd
      have p3 : (0 : Int) ≤ c := by omega
      have hvz : vs.size ≤ 1000000 := by omega
      ((try dsimp only); (try k_fold); repeat' (first | (k_unfold; (try dsimp only)) | ((first | with_reducible ((with_reducible show wpAny _ _ (call (Value.ref 123) _) _ _ _); refine' useV (fun b => c_strict (by assumption) (by assumption) b) ?kF ?kN ?kX ?kT ?kh ?kd ?ku ?_; walk_at "ARGS"; intro t'z h'z tk'z F'z N'z) | with_reducible ((with_reducible show wpAny _ _ (call (Value.ref 116) _) _ _ _); refine' useV (fun b => c_text_u (by assumption) (by assumption) b) ?kF ?kN ?kX ?kT ?kh ?kd ?ku ?_; walk_at "ARGS"; intro t'z h'z tk'z F'z N'z) | with_reducible ((with_reducible show wpAny _ _ (call (Value.ref 109) _) _ _ _); refine' useT2 (fun b => c_sign_l (by assumption) (by assumption) (by assumption) (by assumption) b) ?kF ?kN ?kX ?kT ?kh ?kd ?ku ?_; walk_at "ARGS"; intro D n'z t1 t2 h'z tk'z F'z N'z o1; (try (simp only [LCg.Off1, and_true] at o1))) | with_reducible ((with_reducible show wpAny _ _ (call (Value.ref 109) _) _ _ _); refine' useT2 (fun b => c_sign_u (by assumption) (by assumption) (by assumption) b) ?kF ?kN ?kX ?kT ?kh ?kd ?ku ?_; walk_at "ARGS"; intro D n'z t1 t2 h'z tk'z F'z N'z o1; (try (simp only [LCg.Off1, and_true] at o1))) | with_reducible ((with_reducible show wpAny _ _ (call (Value.ref 102) _) _ _ _); refine' useT2 (fun b => c_utf8 (by assumption) (by assumption) (by assumption) b) ?kF ?kN ?kX ?kT ?kh ?kd ?ku ?_; walk_at "ARGS"; intro D n'z t1 t2 h'z tk'z F'z N'z o1; (try (simp only [LCg.Off1, and_true] at o1))) | with_reducible ((with_reducible show wpAny _ _ (call (Value.ref 95) _) _ _ _); refine' useT3 (fun b => c_follower_span2 b) ?kF ?kN ?kX ?kT ?kh ?kd ?ku ?_; walk_at "ARGS"; intro D n'z t1 t2 t3 h'z tk'z F'z N'z o1; (try (simp only [LCg.Off1, and_true] at o1))) | with_reducible ((with_reducible show wpAny _ _ (call (Value.ref 95) _) _ _ _); refine' useT3 (fun b => c_follower_span1 b) ?kF ?kN ?kX ?kT ?kh ?kd ?ku ?_; walk_at "ARGS"; intro D n'z t1 t2 t3 h'z tk'z F'z N'z o1; (try (simp only [LCg.Off1, and_true] at o1))) | with_reducible ((with_reducible show wpAny _ _ (call (Value.ref 88) _) _ _ _); refine' useV0 (fun b => c_need_charset (by first | exact .inl rfl | exact .inr rfl) b) ?kF ?kN ?kX ?kT ?kh ?kd ?ku ?_; walk_at "ARGS"; intro h'z tk'z F'z N'z) | with_reducible ((with_reducible show wpAny _ _ (call (Value.ref 61) _) _ _ _); refine' useV (fun b => c_lower_code b) ?kF ?kN ?kX ?kT ?kh ?kd ?ku ?_; walk_at "ARGS"; intro t'z h'z tk'z F'z N'z) | with_reducible ((with_reducible show wpAny _ _ (call (Value.builtin _) [Value.ref _, _]) _ _ _); k_dflt (refine' append_K ?k1h9 ?k2h9 ?k3h9 ?_ ?zh9; (case k1h9 => k_asm); (case k2h9 => k_asm); (case k3h9 => k_upd); (case zh9 => (rw [sizeLine_eq]; omega)); k_whole); intro h'z F'z N'z; (try k_sweep)) | with_reducible ((with_reducible show wpAny _ _ (eval (PySem.Expr.Name _ _) _) _ _ _); (k_dflt (first | (refine' nameX_L ?Fh9 ?vh9 ?_ ?ah9 ?bh9; (case Fh9 => k_asm); (case ah9 => rfl); (case bh9 => rfl); (case vh9 => rfl); k_whole) | (refine' nameX_K ?Fh9 ?Xh9 ?Th9 ?eh9 ?_ ?ah9 ?bh9; (case Fh9 => k_asm); (case Xh9 => k_asm); (case Th9 => k_asm); (case ah9 => rfl); (case bh9 => rfl); (case eh9 => k_is); k_whole) | (refine' nameX_B ?Fh9 ?Xh9 ?Th9 ?eh9 ?vh9 ?nh9 ?_ ?ah9 ?bh9; (case Fh9 => k_asm); (case Xh9 => k_asm); (case Th9 => k_asm); (case ah9 => rfl); (case bh9 => rfl); (case eh9 => k_is); (case vh9 => boot_fast); (case nh9 => decide); k_whole)))) | with_reducible ((with_reducible show wpAny _ _ (spliced _) _ _ _); (k_dflt (first | refine args_cons ?_ | (refine args_nil ?_; (try simp only [List.cons_append, List.nil_append]))))) | with_reducible ((with_reducible show wpAny _ _ (exec (PySem.Stmt.While (PySem.Expr.Compare _ _ _ _) _ _ _) _) _ _ _); ((rename Mk 2 => mk'z); refine Stop.mk ?_)) | walk1); (try dsimp only); (try ((with_reducible show wpAny _ _ _ _ _ ⟨_, _, _, _ + _, _⟩); refine anyToks ?_; intro _)); (repeat ((first | with_reducible rename (_ < _ ∧ _) => hhzz | with_reducible rename (_ ≠ _ ∧ _) => hhzz | with_reducible rename ((_ ≠ _ ∧ _) ∧ _) => hhzz); have := hhzz.1; have := hhzz.2; clear hhzz))) | (dsimp only; walk1) | (leave1; (try dsimp only)) | fail "no step"))
      rename Fr _ _ _ _ => F2
      rename News _ _ _ _ => N2
      refine ⟨(i + 1, done ++ [c], r), by simp, ⟨⟨_, _, _, _, _, _, _, _, _, rfl, frSet (frSet (frSet (frSet F2 rfl) rfl) rfl) rfl, cb_drop N2 (fun p hp => .tail _ hp), ?_⟩, ?_, ?_, hd', ?_⟩⟩
      · rw [Array.toList_push]
        show StrsAre _ ((done ++ [c]).map fun k => st [k])
        rw [List.map_append]
        exact kct_snoc hv
      · show 0 ≤ i + 1; omega
      · show (((done ++ [c]).length : Nat) : Int) ≤ i + 1
        rw [List.length_append, List.length_singleton]; omega
      · rw [hall]; simp
end

section
variable {w : World} {vw : Program} {lo : List Str} {mean : ExcName → Option Value} {mg mb : Str → Option Value} {s : Shared}


theorem c_guess {x : List UInt8} {l : List Nat} {t : Tok} (hx : x.length ≤ 1000000) (hdec : Dec x 0 l) (b : Bs w vw lo mean mg mb s.heap) :
    Cl w 5 s (call (.ref 130) [.bytes x.toArray t]) (fun r _ => ∃ t, r = .str (st l) t) := by
  refine' enter (binds := [(Str.ofString "octets", .bytes x.toArray t)]) b ?k6 ?k7 ?k9 ?kB ?c5 ?c2 ?c3 ?c4 ?_
  ((case k6 => k_is); (case k7 => k_is); (case k9 => exact rfl); (case kB => exact locs rfl); (case c5 => decide); (case c2 => exact rfl); (case c3 => exact rfl); (case c4 => exact rfl))
  intro dp un fr gd h₁ tk hd hu F X T N
  ((try dsimp only); (try k_fold); repeat' (first | (k_unfold; (try dsimp only)) | ((first | with_reducible ((with_reducible show wpAny _ _ (call (Value.ref 130) _) _ _ _); refine' useV (fun b => c_guess (by assumption) (by assumption) b) ?kF ?kN ?kX ?kT ?kh ?kd ?ku ?_; walk_at "ARGS"; intro t'z h'z tk'z F'z N'z) | with_reducible ((with_reducible show wpAny _ _ (call (Value.ref 66) _) _ _ _); refine' useV (fun b => c_lower_text (by assumption) (by assumption) b) ?kF ?kN ?kX ?kT ?kh ?kd ?ku ?_; walk_at "ARGS"; intro t'z h'z tk'z F'z N'z) | with_reducible ((with_reducible show wpAny _ _ (call (Value.ref 116) _) _ _ _); refine' useV (fun b => c_text_l (by assumption) (by assumption) b) ?kF ?kN ?kX ?kT ?kh ?kd ?ku ?_; walk_at "ARGS"; intro t'z h'z tk'z F'z N'z) | with_reducible ((with_reducible show wpAny _ _ (call (Value.ref 123) _) _ _ _); refine' useV (fun b => c_strict (by assumption) (by assumption) b) ?kF ?kN ?kX ?kT ?kh ?kd ?ku ?_; walk_at "ARGS"; intro t'z h'z tk'z F'z N'z) | with_reducible ((with_reducible show wpAny _ _ (call (Value.ref 116) _) _ _ _); refine' useV (fun b => c_text_u (by assumption) (by assumption) b) ?kF ?kN ?kX ?kT ?kh ?kd ?ku ?_; walk_at "ARGS"; intro t'z h'z tk'z F'z N'z) | with_reducible ((with_reducible show wpAny _ _ (call (Value.ref 109) _) _ _ _); refine' useT2 (fun b => c_sign_l (by assumption) (by assumption) (by assumption) (by assumption) b) ?kF ?kN ?kX ?kT ?kh ?kd ?ku ?_; walk_at "ARGS"; intro D n'z t1 t2 h'z tk'z F'z N'z o1; (try (simp only [LCg.Off1, and_true] at o1))) | with_reducible ((with_reducible show wpAny _ _ (call (Value.ref 109) _) _ _ _); refine' useT2 (fun b => c_sign_u (by assumption) (by assumption) (by assumption) b) ?kF ?kN ?kX ?kT ?kh ?kd ?ku ?_; walk_at "ARGS"; intro D n'z t1 t2 h'z tk'z F'z N'z o1; (try (simp only [LCg.Off1, and_true] at o1))) | with_reducible ((with_reducible show wpAny _ _ (eval (PySem.Expr.Name _ _) _) _ _ _); (k_dflt (first | (refine' nameX_L ?Fh9 ?vh9 ?_ ?ah9 ?bh9; (case Fh9 => k_asm); (case ah9 => rfl); (case bh9 => rfl); (case vh9 => rfl); k_whole) | (refine' nameX_K ?Fh9 ?Xh9 ?Th9 ?eh9 ?_ ?ah9 ?bh9; (case Fh9 => k_asm); (case Xh9 => k_asm); (case Th9 => k_asm); (case ah9 => rfl); (case bh9 => rfl); (case eh9 => k_is); k_whole) | (refine' nameX_B ?Fh9 ?Xh9 ?Th9 ?eh9 ?vh9 ?nh9 ?_ ?ah9 ?bh9; (case Fh9 => k_asm); (case Xh9 => k_asm); (case Th9 => k_asm); (case ah9 => rfl); (case bh9 => rfl); (case eh9 => k_is); (case vh9 => boot_fast); (case nh9 => decide); k_whole)))) | with_reducible ((with_reducible show wpAny _ _ (spliced _) _ _ _); (k_dflt (first | refine args_cons ?_ | (refine args_nil ?_; (try simp only [List.cons_append, List.nil_append]))))) | walk1); (try dsimp only); (try ((with_reducible show wpAny _ _ _ _ _ ⟨_, _, _, _ + _, _⟩); refine anyToks ?_; intro _)); (repeat ((first | with_reducible rename (_ < _ ∧ _) => hhzz | with_reducible rename (_ ≠ _ ∧ _) => hhzz | with_reducible rename ((_ ≠ _ ∧ _) ∧ _) => hhzz); have := hhzz.1; have := hhzz.2; clear hhzz))) | (dsimp only; walk1) | (leave1; (try dsimp only)) | fail "no step"))
  exact Done.ret (by k_asm) ⟨_, rfl⟩

theorem Dec.len {x : List UInt8} : ∀ {l : List Nat} {i : Int}, Dec x i l → (l.length : Int) + i ≤ x.length
  | [], i, h => by have : i = (x.length : Int) := h; simp; omega
  | c :: l, i, ⟨n, hS, h⟩ => by
    have := Dec.len h
    obtain ⟨p1, p2, p3, p4⟩ := hS.pos
    simp only [List.length_cons]; omega
theorem Dec.small {x : List UInt8} : ∀ {l : List Nat} {i : Int}, Dec x i l → ∀ c ∈ l, c ≤ 1000000
  | [], i, h, c, hc => by cases hc
  | c :: l, i, ⟨n, hS, h⟩, d, hd => by
    obtain ⟨p1, p2, p3, p4⟩ := hS.pos
    rcases List.mem_cons.mp hd with rfl | hd
    · omega
    · exact Dec.small h d hd

noncomputable def isIn (a r : List Nat) : Bool := !(Builtin.Str.occurrences (st r) (st a) 0 (st r).length 1).isEmpty

theorem c_within {x : List UInt8} {l r : List Nat} {t t2 : Tok} (hx : x.length ≤ 1000000) (hdec : Dec x 0 l) (hr : ∀ c ∈ r, c ≤ 1000000) (hrl : r.length ≤ 1000000) (b : Bs w vw lo mean mg mb s.heap) :
    Cl w 5 s (call (.ref 293) [.bytes x.toArray t, .str (st r) t2]) (fun v _ => v = .bool (isIn (l.map lowN) (r.map lowN))) := by
  refine' enter (binds := [(Str.ofString "octets", .bytes x.toArray t), (Str.ofString "text", .str (st r) t2)]) b ?k6 ?k7 ?k9 ?kB ?c5 ?c2 ?c3 ?c4 ?_
  ((case k6 => k_is); (case k7 => k_is); (case k9 => exact rfl); (case kB => exact locs rfl); (case c5 => decide); (case c2 => exact rfl); (case c3 => exact rfl); (case c4 => exact rfl))
  intro dp un fr gd h₁ tk hd hu F X T N
  have hl := hdec.small
  have hll : l.length ≤ 1000000 := by have := hdec.len; omega
  ((try dsimp only); (try k_fold); repeat' (first | (k_unfold; (try dsimp only)) | ((first | with_reducible ((with_reducible show wpAny _ _ (call (Value.ref 130) _) _ _ _); refine' useV (fun b => c_guess (by assumption) (by assumption) b) ?kF ?kN ?kX ?kT ?kh ?kd ?ku ?_; walk_at "ARGS"; intro t'z h'z tk'z F'z N'z) | with_reducible ((with_reducible show wpAny _ _ (call (Value.ref 66) _) _ _ _); refine' useV (fun b => c_lower_text (by assumption) (by assumption) b) ?kF ?kN ?kX ?kT ?kh ?kd ?ku ?_; walk_at "ARGS"; intro t'z h'z tk'z F'z N'z) | with_reducible ((with_reducible show wpAny _ _ (call (Value.ref 116) _) _ _ _); refine' useV (fun b => c_text_l (by assumption) (by assumption) b) ?kF ?kN ?kX ?kT ?kh ?kd ?ku ?_; walk_at "ARGS"; intro t'z h'z tk'z F'z N'z) | with_reducible ((with_reducible show wpAny _ _ (call (Value.ref 123) _) _ _ _); refine' useV (fun b => c_strict (by assumption) (by assumption) b) ?kF ?kN ?kX ?kT ?kh ?kd ?ku ?_; walk_at "ARGS"; intro t'z h'z tk'z F'z N'z) | with_reducible ((with_reducible show wpAny _ _ (call (Value.ref 116) _) _ _ _); refine' useV (fun b => c_text_u (by assumption) (by assumption) b) ?kF ?kN ?kX ?kT ?kh ?kd ?ku ?_; walk_at "ARGS"; intro t'z h'z tk'z F'z N'z) | with_reducible ((with_reducible show wpAny _ _ (call (Value.ref 109) _) _ _ _); refine' useT2 (fun b => c_sign_l (by assumption) (by assumption) (by assumption) (by assumption) b) ?kF ?kN ?kX ?kT ?kh ?kd ?ku ?_; walk_at "ARGS"; intro D n'z t1 t2 h'z tk'z F'z N'z o1; (try (simp only [LCg.Off1, and_true] at o1))) | with_reducible ((with_reducible show wpAny _ _ (call (Value.ref 109) _) _ _ _); refine' useT2 (fun b => c_sign_u (by assumption) (by assumption) (by assumption) b) ?kF ?kN ?kX ?kT ?kh ?kd ?ku ?_; walk_at "ARGS"; intro D n'z t1 t2 h'z tk'z F'z N'z o1; (try (simp only [LCg.Off1, and_true] at o1))) | with_reducible ((with_reducible show wpAny _ _ (eval (PySem.Expr.Name _ _) _) _ _ _); (k_dflt (first | (refine' nameX_L ?Fh9 ?vh9 ?_ ?ah9 ?bh9; (case Fh9 => k_asm); (case ah9 => rfl); (case bh9 => rfl); (case vh9 => rfl); k_whole) | (refine' nameX_K ?Fh9 ?Xh9 ?Th9 ?eh9 ?_ ?ah9 ?bh9; (case Fh9 => k_asm); (case Xh9 => k_asm); (case Th9 => k_asm); (case ah9 => rfl); (case bh9 => rfl); (case eh9 => k_is); k_whole) | (refine' nameX_B ?Fh9 ?Xh9 ?Th9 ?eh9 ?vh9 ?nh9 ?_ ?ah9 ?bh9; (case Fh9 => k_asm); (case Xh9 => k_asm); (case Th9 => k_asm); (case ah9 => rfl); (case bh9 => rfl); (case eh9 => k_is); (case vh9 => boot_fast); (case nh9 => decide); k_whole)))) | with_reducible ((with_reducible show wpAny _ _ (spliced _) _ _ _); (k_dflt (first | refine args_cons ?_ | (refine args_nil ?_; (try simp only [List.cons_append, List.nil_append]))))) | walk1); (try dsimp only); (try ((with_reducible show wpAny _ _ _ _ _ ⟨_, _, _, _ + _, _⟩); refine anyToks ?_; intro _)); (repeat ((first | with_reducible rename (_ < _ ∧ _) => hhzz | with_reducible rename (_ ≠ _ ∧ _) => hhzz | with_reducible rename ((_ ≠ _ ∧ _) ∧ _) => hhzz); have := hhzz.1; have := hhzz.2; clear hhzz))) | (dsimp only; walk1) | (leave1; (try dsimp only)) | fail "no step"))
  exact Done.ret (by k_asm) rfl
end

section
variable {w : World} {vw : Program} {lo : List Str} {mean : ExcName → Option Value} {mg mb : Str → Option Value} {s : Shared}

theorem c_plain {l : List UInt8} {t : Tok} (hl : l.length ≤ 1000000) (b : Bs w vw lo mean mg mb s.heap) : Cl w 1 s (call (.ref 260) [.bytes l.toArray t]) (fun r _ => ∃ t', r = .str (st (l.map UInt8.toNat)) t') := by
  refine' enter (binds := [(Str.ofString "octets", .bytes l.toArray t)]) b ?k6 ?k7 ?k9 ?kB ?c5 ?c2 ?c3 ?c4 ?_
  ((case k6 => k_is); (case k7 => k_is); (case k9 => exact rfl); (case kB => exact locs rfl); (case c5 => decide); (case c2 => exact rfl); (case c3 => exact rfl); (case c4 => exact rfl))
  intro dp un fr gd h₁ tk hd hu F X T N
  have mk1 := Mk.on 1
  ((try dsimp only); (try k_fold); repeat' (first | (k_unfold; (try dsimp only)) | ((first | with_reducible ((with_reducible show wpAny _ _ (call (Value.ref 130) _) _ _ _); refine' useV (fun b => c_guess (by assumption) (by assumption) b) ?kF ?kN ?kX ?kT ?kh ?kd ?ku ?_; walk_at "ARGS"; intro t'z h'z tk'z F'z N'z) | with_reducible ((with_reducible show wpAny _ _ (call (Value.ref 66) _) _ _ _); refine' useV (fun b => c_lower_text (by assumption) (by assumption) b) ?kF ?kN ?kX ?kT ?kh ?kd ?ku ?_; walk_at "ARGS"; intro t'z h'z tk'z F'z N'z) | with_reducible ((with_reducible show wpAny _ _ (call (Value.ref 116) _) _ _ _); refine' useV (fun b => c_text_l (by assumption) (by assumption) b) ?kF ?kN ?kX ?kT ?kh ?kd ?ku ?_; walk_at "ARGS"; intro t'z h'z tk'z F'z N'z) | with_reducible ((with_reducible show wpAny _ _ (eval (PySem.Expr.Name _ _) _) _ _ _); (k_dflt (first | (refine' nameX_L ?Fh9 ?vh9 ?_ ?ah9 ?bh9; (case Fh9 => k_asm); (case ah9 => rfl); (case bh9 => rfl); (case vh9 => rfl); k_whole) | (refine' nameX_K ?Fh9 ?Xh9 ?Th9 ?eh9 ?_ ?ah9 ?bh9; (case Fh9 => k_asm); (case Xh9 => k_asm); (case Th9 => k_asm); (case ah9 => rfl); (case bh9 => rfl); (case eh9 => k_is); k_whole) | (refine' nameX_B ?Fh9 ?Xh9 ?Th9 ?eh9 ?vh9 ?nh9 ?_ ?ah9 ?bh9; (case Fh9 => k_asm); (case Xh9 => k_asm); (case Th9 => k_asm); (case ah9 => rfl); (case bh9 => rfl); (case eh9 => k_is); (case vh9 => boot_fast); (case nh9 => decide); k_whole)))) | with_reducible ((with_reducible show wpAny _ _ (spliced _) _ _ _); (k_dflt (first | refine args_cons ?_ | (refine args_nil ?_; (try simp only [List.cons_append, List.nil_append]))))) | with_reducible ((with_reducible show wpAny _ _ (eval (PySem.Expr.ListComp _ _ _ _) _) _ _ _); ((rename Mk 1 => mk'z); refine Stop.mk ?_)) | walk1); (try dsimp only); (try ((with_reducible show wpAny _ _ _ _ _ ⟨_, _, _, _ + _, _⟩); refine anyToks ?_; intro _)); (repeat ((first | with_reducible rename (_ < _ ∧ _) => hhzz | with_reducible rename (_ ≠ _ ∧ _) => hhzz | with_reducible rename ((_ ≠ _ ∧ _) ∧ _) => hhzz); have := hhzz.1; have := hhzz.2; clear hhzz))) | (dsimp only; walk1) | (leave1; (try dsimp only)) | fail "no step"))
  refine Stop.out ?_
  refine lc_bytes l (fun c v => ∃ t, v = .str (st [c.toNat]) t) (by with_unfolding_all rfl) (by decide) rfl (by decide) rfl rfl ?_
  refine ld F rfl ?_
  refine Stop.out ⟨t, rfl, by rw [sizeLine_eq]; omega, ?_, ?_⟩
  · intro C a u s₃ m₃ E' ha hC hn hm hk
    have b₃ := b.keeps (Kp.trans F.keep hk)
    refine Ev.keeps (H := s₃.heap) (P := fun v => ∃ t, v = .str (st [a.toNat]) t) ?_ (Kp.refl _)
    refine Ev.callB (Ev.blt b₃ (by k_is) (by boot_fast) rfl rfl rfl rfl) (Ev.loc hn hm rfl rfl) ?_
    rintro v rfl
    have := a.toNat_lt
    exact (Ev.chr (by omega) (by omega)).imp fun v h => by simpa using h
  intro D h' tk' nn ys hk hD hobj hp
  have F' := F.keeps hk
  have N' := addNew F N hk hD hobj
  ((try dsimp only); (try k_fold); repeat' (first | (k_unfold; (try dsimp only)) | ((first | with_reducible ((with_reducible show wpAny _ _ (call (Value.ref 130) _) _ _ _); refine' useV (fun b => c_guess (by assumption) (by assumption) b) ?kF ?kN ?kX ?kT ?kh ?kd ?ku ?_; walk_at "ARGS"; intro t'z h'z tk'z F'z N'z) | with_reducible ((with_reducible show wpAny _ _ (call (Value.ref 66) _) _ _ _); refine' useV (fun b => c_lower_text (by assumption) (by assumption) b) ?kF ?kN ?kX ?kT ?kh ?kd ?ku ?_; walk_at "ARGS"; intro t'z h'z tk'z F'z N'z) | with_reducible ((with_reducible show wpAny _ _ (call (Value.ref 116) _) _ _ _); refine' useV (fun b => c_text_l (by assumption) (by assumption) b) ?kF ?kN ?kX ?kT ?kh ?kd ?ku ?_; walk_at "ARGS"; intro t'z h'z tk'z F'z N'z) | with_reducible ((with_reducible show wpAny _ _ (eval (PySem.Expr.Name _ _) _) _ _ _); (k_dflt (first | (refine' nameX_L ?Fh9 ?vh9 ?_ ?ah9 ?bh9; (case Fh9 => k_asm); (case ah9 => rfl); (case bh9 => rfl); (case vh9 => rfl); k_whole) | (refine' nameX_K ?Fh9 ?Xh9 ?Th9 ?eh9 ?_ ?ah9 ?bh9; (case Fh9 => k_asm); (case Xh9 => k_asm); (case Th9 => k_asm); (case ah9 => rfl); (case bh9 => rfl); (case eh9 => k_is); k_whole) | (refine' nameX_B ?Fh9 ?Xh9 ?Th9 ?eh9 ?vh9 ?nh9 ?_ ?ah9 ?bh9; (case Fh9 => k_asm); (case Xh9 => k_asm); (case Th9 => k_asm); (case ah9 => rfl); (case bh9 => rfl); (case eh9 => k_is); (case vh9 => boot_fast); (case nh9 => decide); k_whole)))) | with_reducible ((with_reducible show wpAny _ _ (spliced _) _ _ _); (k_dflt (first | refine args_cons ?_ | (refine args_nil ?_; (try simp only [List.cons_append, List.nil_append]))))) | with_reducible ((with_reducible show wpAny _ _ (eval (PySem.Expr.ListComp _ _ _ _) _) _ _ _); ((rename Mk 1 => mk'z); refine Stop.mk ?_)) | walk1); (try dsimp only); (try ((with_reducible show wpAny _ _ _ _ _ ⟨_, _, _, _ + _, _⟩); refine anyToks ?_; intro _)); (repeat ((first | with_reducible rename (_ < _ ∧ _) => hhzz | with_reducible rename (_ ≠ _ ∧ _) => hhzz | with_reducible rename ((_ ≠ _ ∧ _) ∧ _) => hhzz); have := hhzz.1; have := hhzz.2; clear hhzz))) | (dsimp only; walk1) | (leave1; (try dsimp only)) | fail "no step"))
  refine join_list (News.isList N' (.head _)) (paired_strs hp) ?_ ?_
  · rw [sum_ones, show (Str.ofString "").length = 0 from by decide +kernel]; omega
  intro t' k'
  have e : Txt.join (Str.ofString "") (l.map fun c => st [c.toNat]) = st (l.map UInt8.toNat) := join_map UInt8.toNat l
  rw [e]
  exact Done.ret F' ⟨_, rfl⟩

theorem byte_small (nm : List UInt8) : ∀ c ∈ nm.map UInt8.toNat, c ≤ 1000000 := by
  intro c hc
  obtain ⟨b, _, rfl⟩ := List.mem_map.mp hc
  have := b.toNat_lt; omega
/-- a field of the text's class: its name, its row of octets -/
noncomputable def FieldAt (P : Params) (h : Heap) (a : Addr) (nm rw : List UInt8) : Prop :=
  ∃ dx k1 k2 t1 t2 n, h.get? a = some (instObj 159 dx) ∧ h.get? dx = some (dictOf [⟨PyData.keyHash P (Str.ofString "name"), .str (Str.ofString "name") k1, .bytes nm.toArray t1⟩, ⟨PyData.keyHash P (Str.ofString "raw"), .str (Str.ofString "raw") k2, .bytes rw.toArray t2⟩] n)
theorem FieldAt.keeps {P : Params} {h h' : Heap} {a : Addr} {nm rw : List UInt8} (x : FieldAt P h a nm rw) (k : Kp h h') : FieldAt P h' a nm rw := by
  obtain ⟨dx, k1, k2, t1, t2, n, e1, e2⟩ := x
  exact ⟨dx, k1, k2, t1, t2, n, k _ _ e1, k _ _ e2⟩
theorem inst_fr {h₀ h : Heap} {L x C dx : Addr} {m : Str → Option Value} {od : Obj} (F : Fr h₀ L h m) (h1 : h₀.get? x = some (instObj C dx)) (h2 : h₀.get? dx = some od) :
    InstAt h x (instObj C dx) C (some od) := ⟨F.keep _ _ h1, rfl, rfl, F.keep _ _ h2⟩
local macro_rules | `(tactic| k_inst) => `(tactic| (refine' inst_fr ?F ?h1 ?h2; (case F => k_asm); (case h1 => k_asm); (case h2 => k_asm)))

theorem c_word {nm rw : List UInt8} {a : Addr} (hl : nm.length ≤ 1000000) (hf : FieldAt w.params s.heap a nm rw) (b : Bs w vw lo mean mg mb s.heap) : Cl w 3 s (call (.ref 149) [.ref a]) (fun r _ => ∃ t', r = .str (st ((nm.map UInt8.toNat).map lowN)) t') := by
  refine' enter (binds := [(Str.ofString "self", .ref a)]) b ?k6 ?k7 ?k9 ?kB ?c5 ?c2 ?c3 ?c4 ?_
  ((case k6 => k_is); (case k7 => k_is); (case k9 => exact rfl); (case kB => exact locs rfl); (case c5 => decide); (case c2 => exact rfl); (case c3 => exact rfl); (case c4 => exact rfl))
  intro dp un fr gd h₁ tk hd hu F X T N
  obtain ⟨dx, k1, k2, t1, t2, n, e1, e2⟩ := hf
  have mk1 := Mk.on 1
  ((try dsimp only); (try k_fold); repeat' (first | (k_unfold; (try dsimp only)) | ((first | with_reducible ((with_reducible show wpAny _ _ (call (Value.ref 130) _) _ _ _); refine' useV (fun b => c_guess (by assumption) (by assumption) b) ?kF ?kN ?kX ?kT ?kh ?kd ?ku ?_; walk_at "ARGS"; intro t'z h'z tk'z F'z N'z) | with_reducible ((with_reducible show wpAny _ _ (call (Value.ref 66) _) _ _ _); refine' useV (fun b => c_lower_text (by assumption) (by assumption) b) ?kF ?kN ?kX ?kT ?kh ?kd ?ku ?_; walk_at "ARGS"; intro t'z h'z tk'z F'z N'z) | with_reducible ((with_reducible show wpAny _ _ (call (Value.ref 116) _) _ _ _); refine' useV (fun b => c_text_l (by assumption) (by assumption) b) ?kF ?kN ?kX ?kT ?kh ?kd ?ku ?_; walk_at "ARGS"; intro t'z h'z tk'z F'z N'z) | with_reducible ((with_reducible show wpAny _ _ (eval (PySem.Expr.Name _ _) _) _ _ _); (k_dflt (first | (refine' nameX_L ?Fh9 ?vh9 ?_ ?ah9 ?bh9; (case Fh9 => k_asm); (case ah9 => rfl); (case bh9 => rfl); (case vh9 => rfl); k_whole) | (refine' nameX_K ?Fh9 ?Xh9 ?Th9 ?eh9 ?_ ?ah9 ?bh9; (case Fh9 => k_asm); (case Xh9 => k_asm); (case Th9 => k_asm); (case ah9 => rfl); (case bh9 => rfl); (case eh9 => k_is); k_whole) | (refine' nameX_B ?Fh9 ?Xh9 ?Th9 ?eh9 ?vh9 ?nh9 ?_ ?ah9 ?bh9; (case Fh9 => k_asm); (case Xh9 => k_asm); (case Th9 => k_asm); (case ah9 => rfl); (case bh9 => rfl); (case eh9 => k_is); (case vh9 => boot_fast); (case nh9 => decide); k_whole)))) | with_reducible ((with_reducible show wpAny _ _ (spliced _) _ _ _); (k_dflt (first | refine args_cons ?_ | (refine args_nil ?_; (try simp only [List.cons_append, List.nil_append]))))) | with_reducible ((with_reducible show wpAny _ _ (eval (PySem.Expr.ListComp _ _ _ _) _) _ _ _); ((rename Mk 1 => mk'z); refine Stop.mk ?_)) | walk1); (try dsimp only); (try ((with_reducible show wpAny _ _ _ _ _ ⟨_, _, _, _ + _, _⟩); refine anyToks ?_; intro _)); (repeat ((first | with_reducible rename (_ < _ ∧ _) => hhzz | with_reducible rename (_ ≠ _ ∧ _) => hhzz | with_reducible rename ((_ ≠ _ ∧ _) ∧ _) => hhzz); have := hhzz.1; have := hhzz.2; clear hhzz))) | (dsimp only; walk1) | (leave1; (try dsimp only)) | fail "no step"))
  refine Stop.out ?_
  refine lc_bytes nm (fun c v => ∃ t, v = .str (st [c.toNat]) t) (by with_unfolding_all rfl) (by decide) rfl (by decide) rfl rfl ?_
  ((try dsimp only); (try k_fold); repeat' (first | (k_unfold; (try dsimp only)) | ((first | with_reducible ((with_reducible show wpAny _ _ (call (Value.ref 130) _) _ _ _); refine' useV (fun b => c_guess (by assumption) (by assumption) b) ?kF ?kN ?kX ?kT ?kh ?kd ?ku ?_; walk_at "ARGS"; intro t'z h'z tk'z F'z N'z) | with_reducible ((with_reducible show wpAny _ _ (call (Value.ref 66) _) _ _ _); refine' useV (fun b => c_lower_text (by assumption) (by assumption) b) ?kF ?kN ?kX ?kT ?kh ?kd ?ku ?_; walk_at "ARGS"; intro t'z h'z tk'z F'z N'z) | with_reducible ((with_reducible show wpAny _ _ (call (Value.ref 116) _) _ _ _); refine' useV (fun b => c_text_l (by assumption) (by assumption) b) ?kF ?kN ?kX ?kT ?kh ?kd ?ku ?_; walk_at "ARGS"; intro t'z h'z tk'z F'z N'z) | with_reducible ((with_reducible show wpAny _ _ (eval (PySem.Expr.Name _ _) _) _ _ _); (k_dflt (first | (refine' nameX_L ?Fh9 ?vh9 ?_ ?ah9 ?bh9; (case Fh9 => k_asm); (case ah9 => rfl); (case bh9 => rfl); (case vh9 => rfl); k_whole) | (refine' nameX_K ?Fh9 ?Xh9 ?Th9 ?eh9 ?_ ?ah9 ?bh9; (case Fh9 => k_asm); (case Xh9 => k_asm); (case Th9 => k_asm); (case ah9 => rfl); (case bh9 => rfl); (case eh9 => k_is); k_whole) | (refine' nameX_B ?Fh9 ?Xh9 ?Th9 ?eh9 ?vh9 ?nh9 ?_ ?ah9 ?bh9; (case Fh9 => k_asm); (case Xh9 => k_asm); (case Th9 => k_asm); (case ah9 => rfl); (case bh9 => rfl); (case eh9 => k_is); (case vh9 => boot_fast); (case nh9 => decide); k_whole)))) | with_reducible ((with_reducible show wpAny _ _ (spliced _) _ _ _); (k_dflt (first | refine args_cons ?_ | (refine args_nil ?_; (try simp only [List.cons_append, List.nil_append]))))) | with_reducible ((with_reducible show wpAny _ _ (eval (PySem.Expr.ListComp _ _ _ _) _) _ _ _); ((rename Mk 1 => mk'z); refine Stop.mk ?_)) | walk1); (try dsimp only); (try ((with_reducible show wpAny _ _ _ _ _ ⟨_, _, _, _ + _, _⟩); refine anyToks ?_; intro _)); (repeat ((first | with_reducible rename (_ < _ ∧ _) => hhzz | with_reducible rename (_ ≠ _ ∧ _) => hhzz | with_reducible rename ((_ ≠ _ ∧ _) ∧ _) => hhzz); have := hhzz.1; have := hhzz.2; clear hhzz))) | (dsimp only; walk1) | (leave1; (try dsimp only)) | fail "no step"))
  refine Stop.out ⟨t1, rfl, by rw [sizeLine_eq]; omega, ?_, ?_⟩
  · intro C a u s₃ m₃ E' ha hC hn hm hk
    have b₃ := b.keeps (Kp.trans F.keep hk)
    refine Ev.keeps (H := s₃.heap) (P := fun v => ∃ t, v = .str (st [a.toNat]) t) ?_ (Kp.refl _)
    refine Ev.callB (Ev.blt b₃ (by k_is) (by boot_fast) rfl rfl rfl rfl) (Ev.loc hn hm rfl rfl) ?_
    rintro v rfl
    have := a.toNat_lt
    exact (Ev.chr (by omega) (by omega)).imp fun v h => by simpa using h
  intro D h' tk' nn ys hk hD hobj hp
  have F' := F.keeps hk
  have N' := addNew F N hk hD hobj
  ((try dsimp only); (try k_fold); repeat' (first | (k_unfold; (try dsimp only)) | ((first | with_reducible ((with_reducible show wpAny _ _ (call (Value.ref 130) _) _ _ _); refine' useV (fun b => c_guess (by assumption) (by assumption) b) ?kF ?kN ?kX ?kT ?kh ?kd ?ku ?_; walk_at "ARGS"; intro t'z h'z tk'z F'z N'z) | with_reducible ((with_reducible show wpAny _ _ (call (Value.ref 66) _) _ _ _); refine' useV (fun b => c_lower_text (by assumption) (by assumption) b) ?kF ?kN ?kX ?kT ?kh ?kd ?ku ?_; walk_at "ARGS"; intro t'z h'z tk'z F'z N'z) | with_reducible ((with_reducible show wpAny _ _ (call (Value.ref 116) _) _ _ _); refine' useV (fun b => c_text_l (by assumption) (by assumption) b) ?kF ?kN ?kX ?kT ?kh ?kd ?ku ?_; walk_at "ARGS"; intro t'z h'z tk'z F'z N'z) | with_reducible ((with_reducible show wpAny _ _ (eval (PySem.Expr.Name _ _) _) _ _ _); (k_dflt (first | (refine' nameX_L ?Fh9 ?vh9 ?_ ?ah9 ?bh9; (case Fh9 => k_asm); (case ah9 => rfl); (case bh9 => rfl); (case vh9 => rfl); k_whole) | (refine' nameX_K ?Fh9 ?Xh9 ?Th9 ?eh9 ?_ ?ah9 ?bh9; (case Fh9 => k_asm); (case Xh9 => k_asm); (case Th9 => k_asm); (case ah9 => rfl); (case bh9 => rfl); (case eh9 => k_is); k_whole) | (refine' nameX_B ?Fh9 ?Xh9 ?Th9 ?eh9 ?vh9 ?nh9 ?_ ?ah9 ?bh9; (case Fh9 => k_asm); (case Xh9 => k_asm); (case Th9 => k_asm); (case ah9 => rfl); (case bh9 => rfl); (case eh9 => k_is); (case vh9 => boot_fast); (case nh9 => decide); k_whole)))) | with_reducible ((with_reducible show wpAny _ _ (spliced _) _ _ _); (k_dflt (first | refine args_cons ?_ | (refine args_nil ?_; (try simp only [List.cons_append, List.nil_append]))))) | with_reducible ((with_reducible show wpAny _ _ (eval (PySem.Expr.ListComp _ _ _ _) _) _ _ _); ((rename Mk 1 => mk'z); refine Stop.mk ?_)) | walk1); (try dsimp only); (try ((with_reducible show wpAny _ _ _ _ _ ⟨_, _, _, _ + _, _⟩); refine anyToks ?_; intro _)); (repeat ((first | with_reducible rename (_ < _ ∧ _) => hhzz | with_reducible rename (_ ≠ _ ∧ _) => hhzz | with_reducible rename ((_ ≠ _ ∧ _) ∧ _) => hhzz); have := hhzz.1; have := hhzz.2; clear hhzz))) | (dsimp only; walk1) | (leave1; (try dsimp only)) | fail "no step"))
  refine join_list (News.isList N' (.head _)) (paired_strs hp) ?_ ?_
  · rw [sum_ones, show (Str.ofString "").length = 0 from by decide +kernel]; omega
  intro t' k'
  have e : Txt.join (Str.ofString "") (nm.map fun c => st [c.toNat]) = st (nm.map UInt8.toNat) := join_map UInt8.toNat nm
  rw [e]
  have hs1 : ∀ c ∈ nm.map UInt8.toNat, c ≤ 1000000 := byte_small nm
  have hs2 : (nm.map UInt8.toNat).length ≤ 1000000 := by simpa using hl
  ((try dsimp only); (try k_fold); repeat' (first | (k_unfold; (try dsimp only)) | ((first | with_reducible ((with_reducible show wpAny _ _ (call (Value.ref 130) _) _ _ _); refine' useV (fun b => c_guess (by assumption) (by assumption) b) ?kF ?kN ?kX ?kT ?kh ?kd ?ku ?_; walk_at "ARGS"; intro t'z h'z tk'z F'z N'z) | with_reducible ((with_reducible show wpAny _ _ (call (Value.ref 66) _) _ _ _); refine' useV (fun b => c_lower_text (by assumption) (by assumption) b) ?kF ?kN ?kX ?kT ?kh ?kd ?ku ?_; walk_at "ARGS"; intro t'z h'z tk'z F'z N'z) | with_reducible ((with_reducible show wpAny _ _ (call (Value.ref 116) _) _ _ _); refine' useV (fun b => c_text_l (by assumption) (by assumption) b) ?kF ?kN ?kX ?kT ?kh ?kd ?ku ?_; walk_at "ARGS"; intro t'z h'z tk'z F'z N'z) | with_reducible ((with_reducible show wpAny _ _ (eval (PySem.Expr.Name _ _) _) _ _ _); (k_dflt (first | (refine' nameX_L ?Fh9 ?vh9 ?_ ?ah9 ?bh9; (case Fh9 => k_asm); (case ah9 => rfl); (case bh9 => rfl); (case vh9 => rfl); k_whole) | (refine' nameX_K ?Fh9 ?Xh9 ?Th9 ?eh9 ?_ ?ah9 ?bh9; (case Fh9 => k_asm); (case Xh9 => k_asm); (case Th9 => k_asm); (case ah9 => rfl); (case bh9 => rfl); (case eh9 => k_is); k_whole) | (refine' nameX_B ?Fh9 ?Xh9 ?Th9 ?eh9 ?vh9 ?nh9 ?_ ?ah9 ?bh9; (case Fh9 => k_asm); (case Xh9 => k_asm); (case Th9 => k_asm); (case ah9 => rfl); (case bh9 => rfl); (case eh9 => k_is); (case vh9 => boot_fast); (case nh9 => decide); k_whole)))) | with_reducible ((with_reducible show wpAny _ _ (spliced _) _ _ _); (k_dflt (first | refine args_cons ?_ | (refine args_nil ?_; (try simp only [List.cons_append, List.nil_append]))))) | with_reducible ((with_reducible show wpAny _ _ (eval (PySem.Expr.ListComp _ _ _ _) _) _ _ _); ((rename Mk 1 => mk'z); refine Stop.mk ?_)) | walk1); (try dsimp only); (try ((with_reducible show wpAny _ _ _ _ _ ⟨_, _, _, _ + _, _⟩); refine anyToks ?_; intro _)); (repeat ((first | with_reducible rename (_ < _ ∧ _) => hhzz | with_reducible rename (_ ≠ _ ∧ _) => hhzz | with_reducible rename ((_ ≠ _ ∧ _) ∧ _) => hhzz); have := hhzz.1; have := hhzz.2; clear hhzz))) | (dsimp only; walk1) | (leave1; (try dsimp only)) | fail "no step"))
  exact Done.ret (by k_asm) ⟨_, rfl⟩
end
local macro_rules | `(tactic| k_inst) => `(tactic| (refine' inst_fr ?F ?h1 ?h2; (case F => k_asm); (case h1 => k_asm); (case h2 => k_asm)))

section
open PySem.Builtin PySem.Builtin.Bytes
set_option maxRecDepth 100000

theorem slot_bfind : Slot "bytes" "find" "bytes.find" :=
  .of (owner := "bytes") (n := "find") (by rw [typeLookup_type, builtinLookup_eq_fast]; kernel_rfl) (by decide +kernel) (by decide +kernel) (by decide +kernel)
    (by first | exact .inl (by decide +kernel) | exact .inr (by decide +kernel)) (by rw [isSubtype_type]; kernel_rfl)
theorem type_bfind : typeOf (.builtin "bytes.find") = pure (.type "method_descriptor") := by show builtinType _ = _; rw [builtinType_eq_fast]; kernel_rfl
theorem entry_bfind : entryFor table "bytes.find" = some Builtin.«bytes.find» := entryFor_of_tree (by kernel_rfl)
theorem args_bfind (a b c d : Value) : argsOk "bytes.find" ⟨[a, b, c, d], []⟩ := by unfold argsOk; kernel_rfl
theorem slot_bstrip : Slot "bytes" "strip" "bytes.strip" :=
  .of (owner := "bytes") (n := "strip") (by rw [typeLookup_type, builtinLookup_eq_fast]; kernel_rfl) (by decide +kernel) (by decide +kernel) (by decide +kernel)
    (by first | exact .inl (by decide +kernel) | exact .inr (by decide +kernel)) (by rw [isSubtype_type]; kernel_rfl)
theorem type_bstrip : typeOf (.builtin "bytes.strip") = pure (.type "method_descriptor") := by show builtinType _ = _; rw [builtinType_eq_fast]; kernel_rfl
theorem entry_bstrip : entryFor table "bytes.strip" = some Builtin.«bytes.strip» := entryFor_of_tree (by kernel_rfl)
theorem args_bstrip (a b : Value) : argsOk "bytes.strip" ⟨[a, b], []⟩ := by unfold argsOk; kernel_rfl
theorem slot_bjoin : Slot "bytes" "join" "bytes.join" :=
  .of (owner := "bytes") (n := "join") (by rw [typeLookup_type, builtinLookup_eq_fast]; kernel_rfl) (by decide +kernel) (by decide +kernel) (by decide +kernel)
    (by first | exact .inl (by decide +kernel) | exact .inr (by decide +kernel)) (by rw [isSubtype_type]; kernel_rfl)
theorem type_bjoin : typeOf (.builtin "bytes.join") = pure (.type "method_descriptor") := by show builtinType _ = _; rw [builtinType_eq_fast]; kernel_rfl
theorem entry_bjoin : entryFor table "bytes.join" = some Builtin.«bytes.join» := entryFor_of_tree (by kernel_rfl)
theorem args_bjoin (a b : Value) : argsOk "bytes.join" ⟨[a, b], []⟩ := by unfold argsOk; kernel_rfl

theorem bmethod {prog : Program} {w : World} {A : Around} {E : Value → Shared → Prop} {s : Shared} {b : Array UInt8} {t : Tok} {name : Str} {id : String} {pl : Sem Bool} {Q : Value × List Value → Shared → Prop} (slot : Slot "bytes" name id) (ty : typeOf (.builtin id) = pure (.type "method_descriptor"))
    (h : Q (.builtin id, [.bytes b t]) s) : wpAny (model prog w) A (getMethod (.bytes b t) name pl) Q E s :=
  KBd.method_of (.bytes b t) (typeIs_bytes _ _ _) slot ty KBd.noRef h

noncomputable def findF (x sub : Array UInt8) (i j : Int) : Option Nat :=
  (if (window x.size (some i) (some j)).2 - (window x.size (some i) (some j)).1 < sub.size then none else some ((window x.size (some i) (some j)).1.toNat, (window x.size (some i) (some j)).2.toNat)).bind fun p => find? x sub p.1 p.2
noncomputable def findI (x sub : Array UInt8) (i j : Int) : Int := match findF x sub i j with | some k => k | none => -1

theorem bound_int {prog : Program} {w : World} {A : Around} {E : Value → Shared → Prop} {s : Shared} {i : Int} {u : Tok} {Q : Option Int → Shared → Prop} (h : Q (some i) s) : wpAny (model prog w) A (bound? (some (.int i u))) Q E s := by
  unfold bound?
  refine wpAny_bind (wpAny_specialOf (T := "int") (typeIs_int _ _ _) F.slot_int_index.lookup ?_)
  refine wpAny_ite (KBy.ite_no (show ¬ (Option.isNone (some _) = true) from Bool.false_ne_true) ?_)
  exact wpAny_bind (wpAny_of_eq rfl (wpAny_pure h))

theorem meets_find {x sub : Array UInt8} {i j : Int} {t t2 u v : Tok} : Meets («bytes.find» ⟨[.bytes x t, .bytes sub t2, .int i u, .int j v], []⟩) (fun _ R s => R (.ok (.ret (.int (findI x sub i j) s.toks))) { s with toks := s.toks + 1 }) := by
  refine .of_wp fun prog w A R s h => ?_
  show wpAny _ _ (searchM .bytes "find" false false _) _ _ s
  unfold searchM searchArgs
  refine wpAny_bind (wpAny_bind (wpAny_pure ?_))
  refine wpAny_bind (bound_int ?_)
  refine wpAny_bind (bound_int ?_)
  refine wpAny_bind (wpAny_of_eq KBy.buffer_eq ?_)
  refine wpAny_bind (wpAny_pure ?_)
  refine wpAny_bind (wpAny_of_eq (a := x) rfl ?_)
  refine wpAny_pure ?_
  have e : (match (if (window x.size (some i) (some j)).2 - (window x.size (some i) (some j)).1 < sub.size then none else some ((window x.size (some i) (some j)).1.toNat, (window x.size (some i) (some j)).2.toNat)).bind (fun p : Nat × Nat => if false = true then rfind? x sub p.1 p.2 else find? x sub p.1 p.2) with
      | some k => (k : Int)
      | none => -1) = findI x sub i j := rfl
  show wpAny _ _ (match (if (window x.size (some i) (some j)).2 - (window x.size (some i) (some j)).1 < sub.size then none else some ((window x.size (some i) (some j)).1.toNat, (window x.size (some i) (some j)).2.toNat)).bind (fun p : Nat × Nat => if false = true then rfind? x sub p.1 p.2 else find? x sub p.1 p.2) with
      | some k => retInt k
      | none => _) _ _ _
  revert e
  cases (if (window x.size (some i) (some j)).2 - (window x.size (some i) (some j)).1 < sub.size then none else some ((window x.size (some i) (some j)).1.toNat, (window x.size (some i) (some j)).2.toNat)).bind (fun p : Nat × Nat => if false = true then rfind? x sub p.1 p.2 else find? x sub p.1 p.2) with
  | some k =>
    intro e
    dsimp only at e ⊢
    rw [← e] at h
    exact wpAny_bind (wpAny_mkInt (wpAny_pure ⟨_, rfl, h⟩))
  | none =>
    intro e
    dsimp only at e ⊢
    rw [← e] at h
    refine wpAny_bind (wpAny_rule ?_)
    exact wpAny_bind (wpAny_mkInt (wpAny_pure ⟨_, rfl, h⟩))

theorem bfind {prog : Program} {w : World} {A : Around} {E : Value → Shared → Prop} {s : Shared} {x sub : Array UInt8} {i j r : Int} {t t2 u v : Tok} {Q : Value → Shared → Prop} (e : findI x sub i j = r) (h : ∀ t' k, Q (.int r t') { s with toks := k }) :
    wpAny (model prog w) A (call (.builtin "bytes.find") [.bytes x t, .bytes sub t2, .int i u, .int j v]) Q E s := by
  subst e
  exact call_meets slot_bfind (typeIs_bytes _ _ _) entry_bfind (args_bfind _ _ _ _) meets_find (h _ _)

noncomputable def stripL (d x : List UInt8) : List UInt8 := ((x.dropWhile d.contains).reverse.dropWhile d.contains).reverse
theorem meets_strip {x d : List UInt8} {t t2 : Tok} : Meets («bytes.strip» ⟨[.bytes x.toArray t, .bytes d.toArray t2], []⟩) (fun _ R s => x.length ≤ 1000000 ∧ ∀ t' k, R (.ok (.ret (.bytes (stripL d x).toArray t'))) { s with toks := k }) := by
  refine .of_wp fun prog w A R s hS => ?_
  obtain ⟨hx, h⟩ := hS
  show wpAny _ _ (stripM .bytes "strip" true true _) _ _ s
  unfold stripM
  refine wpAny_bind (wpAny_pure ?_)
  have e1 : (d.toArray.contains : UInt8 → Bool) = d.contains := by funext c; simp
  have hsub : (stripL d x).Sublist x := by
    unfold stripL
    refine List.Sublist.trans ?_ (List.dropWhile_sublist d.contains)
    have := (List.dropWhile_sublist d.contains (l := (x.dropWhile d.contains).reverse)).reverse
    simpa using this
  refine wpAny_bind (wpAny_of_eq KBd.like_eq ?_)
  refine wpAny_bind (wpAny_pure ?_)
  refine wpAny_bind (wpAny_of_eq (a := x.toArray) rfl ?_)
  show wpAny _ _ (if (((List.dropWhile d.toArray.contains (List.dropWhile d.toArray.contains x.toArray.toList).reverse).reverse).length == x.toArray.size) = true then _ else _) _ _ _
  rw [e1]
  show wpAny _ _ (if ((stripL d x).length == x.toArray.size) = true then _ else _) _ _ _
  by_cases hc : ((stripL d x).length == x.toArray.size) = true
  · rw [if_pos hc]
    have e2 : stripL d x = x := hsub.eq_of_length (by simpa using hc)
    rw [e2] at h
    refine wpAny_bind (wpAny_rule ?_)
    refine wpAny_bind (wpAny_bind (wpAny_typeOf (typeIs_bytes s _ _) ?_))
    exact wpAny_pure (wpAny_pure ⟨_, rfl, h _ _⟩)
  · rw [if_neg hc]
    have hl := hsub.length_le
    refine wpAny_bind (wpAny_mkBytes (wpAny_pure ⟨_, rfl, h _ _⟩) ?_)
    show (stripL d x).toArray.size ≤ _
    rw [sizeLine_eq, List.size_toArray]; omega

theorem bstrip {prog : Program} {w : World} {A : Around} {E : Value → Shared → Prop} {s : Shared} {x d : List UInt8} {t t2 : Tok} {Q : Value → Shared → Prop} (hx : x.length ≤ 1000000) (h : ∀ t' k, Q (.bytes (stripL d x).toArray t') { s with toks := k }) :
    wpAny (model prog w) A (call (.builtin "bytes.strip") [.bytes x.toArray t, .bytes d.toArray t2]) Q E s :=
  call_meets slot_bstrip (typeIs_bytes _ _ _) entry_bstrip (args_bstrip _ _) meets_strip ⟨hx, h⟩

/-- values that are rows of octets -/
inductive BytesAre : List Value → List (List UInt8) → Prop
  | nil : BytesAre [] []
  | cons (y : List UInt8) (t : Tok) {vs ys} : BytesAre vs ys → BytesAre (.bytes y.toArray t :: vs) (y :: ys)

theorem BytesAre.len : ∀ {vs : List Value} {ys : List (List UInt8)}, BytesAre vs ys → vs.length = ys.length
  | _, _, .nil => rfl
  | _, _, .cons _ _ r => by simp [r.len]
theorem BytesAre.get : ∀ {vs : List Value} {ys : List (List UInt8)}, BytesAre vs ys → ∀ (i : Nat) (h : i < ys.length), ∃ t, vs[i]? = some (.bytes ys[i].toArray t)
  | _, _, .cons y t r, 0, h => ⟨t, rfl⟩
  | _, _, .cons y t r, i + 1, h => by
    obtain ⟨u, e⟩ := r.get i (by simpa using h)
    exact ⟨u, by simpa using e⟩

theorem take_eq {id : String} {b : Array UInt8} {t : Tok} : takeBufferQuiet? id (.bytes b t) 0 = pure (some (b, none)) := by
  unfold takeBufferQuiet? takeBuffer?
  rw [KBy.special_eq KBy.look_buffer, KBy.own_buffer]
  simp only [pure_bind]
  have e : buffer? id (.bytes b t) (0 == fullReadOnly) = pure (some b) := by
    unfold Bytes.buffer?
    rw [KBy.special_eq KBy.look_buffer, KBy.own_buffer, KBy.own_release]
    kernel_rfl
  rw [e]
  rfl

theorem letGo_all {M : Model} {A : Around} {E : Value → Shared → Prop} {s : Shared} {keep : List Value} {Q : Unit → Shared → Prop} : ∀ (taken : List (Value × Option Value)), (∀ p ∈ taken, p.2 = none) → Q () s → wpAny M A (joinLetGo taken keep) Q E s
  | [], _, h => wpAny_pure h
  | (x, w) :: rest, hn, h => by
    have : w = none := hn (x, w) (.head _)
    subst this
    unfold joinLetGo
    exact wpAny_bind (wpAny_letGo (letGo_all rest (fun p hp => hn p (.tail _ hp)) h))

theorem joined_go (l : List (List UInt8)) : ∀ (k : Nat) (out : Array UInt8), ((l.map List.toArray).zipIdx k).foldl (fun (out : Array UInt8) (q : Array UInt8 × Nat) => (if q.2 > 0 then out ++ (#[] : Array UInt8) else out) ++ q.1) out = out ++ l.flatten.toArray := by
  induction l with
  | nil => intro k out; simp
  | cons a r ih =>
    intro k out
    simp only [List.map_cons, List.zipIdx_cons, List.foldl_cons]
    rw [ih]
    simp
theorem joined_flat (l : List (List UInt8)) : joined #[] (l.map List.toArray) = l.flatten.toArray := by
  have := joined_go l 0 #[]
  simpa [joined] using this
theorem sizes_go (l : List (List UInt8)) : ∀ n : Nat, Array.foldl (fun a (b : Array UInt8) => a + b.size) n (l.map List.toArray).toArray = n + l.flatten.length := by
  induction l with
  | nil => intro n; simp
  | cons a r ih =>
    intro n
    simp only [List.map_cons, List.foldl_toArray', List.foldl_cons, List.flatten_cons, List.length_append] at ih ⊢
    have := ih (n + a.toArray.size)
    simp at this ⊢
    omega

theorem meets_join {D : Addr} {items : Array Value} {ys : List (List UInt8)} {t : Tok} : Meets («bytes.join» ⟨[.bytes #[] t, .ref D], []⟩) (fun _ R s => s.heap.IsList D items ∧ BytesAre items.toList ys ∧ ys.flatten.length ≤ 1000000 ∧ ∀ t' k, R (.ok (.ret (.bytes ys.flatten.toArray t'))) { s with toks := k }) := by
  refine .of_wp fun prog w A R s hS => ?_
  obtain ⟨⟨o, ho, hcls, n, hd⟩, hi, hz, h⟩ := hS
  have hlen : items.size = ys.length := by have := hi.len; simpa using this
  show wpAny _ _ (joinM .bytes _) _ _ s
  unfold joinM
  refine wpAny_bind (wpAny_pure ?_)
  refine wpAny_bind ?_
  unfold joinItems
  refine wpAny_bind (wpAny_typeOf (T := "list") ⟨o, ho, hcls⟩ ?_)
  refine wpAny_pure ?_
  refine wpAny_bind (wpAny_seqItems ho hd ?_)
  dsimp only
  rw [if_pos (show (Kind.bytes == Kind.bytes) = true from rfl)]
  obtain ⟨l⟩ := items
  rcases l with _ | ⟨a, _ | ⟨b, l⟩⟩
  · refine wpAny_bind ?_
    rw [Std.Legacy.Range.forIn_eq_forIn_range']
    generalize hit : ((⟨[]⟩ : Array Value)) = items at *
    refine wpAny_forIn_list _ (fun rest b s' => ∃ i, rest = List.range' i (items.size - i) ∧ i ≤ items.size ∧ s' = s ∧ b.1 = ((ys.take i).map List.toArray).toArray ∧ ∀ p ∈ b.2, p.2 = none ∧ p.1.onHeap = false) _ ?_ ?_ _ _ ?_
    · rintro x rest ⟨b1, b2⟩ s' ⟨i, hr, hi1, rfl, hb1, hb2⟩
      dsimp only at hb1 hb2
      cases hk : items.size - i with
      | zero => rw [hk] at hr; cases hr
      | succ k =>
        rw [hk, List.range'_succ] at hr
        injection hr with e1 e2
        subst e1 e2
        have hlt : x < ys.length := by omega
        obtain ⟨u, hu⟩ := hi.get x hlt
        have hx : items.getD x .none = .bytes ys[x].toArray u := by
          rw [Array.getD_eq_getD_getElem?, ← Array.getElem?_toList, hu]; rfl
        refine wpAny_bind (wpAny_seqItems ho hd ?_)
        have hno : ((Kind.bytes == Kind.bytearray) || b2.any fun x => x.1.onHeap) = false := by
          rw [Bool.or_eq_false_iff]
          refine ⟨rfl, ?_⟩
          rw [List.any_eq_false]
          intro p hp
          rw [(hb2 p hp).2]; exact Bool.false_ne_true
        refine wpAny_ite (KBy.ite_no (ne_true_of_eq_false hno) ?_)
        rw [hx]
        refine wpAny_bind (wpAny_holding (wpAny_of_eq take_eq ?_))
        refine wpAny_bind (wpAny_seqItems ho hd ?_)
        refine wpAny_ite (KBy.ite_no (by simp) ?_)
        refine wpAny_pure ⟨x + 1, by rw [show items.size - (x + 1) = k from by omega], by omega, rfl, ?_, ?_⟩
        · rw [hb1, List.take_add_one, List.getElem?_eq_getElem hlt, List.map_append]
          exact List.push_toArray _ _
        · intro p hp
          rcases List.mem_append.mp hp with hp | hp
          · exact hb2 p hp
          · rw [List.mem_singleton.mp hp]; exact ⟨rfl, rfl⟩
    · rintro ⟨b1, b2⟩ s' ⟨i, hr, hi1, rfl, hb1, hb2⟩
      dsimp only at hb1 hb2
      have hin : i = ys.length := by
        have := congrArg List.length hr
        simp at this
        omega
      rw [hin, List.take_length] at hb1
      subst hb1
      have hsz : Array.foldl (fun a (b : Array UInt8) => a + b.size) 0 (ys.map List.toArray).toArray = ys.flatten.length := by rw [sizes_go, Nat.zero_add]
      have hj : joined #[] (ys.map List.toArray).toArray.toList = ys.flatten.toArray := joined_flat ys
      refine wpAny_bind (wpAny_of_eq (a := (#[] : Array UInt8)) rfl ?_)
      refine wpAny_ite (KBy.ite_no ?_ ?_)
      · refine ne_true_of_eq_false (KBy.tooLong_not ?_)
        show Array.foldl (fun a (b : Array UInt8) => a + b.size) (0 * _) (ys.map List.toArray).toArray ≤ _
        rw [Nat.zero_mul, hsz]; omega
      · show wpAny _ _ (Kind.bytes.new (joined #[] (ys.map List.toArray).toArray.toList) >>= _) _ _ _
        rw [hj]
        refine wpAny_bind (wpAny_mkBytes ?_ (by rw [sizeLine_eq, List.size_toArray]; omega))
        refine wpAny_bind (wpAny_holding (wpAny_point ?_))
        refine wpAny_bind (letGo_all b2 (fun p hp => (hb2 p hp).1) ?_)
        exact wpAny_pure ⟨_, rfl, h _ _⟩
    · refine ⟨0, ?_, Nat.zero_le _, rfl, rfl, fun p hp => (nomatch hp)⟩
      simp [Std.Legacy.Range.size]
  · cases hi with
    | cons y u r =>
      cases r
      simp only [List.flatten_cons, List.flatten_nil, List.append_nil] at h
      refine wpAny_bind (wpAny_typeOf (typeIs_bytes s _ _) ?_)
      refine wpAny_bind (wpAny_rule ?_)
      exact wpAny_pure ⟨_, rfl, h _ _⟩
  · refine wpAny_bind ?_
    rw [Std.Legacy.Range.forIn_eq_forIn_range']
    generalize hit : ((⟨a :: b :: l⟩ : Array Value)) = items at *
    refine wpAny_forIn_list _ (fun rest b s' => ∃ i, rest = List.range' i (items.size - i) ∧ i ≤ items.size ∧ s' = s ∧ b.1 = ((ys.take i).map List.toArray).toArray ∧ ∀ p ∈ b.2, p.2 = none ∧ p.1.onHeap = false) _ ?_ ?_ _ _ ?_
    · rintro x rest ⟨b1, b2⟩ s' ⟨i, hr, hi1, rfl, hb1, hb2⟩
      dsimp only at hb1 hb2
      cases hk : items.size - i with
      | zero => rw [hk] at hr; cases hr
      | succ k =>
        rw [hk, List.range'_succ] at hr
        injection hr with e1 e2
        subst e1 e2
        have hlt : x < ys.length := by omega
        obtain ⟨u, hu⟩ := hi.get x hlt
        have hx : items.getD x .none = .bytes ys[x].toArray u := by
          rw [Array.getD_eq_getD_getElem?, ← Array.getElem?_toList, hu]; rfl
        refine wpAny_bind (wpAny_seqItems ho hd ?_)
        have hno : ((Kind.bytes == Kind.bytearray) || b2.any fun x => x.1.onHeap) = false := by
          rw [Bool.or_eq_false_iff]
          refine ⟨rfl, ?_⟩
          rw [List.any_eq_false]
          intro p hp
          rw [(hb2 p hp).2]; exact Bool.false_ne_true
        refine wpAny_ite (KBy.ite_no (ne_true_of_eq_false hno) ?_)
        rw [hx]
        refine wpAny_bind (wpAny_holding (wpAny_of_eq take_eq ?_))
        refine wpAny_bind (wpAny_seqItems ho hd ?_)
        refine wpAny_ite (KBy.ite_no (by simp) ?_)
        refine wpAny_pure ⟨x + 1, by rw [show items.size - (x + 1) = k from by omega], by omega, rfl, ?_, ?_⟩
        · rw [hb1, List.take_add_one, List.getElem?_eq_getElem hlt, List.map_append]
          exact List.push_toArray _ _
        · intro p hp
          rcases List.mem_append.mp hp with hp | hp
          · exact hb2 p hp
          · rw [List.mem_singleton.mp hp]; exact ⟨rfl, rfl⟩
    · rintro ⟨b1, b2⟩ s' ⟨i, hr, hi1, rfl, hb1, hb2⟩
      dsimp only at hb1 hb2
      have hin : i = ys.length := by
        have := congrArg List.length hr
        simp at this
        omega
      rw [hin, List.take_length] at hb1
      subst hb1
      have hsz : Array.foldl (fun a (b : Array UInt8) => a + b.size) 0 (ys.map List.toArray).toArray = ys.flatten.length := by rw [sizes_go, Nat.zero_add]
      have hj : joined #[] (ys.map List.toArray).toArray.toList = ys.flatten.toArray := joined_flat ys
      refine wpAny_bind (wpAny_of_eq (a := (#[] : Array UInt8)) rfl ?_)
      refine wpAny_ite (KBy.ite_no ?_ ?_)
      · refine ne_true_of_eq_false (KBy.tooLong_not ?_)
        show Array.foldl (fun a (b : Array UInt8) => a + b.size) (0 * _) (ys.map List.toArray).toArray ≤ _
        rw [Nat.zero_mul, hsz]; omega
      · show wpAny _ _ (Kind.bytes.new (joined #[] (ys.map List.toArray).toArray.toList) >>= _) _ _ _
        rw [hj]
        refine wpAny_bind (wpAny_mkBytes ?_ (by rw [sizeLine_eq, List.size_toArray]; omega))
        refine wpAny_bind (wpAny_holding (wpAny_point ?_))
        refine wpAny_bind (letGo_all b2 (fun p hp => (hb2 p hp).1) ?_)
        exact wpAny_pure ⟨_, rfl, h _ _⟩
    · refine ⟨0, ?_, Nat.zero_le _, rfl, rfl, fun p hp => (nomatch hp)⟩
      simp [Std.Legacy.Range.size]

theorem bjoin {prog : Program} {w : World} {A : Around} {E : Value → Shared → Prop} {s : Shared} {D : Addr} {items : Array Value} {ys : List (List UInt8)} {t : Tok} {Q : Value → Shared → Prop} (hl : s.heap.IsList D items) (hi : BytesAre items.toList ys) (hz : ys.flatten.length ≤ 1000000) (h : ∀ t' k, Q (.bytes ys.flatten.toArray t') { s with toks := k }) :
    wpAny (model prog w) A (call (.builtin "bytes.join") [.bytes #[] t, .ref D]) Q E s :=
  call_meets slot_bjoin (typeIs_bytes _ _ _) entry_bjoin (args_bjoin _ _) meets_join ⟨hl, hi, hz, h⟩
end

section
open PySem.Builtin PySem.Builtin.Bytes
noncomputable def cutB (x : List UInt8) (lo hi : Option Int) : List UInt8 := (x.drop (lo.elim 0 (clipAt x.length))).take (hi.elim x.length (clipAt x.length) - lo.elim 0 (clipAt x.length))
theorem cutB_eq {x : List UInt8} {i j : Nat} (h1 : i ≤ x.length) (h2 : j ≤ x.length) : cutB x (some (i : Int)) (some (j : Int)) = (x.drop i).take (j - i) := by
  unfold cutB
  simp only [Option.elim, clipAt_nat]
  rw [Nat.min_eq_left h1, Nat.min_eq_left h2]
theorem cutB_from {x : List UInt8} {i : Nat} (h1 : i ≤ x.length) : cutB x (some (i : Int)) none = x.drop i := by
  unfold cutB
  simp only [Option.elim, clipAt_nat]
  rw [Nat.min_eq_left h1]
  exact List.take_of_length_le (by simp)
variable {prog : Program} {w : World} {A : Around} {E : Value → Shared → Prop} {s : Shared} {value slice : PySem.Expr} {x y : List UInt8} {t : Tok} {h₀ : Heap} {L : Addr} {m : PySem.Str → Option Value} {news : List (Addr × Obj)} {l u : Value} {lo hi : Option Int} {Q : Value → Shared → Prop}
theorem bcut (hF : Fr h₀ L s.heap m) (hN : News h₀ L s.heap news) (hl : IsPart l lo) (hu : IsPart u hi) (hz : x.length ≤ 1000000) (e : cutB x lo hi = y)
    (h : ∀ h' t' k, Fr h₀ L h' m → News h₀ L h' news → Q (.bytes y.toArray t') { s with heap := h', toks := k })
    (hs : subscripted slice false (.bytes x.toArray t) (.ref s.heap.objs.size) = operate [.ref s.heap.objs.size, .bytes x.toArray t] (getItem (.bytes x.toArray t) (.ref s.heap.objs.size)) := by with_unfolding_all rfl)
    (ht : ∀ r, letTemporaryGo value (.bytes x.toArray t) r = pure () := by intro _; with_unfolding_all rfl) :
    wpAny (model prog w) A (subscriptTail value slice (.bytes x.toArray t) (.ref s.heap.objs.size)) Q E { s with heap := s.heap.push { cls := .type "slice", data := .fields #[l, u, .none] } } := by
  have ep : KBy.picked x.toArray lo hi = y.toArray := by
    rw [KBc.picked_eq, ← e]
    show ((x.drop (lo.elim 0 (clipAt x.toArray.size))).take (hi.elim x.toArray.size (clipAt x.toArray.size) - lo.elim 0 (clipAt x.toArray.size))).toArray = _
    rw [List.size_toArray]; rfl
  refine tail_of_ItemOn ⟨"bytes", _, FB.slot_bytes_getitem.lookup, typeIs_bytes _ _ _, getItem_meets (typeIs_bytes _ _ _) (by decide) FB.slot_bytes_getitem FB.entry_bytes_getitem (FB.args_bytes_getitem_2 _ _) (KBc.meets_slice2 x.toArray t _ hl hu)
    ⟨Heap.IsSliceOf.new _ _ _ _, Nat.le_trans (KBc.size_picked_le x.toArray lo hi) (by rw [sizeLine_eq, List.size_toArray]; omega), fun t' k => ?_⟩⟩ hs ht
  rw [ep]
  exact h _ _ _ (hF.push _) (News.pushKeep hN _)
end
section
variable {w : World} {vw : Program} {lo : List Str} {mean : ExcName → Option Value} {mg mb : Str → Option Value} {s : Shared}

/-- what line_at gives -/
noncomputable def LA (x : List UInt8) (i e last later : Int) : Prop :=
  (findI x.toArray [10].toArray i e = -1 ∧ last = e ∧ later = e) ∨
  (∃ sp, findI x.toArray [10].toArray i e = sp ∧ i < sp ∧ sp ≤ x.length ∧ ((x.getD (sp - 1).toNat 0).toNat : Int) = 13 ∧ last = sp - 1 ∧ later = sp + 1) ∨
  (findI x.toArray [10].toArray i e = i ∧ last = i ∧ later = i + 1) ∨
  (∃ sp k, findI x.toArray [10].toArray i e = sp ∧ i < sp ∧ sp ≤ x.length ∧ ((x.getD (sp - 1).toNat 0).toNat : Int) = k ∧ k ≠ 13 ∧ last = sp ∧ later = sp + 1)

theorem c_line {x : List UInt8} {i e last later : Int} {t t2 t3 : Tok} (hx : x.length ≤ 1000000) (h0 : 0 ≤ i) (h : LA x i e last later) (b : Bs w vw lo mean mg mb s.heap) :
    Cl w 1 s (call (.ref 170) [.bytes x.toArray t, .int i t2, .int e t3]) (isTup2 (.int last) (.int later) s.heap) := by
  refine' enter (binds := [(Str.ofString "data", .bytes x.toArray t), (Str.ofString "at", .int i t2), (Str.ofString "end", .int e t3)]) b ?k6 ?k7 ?k9 ?kB ?c5 ?c2 ?c3 ?c4 ?_
  ((case k6 => k_is); (case k7 => k_is); (case k9 => exact rfl); (case kB => exact locs rfl); (case c5 => decide); (case c2 => exact rfl); (case c3 => exact rfl); (case c4 => exact rfl))
  intro dp un fr gd h₁ tk hd hu F X T N
  rcases h with ⟨h1, rfl, rfl⟩ | ⟨sp, h1, h2, h3, h4, rfl, rfl⟩ | ⟨h1, rfl, rfl⟩ | ⟨sp, k, h1, h2, h3, h4, h5, rfl, rfl⟩
  · ((try dsimp only); (try k_fold); repeat' (first | (k_unfold; (try dsimp only)) | ((first | ((with_reducible show wpAny _ _ (call (Value.builtin "bytes.join") _) _ _ _); (refine bjoin (News.isList (by k_asm) (.head _)) (by assumption) (by assumption) ?_; intro t'z k'z)) | ((with_reducible show wpAny _ _ (call (Value.ref 177) _) _ _ _); refine' useRows (fun b => c_rows (by assumption) (by assumption) (by assumption) b) ?kF ?kN ?kX ?kT ?kh ?kd ?ku ?_; walk_at "ARGS"; intro D vs n'z h'z tk'z F'z N'z hb o1; (try (simp only [LCg.Off1, and_true] at o1))) | ((with_reducible show wpAny _ _ (call (Value.ref 170) _) _ _ _); refine' useT2 (fun b => c_line (by assumption) (by assumption) (by assumption) b) ?kF ?kN ?kX ?kT ?kh ?kd ?ku ?_; walk_at "ARGS"; intro D n'z t1 t2 h'z tk'z F'z N'z o1; (try (simp only [LCg.Off1, and_true] at o1))) | with_reducible ((with_reducible show wpAny _ _ (subscriptTail _ (Expr.Slice _ _ none _) (Value.bytes (List.toArray _) _) (Value.ref _)) _ _ _); (with_reducible rename Fr _ _ _ _ => F'z); (with_reducible rename News _ _ _ _ => N'z); (refine bcut (s := ⟨_, _, _, _, _⟩) F'z N'z (by constructor) (by constructor) (by first | assumption | omega) (by first | assumption | exact rfl) ?_); intro _ _ _ _ _) | with_reducible ((with_reducible show wpAny _ _ (call (Value.builtin "bytes.strip") _) _ _ _); (refine bstrip (by assumption) ?_; intro t'z k'z)) | with_reducible ((with_reducible show wpAny _ _ (call (Value.builtin "bytes.find") _) _ _ _); (refine bfind (by assumption) ?_; intro t'z k'z)) | with_reducible ((with_reducible show wpAny _ _ (getMethod _ (PySem.Str.ofString "join") _) _ _ _); k_dflt (refine bmethod slot_bjoin type_bjoin ?_)) | with_reducible ((with_reducible show wpAny _ _ (getMethod _ (PySem.Str.ofString "strip") _) _ _ _); k_dflt (refine bmethod slot_bstrip type_bstrip ?_)) | with_reducible ((with_reducible show wpAny _ _ (getMethod _ (PySem.Str.ofString "find") _) _ _ _); k_dflt (refine bmethod slot_bfind type_bfind ?_)) | ((with_reducible show wpAny _ _ (call (Value.ref 149) _) _ _ _); refine' useV (fun b => c_word (by assumption) (by assumption) b) ?kF ?kN ?kX ?kT ?kh ?kd ?ku ?_; walk_at "ARGS"; intro t'z h'z tk'z F'z N'z) | with_reducible ((with_reducible show wpAny _ _ (call (Value.builtin _) [Value.ref _, _]) _ _ _); k_dflt (refine' append_K ?k1h9 ?k2h9 ?k3h9 ?_ ?zh9; (case k1h9 => k_asm); (case k2h9 => k_asm); (case k3h9 => k_upd); (case zh9 => (rw [sizeLine_eq]; omega)); k_whole); intro h'z F'z N'z; (try k_sweep)) | with_reducible ((with_reducible show wpAny _ _ (eval (PySem.Expr.Name _ _) _) _ _ _); (k_dflt (first | (refine' nameX_L ?Fh9 ?vh9 ?_ ?ah9 ?bh9; (case Fh9 => k_asm); (case ah9 => rfl); (case bh9 => rfl); (case vh9 => rfl); k_whole) | (refine' nameX_K ?Fh9 ?Xh9 ?Th9 ?eh9 ?_ ?ah9 ?bh9; (case Fh9 => k_asm); (case Xh9 => k_asm); (case Th9 => k_asm); (case ah9 => rfl); (case bh9 => rfl); (case eh9 => k_is); k_whole) | (refine' nameX_B ?Fh9 ?Xh9 ?Th9 ?eh9 ?vh9 ?nh9 ?_ ?ah9 ?bh9; (case Fh9 => k_asm); (case Xh9 => k_asm); (case Th9 => k_asm); (case ah9 => rfl); (case bh9 => rfl); (case eh9 => k_is); (case vh9 => boot_fast); (case nh9 => decide); k_whole)))) | with_reducible ((with_reducible show wpAny _ _ (spliced _) _ _ _); (k_dflt (first | refine args_cons ?_ | (refine args_nil ?_; (try simp only [List.cons_append, List.nil_append]))))) | with_reducible ((with_reducible show wpAny _ _ (subscriptTail _ _ (Value.bytes (List.toArray _) _) (Value.int _ _)) _ _ _); (refine item_at (by omega) (by omega) (by omega) (by assumption) ?_)) | with_reducible ((with_reducible show wpAny _ _ (exec (PySem.Stmt.While (PySem.Expr.Constant _ _ _) _ _ _) _) _ _ _); ((rename Mk 2 => mk'z); refine Stop.mk ?_)) | with_reducible (k_closed; first | with_reducible refine PySem.W.ite_pos (by with_unfolding_all decide) ?_ | with_reducible refine PySem.W.ite_neg (by with_unfolding_all decide) ?_) | walk1); (try dsimp only); (try ((with_reducible show wpAny _ _ _ _ _ ⟨_, _, _, _ + _, _⟩); refine anyToks ?_; intro _)); (repeat ((first | with_reducible rename (_ < _ ∧ _) => hhzz | with_reducible rename (_ ≠ _ ∧ _) => hhzz | with_reducible rename ((_ ≠ _ ∧ _) ∧ _) => hhzz); have := hhzz.1; have := hhzz.2; clear hhzz))) | (dsimp only; walk1) | (leave1; (try dsimp only)) | fail "no step"))
    all_goals first | exact Done.tup2 (by k_asm) (by k_asm) | (exfalso; omega)
  · ((try dsimp only); (try k_fold); repeat' (first | (k_unfold; (try dsimp only)) | ((first | ((with_reducible show wpAny _ _ (call (Value.builtin "bytes.join") _) _ _ _); (refine bjoin (News.isList (by k_asm) (.head _)) (by assumption) (by assumption) ?_; intro t'z k'z)) | ((with_reducible show wpAny _ _ (call (Value.ref 177) _) _ _ _); refine' useRows (fun b => c_rows (by assumption) (by assumption) (by assumption) b) ?kF ?kN ?kX ?kT ?kh ?kd ?ku ?_; walk_at "ARGS"; intro D vs n'z h'z tk'z F'z N'z hb o1; (try (simp only [LCg.Off1, and_true] at o1))) | ((with_reducible show wpAny _ _ (call (Value.ref 170) _) _ _ _); refine' useT2 (fun b => c_line (by assumption) (by assumption) (by assumption) b) ?kF ?kN ?kX ?kT ?kh ?kd ?ku ?_; walk_at "ARGS"; intro D n'z t1 t2 h'z tk'z F'z N'z o1; (try (simp only [LCg.Off1, and_true] at o1))) | with_reducible ((with_reducible show wpAny _ _ (subscriptTail _ (Expr.Slice _ _ none _) (Value.bytes (List.toArray _) _) (Value.ref _)) _ _ _); (with_reducible rename Fr _ _ _ _ => F'z); (with_reducible rename News _ _ _ _ => N'z); (refine bcut (s := ⟨_, _, _, _, _⟩) F'z N'z (by constructor) (by constructor) (by first | assumption | omega) (by first | assumption | exact rfl) ?_); intro _ _ _ _ _) | with_reducible ((with_reducible show wpAny _ _ (call (Value.builtin "bytes.strip") _) _ _ _); (refine bstrip (by assumption) ?_; intro t'z k'z)) | with_reducible ((with_reducible show wpAny _ _ (call (Value.builtin "bytes.find") _) _ _ _); (refine bfind (by assumption) ?_; intro t'z k'z)) | with_reducible ((with_reducible show wpAny _ _ (getMethod _ (PySem.Str.ofString "join") _) _ _ _); k_dflt (refine bmethod slot_bjoin type_bjoin ?_)) | with_reducible ((with_reducible show wpAny _ _ (getMethod _ (PySem.Str.ofString "strip") _) _ _ _); k_dflt (refine bmethod slot_bstrip type_bstrip ?_)) | with_reducible ((with_reducible show wpAny _ _ (getMethod _ (PySem.Str.ofString "find") _) _ _ _); k_dflt (refine bmethod slot_bfind type_bfind ?_)) | ((with_reducible show wpAny _ _ (call (Value.ref 149) _) _ _ _); refine' useV (fun b => c_word (by assumption) (by assumption) b) ?kF ?kN ?kX ?kT ?kh ?kd ?ku ?_; walk_at "ARGS"; intro t'z h'z tk'z F'z N'z) | with_reducible ((with_reducible show wpAny _ _ (call (Value.builtin _) [Value.ref _, _]) _ _ _); k_dflt (refine' append_K ?k1h9 ?k2h9 ?k3h9 ?_ ?zh9; (case k1h9 => k_asm); (case k2h9 => k_asm); (case k3h9 => k_upd); (case zh9 => (rw [sizeLine_eq]; omega)); k_whole); intro h'z F'z N'z; (try k_sweep)) | with_reducible ((with_reducible show wpAny _ _ (eval (PySem.Expr.Name _ _) _) _ _ _); (k_dflt (first | (refine' nameX_L ?Fh9 ?vh9 ?_ ?ah9 ?bh9; (case Fh9 => k_asm); (case ah9 => rfl); (case bh9 => rfl); (case vh9 => rfl); k_whole) | (refine' nameX_K ?Fh9 ?Xh9 ?Th9 ?eh9 ?_ ?ah9 ?bh9; (case Fh9 => k_asm); (case Xh9 => k_asm); (case Th9 => k_asm); (case ah9 => rfl); (case bh9 => rfl); (case eh9 => k_is); k_whole) | (refine' nameX_B ?Fh9 ?Xh9 ?Th9 ?eh9 ?vh9 ?nh9 ?_ ?ah9 ?bh9; (case Fh9 => k_asm); (case Xh9 => k_asm); (case Th9 => k_asm); (case ah9 => rfl); (case bh9 => rfl); (case eh9 => k_is); (case vh9 => boot_fast); (case nh9 => decide); k_whole)))) | with_reducible ((with_reducible show wpAny _ _ (spliced _) _ _ _); (k_dflt (first | refine args_cons ?_ | (refine args_nil ?_; (try simp only [List.cons_append, List.nil_append]))))) | with_reducible ((with_reducible show wpAny _ _ (subscriptTail _ _ (Value.bytes (List.toArray _) _) (Value.int _ _)) _ _ _); (refine item_at (by omega) (by omega) (by omega) (by assumption) ?_)) | with_reducible ((with_reducible show wpAny _ _ (exec (PySem.Stmt.While (PySem.Expr.Constant _ _ _) _ _ _) _) _ _ _); ((rename Mk 2 => mk'z); refine Stop.mk ?_)) | with_reducible (k_closed; first | with_reducible refine PySem.W.ite_pos (by with_unfolding_all decide) ?_ | with_reducible refine PySem.W.ite_neg (by with_unfolding_all decide) ?_) | walk1); (try dsimp only); (try ((with_reducible show wpAny _ _ _ _ _ ⟨_, _, _, _ + _, _⟩); refine anyToks ?_; intro _)); (repeat ((first | with_reducible rename (_ < _ ∧ _) => hhzz | with_reducible rename (_ ≠ _ ∧ _) => hhzz | with_reducible rename ((_ ≠ _ ∧ _) ∧ _) => hhzz); have := hhzz.1; have := hhzz.2; clear hhzz))) | (dsimp only; walk1) | (leave1; (try dsimp only)) | fail "no step"))
    all_goals first | exact Done.tup2 (by k_asm) (by k_asm) | (exfalso; omega)
  · ((try dsimp only); (try k_fold); repeat' (first | (k_unfold; (try dsimp only)) | ((first | ((with_reducible show wpAny _ _ (call (Value.builtin "bytes.join") _) _ _ _); (refine bjoin (News.isList (by k_asm) (.head _)) (by assumption) (by assumption) ?_; intro t'z k'z)) | ((with_reducible show wpAny _ _ (call (Value.ref 177) _) _ _ _); refine' useRows (fun b => c_rows (by assumption) (by assumption) (by assumption) b) ?kF ?kN ?kX ?kT ?kh ?kd ?ku ?_; walk_at "ARGS"; intro D vs n'z h'z tk'z F'z N'z hb o1; (try (simp only [LCg.Off1, and_true] at o1))) | ((with_reducible show wpAny _ _ (call (Value.ref 170) _) _ _ _); refine' useT2 (fun b => c_line (by assumption) (by assumption) (by assumption) b) ?kF ?kN ?kX ?kT ?kh ?kd ?ku ?_; walk_at "ARGS"; intro D n'z t1 t2 h'z tk'z F'z N'z o1; (try (simp only [LCg.Off1, and_true] at o1))) | with_reducible ((with_reducible show wpAny _ _ (subscriptTail _ (Expr.Slice _ _ none _) (Value.bytes (List.toArray _) _) (Value.ref _)) _ _ _); (with_reducible rename Fr _ _ _ _ => F'z); (with_reducible rename News _ _ _ _ => N'z); (refine bcut (s := ⟨_, _, _, _, _⟩) F'z N'z (by constructor) (by constructor) (by first | assumption | omega) (by first | assumption | exact rfl) ?_); intro _ _ _ _ _) | with_reducible ((with_reducible show wpAny _ _ (call (Value.builtin "bytes.strip") _) _ _ _); (refine bstrip (by assumption) ?_; intro t'z k'z)) | with_reducible ((with_reducible show wpAny _ _ (call (Value.builtin "bytes.find") _) _ _ _); (refine bfind (by assumption) ?_; intro t'z k'z)) | with_reducible ((with_reducible show wpAny _ _ (getMethod _ (PySem.Str.ofString "join") _) _ _ _); k_dflt (refine bmethod slot_bjoin type_bjoin ?_)) | with_reducible ((with_reducible show wpAny _ _ (getMethod _ (PySem.Str.ofString "strip") _) _ _ _); k_dflt (refine bmethod slot_bstrip type_bstrip ?_)) | with_reducible ((with_reducible show wpAny _ _ (getMethod _ (PySem.Str.ofString "find") _) _ _ _); k_dflt (refine bmethod slot_bfind type_bfind ?_)) | ((with_reducible show wpAny _ _ (call (Value.ref 149) _) _ _ _); refine' useV (fun b => c_word (by assumption) (by assumption) b) ?kF ?kN ?kX ?kT ?kh ?kd ?ku ?_; walk_at "ARGS"; intro t'z h'z tk'z F'z N'z) | with_reducible ((with_reducible show wpAny _ _ (call (Value.builtin _) [Value.ref _, _]) _ _ _); k_dflt (refine' append_K ?k1h9 ?k2h9 ?k3h9 ?_ ?zh9; (case k1h9 => k_asm); (case k2h9 => k_asm); (case k3h9 => k_upd); (case zh9 => (rw [sizeLine_eq]; omega)); k_whole); intro h'z F'z N'z; (try k_sweep)) | with_reducible ((with_reducible show wpAny _ _ (eval (PySem.Expr.Name _ _) _) _ _ _); (k_dflt (first | (refine' nameX_L ?Fh9 ?vh9 ?_ ?ah9 ?bh9; (case Fh9 => k_asm); (case ah9 => rfl); (case bh9 => rfl); (case vh9 => rfl); k_whole) | (refine' nameX_K ?Fh9 ?Xh9 ?Th9 ?eh9 ?_ ?ah9 ?bh9; (case Fh9 => k_asm); (case Xh9 => k_asm); (case Th9 => k_asm); (case ah9 => rfl); (case bh9 => rfl); (case eh9 => k_is); k_whole) | (refine' nameX_B ?Fh9 ?Xh9 ?Th9 ?eh9 ?vh9 ?nh9 ?_ ?ah9 ?bh9; (case Fh9 => k_asm); (case Xh9 => k_asm); (case Th9 => k_asm); (case ah9 => rfl); (case bh9 => rfl); (case eh9 => k_is); (case vh9 => boot_fast); (case nh9 => decide); k_whole)))) | with_reducible ((with_reducible show wpAny _ _ (spliced _) _ _ _); (k_dflt (first | refine args_cons ?_ | (refine args_nil ?_; (try simp only [List.cons_append, List.nil_append]))))) | with_reducible ((with_reducible show wpAny _ _ (subscriptTail _ _ (Value.bytes (List.toArray _) _) (Value.int _ _)) _ _ _); (refine item_at (by omega) (by omega) (by omega) (by assumption) ?_)) | with_reducible ((with_reducible show wpAny _ _ (exec (PySem.Stmt.While (PySem.Expr.Constant _ _ _) _ _ _) _) _ _ _); ((rename Mk 2 => mk'z); refine Stop.mk ?_)) | with_reducible (k_closed; first | with_reducible refine PySem.W.ite_pos (by with_unfolding_all decide) ?_ | with_reducible refine PySem.W.ite_neg (by with_unfolding_all decide) ?_) | walk1); (try dsimp only); (try ((with_reducible show wpAny _ _ _ _ _ ⟨_, _, _, _ + _, _⟩); refine anyToks ?_; intro _)); (repeat ((first | with_reducible rename (_ < _ ∧ _) => hhzz | with_reducible rename (_ ≠ _ ∧ _) => hhzz | with_reducible rename ((_ ≠ _ ∧ _) ∧ _) => hhzz); have := hhzz.1; have := hhzz.2; clear hhzz))) | (dsimp only; walk1) | (leave1; (try dsimp only)) | fail "no step"))
    all_goals first | exact Done.tup2 (by k_asm) (by k_asm) | (exfalso; omega)
  · ((try dsimp only); (try k_fold); repeat' (first | (k_unfold; (try dsimp only)) | ((first | ((with_reducible show wpAny _ _ (call (Value.builtin "bytes.join") _) _ _ _); (refine bjoin (News.isList (by k_asm) (.head _)) (by assumption) (by assumption) ?_; intro t'z k'z)) | ((with_reducible show wpAny _ _ (call (Value.ref 177) _) _ _ _); refine' useRows (fun b => c_rows (by assumption) (by assumption) (by assumption) b) ?kF ?kN ?kX ?kT ?kh ?kd ?ku ?_; walk_at "ARGS"; intro D vs n'z h'z tk'z F'z N'z hb o1; (try (simp only [LCg.Off1, and_true] at o1))) | ((with_reducible show wpAny _ _ (call (Value.ref 170) _) _ _ _); refine' useT2 (fun b => c_line (by assumption) (by assumption) (by assumption) b) ?kF ?kN ?kX ?kT ?kh ?kd ?ku ?_; walk_at "ARGS"; intro D n'z t1 t2 h'z tk'z F'z N'z o1; (try (simp only [LCg.Off1, and_true] at o1))) | with_reducible ((with_reducible show wpAny _ _ (subscriptTail _ (Expr.Slice _ _ none _) (Value.bytes (List.toArray _) _) (Value.ref _)) _ _ _); (with_reducible rename Fr _ _ _ _ => F'z); (with_reducible rename News _ _ _ _ => N'z); (refine bcut (s := ⟨_, _, _, _, _⟩) F'z N'z (by constructor) (by constructor) (by first | assumption | omega) (by first | assumption | exact rfl) ?_); intro _ _ _ _ _) | with_reducible ((with_reducible show wpAny _ _ (call (Value.builtin "bytes.strip") _) _ _ _); (refine bstrip (by assumption) ?_; intro t'z k'z)) | with_reducible ((with_reducible show wpAny _ _ (call (Value.builtin "bytes.find") _) _ _ _); (refine bfind (by assumption) ?_; intro t'z k'z)) | with_reducible ((with_reducible show wpAny _ _ (getMethod _ (PySem.Str.ofString "join") _) _ _ _); k_dflt (refine bmethod slot_bjoin type_bjoin ?_)) | with_reducible ((with_reducible show wpAny _ _ (getMethod _ (PySem.Str.ofString "strip") _) _ _ _); k_dflt (refine bmethod slot_bstrip type_bstrip ?_)) | with_reducible ((with_reducible show wpAny _ _ (getMethod _ (PySem.Str.ofString "find") _) _ _ _); k_dflt (refine bmethod slot_bfind type_bfind ?_)) | ((with_reducible show wpAny _ _ (call (Value.ref 149) _) _ _ _); refine' useV (fun b => c_word (by assumption) (by assumption) b) ?kF ?kN ?kX ?kT ?kh ?kd ?ku ?_; walk_at "ARGS"; intro t'z h'z tk'z F'z N'z) | with_reducible ((with_reducible show wpAny _ _ (call (Value.builtin _) [Value.ref _, _]) _ _ _); k_dflt (refine' append_K ?k1h9 ?k2h9 ?k3h9 ?_ ?zh9; (case k1h9 => k_asm); (case k2h9 => k_asm); (case k3h9 => k_upd); (case zh9 => (rw [sizeLine_eq]; omega)); k_whole); intro h'z F'z N'z; (try k_sweep)) | with_reducible ((with_reducible show wpAny _ _ (eval (PySem.Expr.Name _ _) _) _ _ _); (k_dflt (first | (refine' nameX_L ?Fh9 ?vh9 ?_ ?ah9 ?bh9; (case Fh9 => k_asm); (case ah9 => rfl); (case bh9 => rfl); (case vh9 => rfl); k_whole) | (refine' nameX_K ?Fh9 ?Xh9 ?Th9 ?eh9 ?_ ?ah9 ?bh9; (case Fh9 => k_asm); (case Xh9 => k_asm); (case Th9 => k_asm); (case ah9 => rfl); (case bh9 => rfl); (case eh9 => k_is); k_whole) | (refine' nameX_B ?Fh9 ?Xh9 ?Th9 ?eh9 ?vh9 ?nh9 ?_ ?ah9 ?bh9; (case Fh9 => k_asm); (case Xh9 => k_asm); (case Th9 => k_asm); (case ah9 => rfl); (case bh9 => rfl); (case eh9 => k_is); (case vh9 => boot_fast); (case nh9 => decide); k_whole)))) | with_reducible ((with_reducible show wpAny _ _ (spliced _) _ _ _); (k_dflt (first | refine args_cons ?_ | (refine args_nil ?_; (try simp only [List.cons_append, List.nil_append]))))) | with_reducible ((with_reducible show wpAny _ _ (subscriptTail _ _ (Value.bytes (List.toArray _) _) (Value.int _ _)) _ _ _); (refine item_at (by omega) (by omega) (by omega) (by assumption) ?_)) | with_reducible ((with_reducible show wpAny _ _ (exec (PySem.Stmt.While (PySem.Expr.Constant _ _ _) _ _ _) _) _ _ _); ((rename Mk 2 => mk'z); refine Stop.mk ?_)) | with_reducible (k_closed; first | with_reducible refine PySem.W.ite_pos (by with_unfolding_all decide) ?_ | with_reducible refine PySem.W.ite_neg (by with_unfolding_all decide) ?_) | walk1); (try dsimp only); (try ((with_reducible show wpAny _ _ _ _ _ ⟨_, _, _, _ + _, _⟩); refine anyToks ?_; intro _)); (repeat ((first | with_reducible rename (_ < _ ∧ _) => hhzz | with_reducible rename (_ ≠ _ ∧ _) => hhzz | with_reducible rename ((_ ≠ _ ∧ _) ∧ _) => hhzz); have := hhzz.1; have := hhzz.2; clear hhzz))) | (dsimp only; walk1) | (leave1; (try dsimp only)) | fail "no step"))
    all_goals first | exact Done.tup2 (by k_asm) (by k_asm) | (exfalso; omega)

noncomputable def RowsR (x : List UInt8) : Int → List (List UInt8) → Prop
  | i, [] => False
  | i, y :: r => ∃ last later, LA x i x.length last later ∧ cutB x (some i) (some last) = y ∧ i < later ∧ (r = [] → last = x.length) ∧ (r ≠ [] → last ≠ x.length ∧ RowsR x later r)

structure RowsI (s : Shared) (L : Addr) (x : List UInt8) (ys : List (List UInt8)) (c : Int × List (List UInt8) × List (List UInt8)) (s' : Shared) : Prop where
  ex : ∃ (h : Heap) (tk : Nat) (m₀ : Str → Option Value) (D : Addr) (vs : Array Value) (n : Nat) (t1 t3 : Tok), s' = { s with heap := h, toks := tk } ∧
    Fr s.heap L h (fun y => if y = Str.ofString "raw" then some (.bytes x.toArray t1) else if y = Str.ofString "rows" then some (.ref D) else if y = Str.ofString "at" then some (.int c.1 t3) else m₀ y) ∧
    News s.heap L h [(D, PySem.W.listOf vs n)] ∧ BytesAre vs.toList c.2.1
  i0 : 0 ≤ c.1
  dec : RowsR x c.1 c.2.2
  all : ys = c.2.1 ++ c.2.2

noncomputable def isRows (ys : List (List UInt8)) (H : Heap) (r : Value) (h : Heap) : Prop := ∃ D vs n, r = .ref D ∧ H.get? D = none ∧ h.get? D = some (PySem.W.listOf vs n) ∧ BytesAre vs.toList ys

theorem bytesAre_snoc {y : List UInt8} {t : Tok} : ∀ {vs : List Value} {ys : List (List UInt8)}, BytesAre vs ys → BytesAre (vs ++ [.bytes y.toArray t]) (ys ++ [y])
  | _, _, .nil => .cons _ _ .nil
  | _, _, .cons _ _ r => .cons _ _ (bytesAre_snoc r)

theorem c_rows {x : List UInt8} {ys : List (List UInt8)} {t : Tok} (hx : x.length ≤ 1000000) (hy : ys.length ≤ 1000000) (hdec : RowsR x 0 ys) (b : Bs w vw lo mean mg mb s.heap) :
    Cl w 2 s (call (.ref 177) [.bytes x.toArray t]) (isRows ys s.heap) := by
  refine' enter (binds := [(Str.ofString "raw", .bytes x.toArray t)]) b ?k6 ?k7 ?k9 ?kB ?c5 ?c2 ?c3 ?c4 ?_
  ((case k6 => k_is); (case k7 => k_is); (case k9 => exact rfl); (case kB => exact locs rfl); (case c5 => decide); (case c2 => exact rfl); (case c3 => exact rfl); (case c4 => exact rfl))
  intro dp un fr gd h₁ tk hd hu F X T N
  have mk2 := Mk.on 2
  ((try dsimp only); (try k_fold); repeat' (first | (k_unfold; (try dsimp only)) | ((first | ((with_reducible show wpAny _ _ (call (Value.builtin "bytes.join") _) _ _ _); (refine bjoin (News.isList (by k_asm) (.head _)) (by assumption) (by assumption) ?_; intro t'z k'z)) | ((with_reducible show wpAny _ _ (call (Value.ref 177) _) _ _ _); refine' useRows (fun b => c_rows (by assumption) (by assumption) (by assumption) b) ?kF ?kN ?kX ?kT ?kh ?kd ?ku ?_; walk_at "ARGS"; intro D vs n'z h'z tk'z F'z N'z hb o1; (try (simp only [LCg.Off1, and_true] at o1))) | ((with_reducible show wpAny _ _ (call (Value.ref 170) _) _ _ _); refine' useT2 (fun b => c_line (by assumption) (by assumption) (by assumption) b) ?kF ?kN ?kX ?kT ?kh ?kd ?ku ?_; walk_at "ARGS"; intro D n'z t1 t2 h'z tk'z F'z N'z o1; (try (simp only [LCg.Off1, and_true] at o1))) | with_reducible ((with_reducible show wpAny _ _ (subscriptTail _ (Expr.Slice _ _ none _) (Value.bytes (List.toArray _) _) (Value.ref _)) _ _ _); (with_reducible rename Fr _ _ _ _ => F'z); (with_reducible rename News _ _ _ _ => N'z); (refine bcut (s := ⟨_, _, _, _, _⟩) F'z N'z (by constructor) (by constructor) (by first | assumption | omega) (by first | assumption | exact rfl) ?_); intro _ _ _ _ _) | with_reducible ((with_reducible show wpAny _ _ (call (Value.builtin "bytes.strip") _) _ _ _); (refine bstrip (by assumption) ?_; intro t'z k'z)) | with_reducible ((with_reducible show wpAny _ _ (call (Value.builtin "bytes.find") _) _ _ _); (refine bfind (by assumption) ?_; intro t'z k'z)) | with_reducible ((with_reducible show wpAny _ _ (getMethod _ (PySem.Str.ofString "join") _) _ _ _); k_dflt (refine bmethod slot_bjoin type_bjoin ?_)) | with_reducible ((with_reducible show wpAny _ _ (getMethod _ (PySem.Str.ofString "strip") _) _ _ _); k_dflt (refine bmethod slot_bstrip type_bstrip ?_)) | with_reducible ((with_reducible show wpAny _ _ (getMethod _ (PySem.Str.ofString "find") _) _ _ _); k_dflt (refine bmethod slot_bfind type_bfind ?_)) | ((with_reducible show wpAny _ _ (call (Value.ref 149) _) _ _ _); refine' useV (fun b => c_word (by assumption) (by assumption) b) ?kF ?kN ?kX ?kT ?kh ?kd ?ku ?_; walk_at "ARGS"; intro t'z h'z tk'z F'z N'z) | with_reducible ((with_reducible show wpAny _ _ (call (Value.builtin _) [Value.ref _, _]) _ _ _); k_dflt (refine' append_K ?k1h9 ?k2h9 ?k3h9 ?_ ?zh9; (case k1h9 => k_asm); (case k2h9 => k_asm); (case k3h9 => k_upd); (case zh9 => (rw [sizeLine_eq]; omega)); k_whole); intro h'z F'z N'z; (try k_sweep)) | with_reducible ((with_reducible show wpAny _ _ (eval (PySem.Expr.Name _ _) _) _ _ _); (k_dflt (first | (refine' nameX_L ?Fh9 ?vh9 ?_ ?ah9 ?bh9; (case Fh9 => k_asm); (case ah9 => rfl); (case bh9 => rfl); (case vh9 => rfl); k_whole) | (refine' nameX_K ?Fh9 ?Xh9 ?Th9 ?eh9 ?_ ?ah9 ?bh9; (case Fh9 => k_asm); (case Xh9 => k_asm); (case Th9 => k_asm); (case ah9 => rfl); (case bh9 => rfl); (case eh9 => k_is); k_whole) | (refine' nameX_B ?Fh9 ?Xh9 ?Th9 ?eh9 ?vh9 ?nh9 ?_ ?ah9 ?bh9; (case Fh9 => k_asm); (case Xh9 => k_asm); (case Th9 => k_asm); (case ah9 => rfl); (case bh9 => rfl); (case eh9 => k_is); (case vh9 => boot_fast); (case nh9 => decide); k_whole)))) | with_reducible ((with_reducible show wpAny _ _ (spliced _) _ _ _); (k_dflt (first | refine args_cons ?_ | (refine args_nil ?_; (try simp only [List.cons_append, List.nil_append]))))) | with_reducible ((with_reducible show wpAny _ _ (subscriptTail _ _ (Value.bytes (List.toArray _) _) (Value.int _ _)) _ _ _); (refine item_at (by omega) (by omega) (by omega) (by assumption) ?_)) | with_reducible ((with_reducible show wpAny _ _ (exec (PySem.Stmt.While (PySem.Expr.Constant _ _ _) _ _ _) _) _ _ _); ((rename Mk 2 => mk'z); refine Stop.mk ?_)) | with_reducible (k_closed; first | with_reducible refine PySem.W.ite_pos (by with_unfolding_all decide) ?_ | with_reducible refine PySem.W.ite_neg (by with_unfolding_all decide) ?_) | walk1); (try dsimp only); (try ((with_reducible show wpAny _ _ _ _ _ ⟨_, _, _, _ + _, _⟩); refine anyToks ?_; intro _)); (repeat ((first | with_reducible rename (_ < _ ∧ _) => hhzz | with_reducible rename (_ ≠ _ ∧ _) => hhzz | with_reducible rename ((_ ≠ _ ∧ _) ∧ _) => hhzz); have := hhzz.1; have := hhzz.2; clear hhzz))) | (dsimp only; walk1) | (leave1; (try dsimp only)) | fail "no step"))
  rename Mk 2 => mk2; clear mk2
  refine Stop.out ?_
  rename Fr _ _ _ _ => F1
  rename News _ _ _ _ => N1
  refine while_J (RowsI s s.heap.objs.size x ys) (fun c => c.2.2.length) (0, [], ys) ?_ ?_
  · exact ⟨⟨_, _, _, _, _, _, _, _, rfl, frSet (frSet (frSet F1 rfl) rfl) rfl, N1, .nil⟩, Int.le_refl _, hdec, rfl⟩
  · rintro ⟨i, done, rest⟩ s' ⟨⟨h, tk, m₀, D, vs, n, t1, t3, rfl, F, N, hv⟩, hi, hd, hall⟩
    dsimp only at F hi hd hall
    clear F1 N1
    have hxs : x.toArray.size = x.length := by simp
    have hvn : vs.size = done.length := by have := hv.len; simpa using this
    have hvz : vs.size ≤ 1000000 := by have := congrArg List.length hall; rw [List.length_append] at this; omega
    cases rest with
    | nil => exact hd.elim
    | cons y r =>
      obtain ⟨last, later, hLA, hcut, hlt, hr1, hr2⟩ := hd
      have hsnoc : ∀ t', BytesAre (vs.push (.bytes y.toArray t')).toList (done ++ [y]) := fun t' => by rw [Array.toList_push]; exact bytesAre_snoc hv
      ((try dsimp only); (try k_fold); repeat' (first | (k_unfold; (try dsimp only)) | ((first | ((with_reducible show wpAny _ _ (call (Value.builtin "bytes.join") _) _ _ _); (refine bjoin (News.isList (by k_asm) (.head _)) (by assumption) (by assumption) ?_; intro t'z k'z)) | ((with_reducible show wpAny _ _ (call (Value.ref 177) _) _ _ _); refine' useRows (fun b => c_rows (by assumption) (by assumption) (by assumption) b) ?kF ?kN ?kX ?kT ?kh ?kd ?ku ?_; walk_at "ARGS"; intro D vs n'z h'z tk'z F'z N'z hb o1; (try (simp only [LCg.Off1, and_true] at o1))) | ((with_reducible show wpAny _ _ (call (Value.ref 170) _) _ _ _); refine' useT2 (fun b => c_line (by assumption) (by assumption) (by assumption) b) ?kF ?kN ?kX ?kT ?kh ?kd ?ku ?_; walk_at "ARGS"; intro D n'z t1 t2 h'z tk'z F'z N'z o1; (try (simp only [LCg.Off1, and_true] at o1))) | with_reducible ((with_reducible show wpAny _ _ (subscriptTail _ (Expr.Slice _ _ none _) (Value.bytes (List.toArray _) _) (Value.ref _)) _ _ _); (with_reducible rename Fr _ _ _ _ => F'z); (with_reducible rename News _ _ _ _ => N'z); (refine bcut (s := ⟨_, _, _, _, _⟩) F'z N'z (by constructor) (by constructor) (by first | assumption | omega) (by first | assumption | exact rfl) ?_); intro _ _ _ _ _) | with_reducible ((with_reducible show wpAny _ _ (call (Value.builtin "bytes.strip") _) _ _ _); (refine bstrip (by assumption) ?_; intro t'z k'z)) | with_reducible ((with_reducible show wpAny _ _ (call (Value.builtin "bytes.find") _) _ _ _); (refine bfind (by assumption) ?_; intro t'z k'z)) | with_reducible ((with_reducible show wpAny _ _ (getMethod _ (PySem.Str.ofString "join") _) _ _ _); k_dflt (refine bmethod slot_bjoin type_bjoin ?_)) | with_reducible ((with_reducible show wpAny _ _ (getMethod _ (PySem.Str.ofString "strip") _) _ _ _); k_dflt (refine bmethod slot_bstrip type_bstrip ?_)) | with_reducible ((with_reducible show wpAny _ _ (getMethod _ (PySem.Str.ofString "find") _) _ _ _); k_dflt (refine bmethod slot_bfind type_bfind ?_)) | ((with_reducible show wpAny _ _ (call (Value.ref 149) _) _ _ _); refine' useV (fun b => c_word (by assumption) (by assumption) b) ?kF ?kN ?kX ?kT ?kh ?kd ?ku ?_; walk_at "ARGS"; intro t'z h'z tk'z F'z N'z) | with_reducible ((with_reducible show wpAny _ _ (call (Value.builtin _) [Value.ref _, _]) _ _ _); k_dflt (refine' append_K ?k1h9 ?k2h9 ?k3h9 ?_ ?zh9; (case k1h9 => k_asm); (case k2h9 => k_asm); (case k3h9 => k_upd); (case zh9 => (rw [sizeLine_eq]; omega)); k_whole); intro h'z F'z N'z; (try k_sweep)) | with_reducible ((with_reducible show wpAny _ _ (eval (PySem.Expr.Name _ _) _) _ _ _); (k_dflt (first | (refine' nameX_L ?Fh9 ?vh9 ?_ ?ah9 ?bh9; (case Fh9 => k_asm); (case ah9 => rfl); (case bh9 => rfl); (case vh9 => rfl); k_whole) | (refine' nameX_K ?Fh9 ?Xh9 ?Th9 ?eh9 ?_ ?ah9 ?bh9; (case Fh9 => k_asm); (case Xh9 => k_asm); (case Th9 => k_asm); (case ah9 => rfl); (case bh9 => rfl); (case eh9 => k_is); k_whole) | (refine' nameX_B ?Fh9 ?Xh9 ?Th9 ?eh9 ?vh9 ?nh9 ?_ ?ah9 ?bh9; (case Fh9 => k_asm); (case Xh9 => k_asm); (case Th9 => k_asm); (case ah9 => rfl); (case bh9 => rfl); (case eh9 => k_is); (case vh9 => boot_fast); (case nh9 => decide); k_whole)))) | with_reducible ((with_reducible show wpAny _ _ (spliced _) _ _ _); (k_dflt (first | refine args_cons ?_ | (refine args_nil ?_; (try simp only [List.cons_append, List.nil_append]))))) | with_reducible ((with_reducible show wpAny _ _ (subscriptTail _ _ (Value.bytes (List.toArray _) _) (Value.int _ _)) _ _ _); (refine item_at (by omega) (by omega) (by omega) (by assumption) ?_)) | with_reducible ((with_reducible show wpAny _ _ (exec (PySem.Stmt.While (PySem.Expr.Constant _ _ _) _ _ _) _) _ _ _); ((rename Mk 2 => mk'z); refine Stop.mk ?_)) | with_reducible (k_closed; first | with_reducible refine PySem.W.ite_pos (by with_unfolding_all decide) ?_ | with_reducible refine PySem.W.ite_neg (by with_unfolding_all decide) ?_) | walk1); (try dsimp only); (try ((with_reducible show wpAny _ _ _ _ _ ⟨_, _, _, _ + _, _⟩); refine anyToks ?_; intro _)); (repeat ((first | with_reducible rename (_ < _ ∧ _) => hhzz | with_reducible rename (_ ≠ _ ∧ _) => hhzz | with_reducible rename ((_ ≠ _ ∧ _) ∧ _) => hhzz); have := hhzz.1; have := hhzz.2; clear hhzz))) | (dsimp only; walk1) | (leave1; (try dsimp only)) | fail "no step"))
      · have hrn : r = [] := Classical.byContradiction fun hc => absurd (hr2 hc).1 (fun h => h (by omega))
        subst hrn
        exact Done.ret (by k_asm) ⟨_, _, _, rfl, (by rename News _ _ _ _ => N2; exact (N2 _ (.tail _ (.head _))).2.2), (by rename News _ _ _ _ => N2; exact (N2 _ (.tail _ (.head _))).1), by rw [hall]; exact hsnoc _⟩
      · obtain ⟨hne, hd'⟩ := hr2 (fun hc => absurd (hr1 hc) (by omega))
        rename Fr _ _ _ _ => F2
        rename News _ _ _ _ => N2
        refine ⟨(later, done ++ [y], r), by simp, ⟨⟨_, _, _, _, _, _, _, _, rfl, frSet (frSet (frSet F2 rfl) rfl) rfl, cb_drop N2 (fun p hp => .tail _ hp), hsnoc _⟩, ?_, hd', ?_⟩⟩
        · show 0 ≤ later; omega
        · rw [hall]; simp

theorem useRows {w : World} {n : Nat} {s : Shared} {c : Sem Value} {A : Around} {Q E : Value → Shared → Prop} {vw : Program} {lo : List Str} {mean : ExcName → Option Value} {mg mb : Str → Option Value}
    {h₀ : Heap} {L : Addr} {m : Str → Option Value} {news : List (Addr × Obj)} {ys : List (List UInt8)} (C : Bs w vw lo mean mg mb s.heap → Cl w n s c (isRows ys s.heap))
    (F : Fr h₀ L s.heap m) (N : News h₀ L s.heap news) (X : (hd.heap_39 w.params).In h₀) (T : Top vw lo mean mg mb h₀)
    (hh : A.handled = none) (hd : A.depth + n < recursionLimit) (hu : A.units + 8 * n < cLine)
    (h : ∀ D vs n h' tk, Fr h₀ L h' m → News h₀ L h' ((D, PySem.W.listOf vs n) :: news) → BytesAre vs.toList ys → LCg.Off1 D news → Q (.ref D) { s with heap := h', toks := tk }) : wpAny (model Pg w) A c Q E s :=
  useCl C F N X T hh hd hu fun v h' tk k F' N' p => by obtain ⟨D, vs, n, rfl, hD, e, hb⟩ := p; exact h D vs n h' tk F' (addNew F N k hD e) hb (offNew N hD)

theorem c_unfolded {x : List UInt8} {ys : List (List UInt8)} {t : Tok} (hx : x.length ≤ 1000000) (hy : ys.length ≤ 1000000) (hdec : RowsR x 0 ys) (hz : ys.flatten.length ≤ 1000000) (b : Bs w vw lo mean mg mb s.heap) :
    Cl w 3 s (call (.ref 184) [.bytes x.toArray t]) (fun r _ => ∃ t, r = .bytes (stripL [32, 9] ys.flatten).toArray t) := by
  refine' enter (binds := [(Str.ofString "raw", .bytes x.toArray t)]) b ?k6 ?k7 ?k9 ?kB ?c5 ?c2 ?c3 ?c4 ?_
  ((case k6 => k_is); (case k7 => k_is); (case k9 => exact rfl); (case kB => exact locs rfl); (case c5 => decide); (case c2 => exact rfl); (case c3 => exact rfl); (case c4 => exact rfl))
  intro dp un fr gd h₁ tk hd hu F X T N
  ((try dsimp only); (try k_fold); repeat' (first | (k_unfold; (try dsimp only)) | ((first | ((with_reducible show wpAny _ _ (call (Value.builtin "bytes.join") _) _ _ _); (refine bjoin (News.isList (by k_asm) (.head _)) (by assumption) (by assumption) ?_; intro t'z k'z)) | ((with_reducible show wpAny _ _ (call (Value.ref 177) _) _ _ _); refine' useRows (fun b => c_rows (by assumption) (by assumption) (by assumption) b) ?kF ?kN ?kX ?kT ?kh ?kd ?ku ?_; walk_at "ARGS"; intro D vs n'z h'z tk'z F'z N'z hb o1; (try (simp only [LCg.Off1, and_true] at o1))) | ((with_reducible show wpAny _ _ (call (Value.ref 170) _) _ _ _); refine' useT2 (fun b => c_line (by assumption) (by assumption) (by assumption) b) ?kF ?kN ?kX ?kT ?kh ?kd ?ku ?_; walk_at "ARGS"; intro D n'z t1 t2 h'z tk'z F'z N'z o1; (try (simp only [LCg.Off1, and_true] at o1))) | with_reducible ((with_reducible show wpAny _ _ (subscriptTail _ (Expr.Slice _ _ none _) (Value.bytes (List.toArray _) _) (Value.ref _)) _ _ _); (with_reducible rename Fr _ _ _ _ => F'z); (with_reducible rename News _ _ _ _ => N'z); (refine bcut (s := ⟨_, _, _, _, _⟩) F'z N'z (by constructor) (by constructor) (by first | assumption | omega) (by first | assumption | exact rfl) ?_); intro _ _ _ _ _) | with_reducible ((with_reducible show wpAny _ _ (call (Value.builtin "bytes.strip") _) _ _ _); (refine bstrip (by assumption) ?_; intro t'z k'z)) | with_reducible ((with_reducible show wpAny _ _ (call (Value.builtin "bytes.find") _) _ _ _); (refine bfind (by assumption) ?_; intro t'z k'z)) | with_reducible ((with_reducible show wpAny _ _ (getMethod _ (PySem.Str.ofString "join") _) _ _ _); k_dflt (refine bmethod slot_bjoin type_bjoin ?_)) | with_reducible ((with_reducible show wpAny _ _ (getMethod _ (PySem.Str.ofString "strip") _) _ _ _); k_dflt (refine bmethod slot_bstrip type_bstrip ?_)) | with_reducible ((with_reducible show wpAny _ _ (getMethod _ (PySem.Str.ofString "find") _) _ _ _); k_dflt (refine bmethod slot_bfind type_bfind ?_)) | ((with_reducible show wpAny _ _ (call (Value.ref 149) _) _ _ _); refine' useV (fun b => c_word (by assumption) (by assumption) b) ?kF ?kN ?kX ?kT ?kh ?kd ?ku ?_; walk_at "ARGS"; intro t'z h'z tk'z F'z N'z) | with_reducible ((with_reducible show wpAny _ _ (call (Value.builtin _) [Value.ref _, _]) _ _ _); k_dflt (refine' append_K ?k1h9 ?k2h9 ?k3h9 ?_ ?zh9; (case k1h9 => k_asm); (case k2h9 => k_asm); (case k3h9 => k_upd); (case zh9 => (rw [sizeLine_eq]; omega)); k_whole); intro h'z F'z N'z; (try k_sweep)) | with_reducible ((with_reducible show wpAny _ _ (eval (PySem.Expr.Name _ _) _) _ _ _); (k_dflt (first | (refine' nameX_L ?Fh9 ?vh9 ?_ ?ah9 ?bh9; (case Fh9 => k_asm); (case ah9 => rfl); (case bh9 => rfl); (case vh9 => rfl); k_whole) | (refine' nameX_K ?Fh9 ?Xh9 ?Th9 ?eh9 ?_ ?ah9 ?bh9; (case Fh9 => k_asm); (case Xh9 => k_asm); (case Th9 => k_asm); (case ah9 => rfl); (case bh9 => rfl); (case eh9 => k_is); k_whole) | (refine' nameX_B ?Fh9 ?Xh9 ?Th9 ?eh9 ?vh9 ?nh9 ?_ ?ah9 ?bh9; (case Fh9 => k_asm); (case Xh9 => k_asm); (case Th9 => k_asm); (case ah9 => rfl); (case bh9 => rfl); (case eh9 => k_is); (case vh9 => boot_fast); (case nh9 => decide); k_whole)))) | with_reducible ((with_reducible show wpAny _ _ (spliced _) _ _ _); (k_dflt (first | refine args_cons ?_ | (refine args_nil ?_; (try simp only [List.cons_append, List.nil_append]))))) | with_reducible ((with_reducible show wpAny _ _ (subscriptTail _ _ (Value.bytes (List.toArray _) _) (Value.int _ _)) _ _ _); (refine item_at (by omega) (by omega) (by omega) (by assumption) ?_)) | with_reducible ((with_reducible show wpAny _ _ (exec (PySem.Stmt.While (PySem.Expr.Constant _ _ _) _ _ _) _) _ _ _); ((rename Mk 2 => mk'z); refine Stop.mk ?_)) | with_reducible (k_closed; first | with_reducible refine PySem.W.ite_pos (by with_unfolding_all decide) ?_ | with_reducible refine PySem.W.ite_neg (by with_unfolding_all decide) ?_) | walk1); (try dsimp only); (try ((with_reducible show wpAny _ _ _ _ _ ⟨_, _, _, _ + _, _⟩); refine anyToks ?_; intro _)); (repeat ((first | with_reducible rename (_ < _ ∧ _) => hhzz | with_reducible rename (_ ≠ _ ∧ _) => hhzz | with_reducible rename ((_ ≠ _ ∧ _) ∧ _) => hhzz); have := hhzz.1; have := hhzz.2; clear hhzz))) | (dsimp only; walk1) | (leave1; (try dsimp only)) | fail "no step"))
  exact Done.ret (by k_asm) ⟨_, rfl⟩
end

section
variable {w : World} {vw : Program} {lo : List Str} {mean : ExcName → Option Value} {mg mb : Str → Option Value} {s : Shared}

noncomputable def u8Z (ys : List UInt8) : List Int := ys.map fun b => (b.toNat : Int)
theorem u8Z_arr (ys : List UInt8) : byteArr (u8Z ys) = ys.toArray := by
  unfold byteArr u8Z
  rw [List.map_map]
  congr 1
  refine (List.map_congr_left (g := _root_.id) ?_).trans (List.map_id _)
  intro b _
  show ((b.toNat : Int).toNat).toUInt8 = b
  simp
theorem u8Z_in (ys : List UInt8) : KBa.In (u8Z ys) := by
  intro n hn
  obtain ⟨b, _, rfl⟩ := List.mem_map.mp hn
  have := b.toNat_lt; omega
theorem mkB {prog : Program} {A : Around} {E : Value → Shared → Prop} {h₀ : Heap} {L D : Addr} {m : PySem.Str → Option Value} {news : List (Addr × Obj)} {vs : Array Value} {ys : List UInt8} {Q : Value → Shared → Prop} (F : Fr h₀ L s.heap m) (N : News h₀ L s.heap news) (hh : A.handled = none) (hl : s.heap.IsList D vs) (hi : IntsAre vs.toList (u8Z ys)) (hn : ys.length ≤ 1000000)
    (h : ∀ h' t' k, Fr h₀ L h' m → News h₀ L h' news → Q (.bytes ys.toArray t') { s with heap := h', toks := k }) : wpAny (model prog w) A (call (.type "bytes") [.ref D]) Q E s := by
  refine KBa.make_K F N hh (by simpa using hl) hi (u8Z_in ys) (by unfold u8Z; simp; omega) fun h' t' k F' N' _ => ?_
  rw [u8Z_arr]
  exact h h' t' k F' N'
theorem intsAre_len : ∀ {vs : List Value} {ys : List Int}, IntsAre vs ys → vs.length = ys.length
  | _, _, .nil => rfl
  | _, _, .cons _ _ r => by simp [intsAre_len r]
theorem intsAre_snoc {y : Int} {t : Tok} : ∀ {vs : List Value} {ys : List Int}, IntsAre vs ys → IntsAre (vs ++ [.int y t]) (ys ++ [y])
  | _, _, .nil => .cons _ _ .nil
  | _, _, .cons _ _ r => .cons _ _ (intsAre_snoc r)
theorem paired_ints {α : Type} {f : α → UInt8} : ∀ {l : List α} {ys : List Value}, Paired (fun c v => ∃ t, v = .int ((f c).toNat : Int) t) l ys → IntsAre ys (u8Z (l.map f))
  | _, _, .nil => .nil
  | _, _, .cons ⟨t, e⟩ r => by rw [e]; exact .cons _ _ (paired_ints r)

noncomputable def HexW (v r : Int) : Prop := (48 ≤ v ∧ v ≤ 57 ∧ r = v - 48) ∨ (65 ≤ v ∧ v ≤ 70 ∧ r = v - 55)
theorem c_hex {v r : Int} {t : Tok} (h : HexW v r) (b : Bs w vw lo mean mg mb s.heap) : Cl w 1 s (call (.ref 208) [.int v t]) (fun z _ => ∃ t', z = .int r t') := by
  refine' enter (binds := [(Str.ofString "code", .int v t)]) b ?k6 ?k7 ?k9 ?kB ?c5 ?c2 ?c3 ?c4 ?_
  ((case k6 => k_is); (case k7 => k_is); (case k9 => exact rfl); (case kB => exact locs rfl); (case c5 => decide); (case c2 => exact rfl); (case c3 => exact rfl); (case c4 => exact rfl))
  intro dp un fr gd h₁ tk hd hu F X T N
  rcases h with ⟨h1, h2, rfl⟩ | ⟨h1, h2, rfl⟩
  · ((try dsimp only); (try k_fold); repeat' (first | (k_unfold; (try dsimp only)) | ((first | with_reducible ((with_reducible show wpAny _ _ (call (Value.ref 222) _) _ _ _); refine' useV (fun b => c_unquoted (by assumption) (by assumption) b) ?kF ?kN ?kX ?kT ?kh ?kd ?ku ?_; walk_at "ARGS"; intro t'z h'z tk'z F'z N'z) | ((with_reducible show wpAny _ _ (call (Value.type "bytes") [Value.ref _]) _ _ _); refine' mkB ?kF ?kN ?kh ?klh9 ?kih9 ?knh9 ?_; (case kF => k_asm); (case kN => k_asm); (case kh => rfl); (case klh9 => exact News.isList (by k_asm) (.head _)); (case kih9 => assumption); (case knh9 => omega); intro h'z t'z k'z F'z N'z) | with_reducible ((with_reducible show wpAny _ _ (call (Value.ref 215) _) _ _ _); refine' useV (fun b => c_quoted (by assumption) (by assumption) (by assumption) b) ?kF ?kN ?kX ?kT ?kh ?kd ?ku ?_; walk_at "ARGS"; intro t'z h'z tk'z F'z N'z) | with_reducible ((with_reducible show wpAny _ _ (call (Value.ref 208) _) _ _ _); refine' useV (fun b => c_hex (by assumption) b) ?kF ?kN ?kX ?kT ?kh ?kd ?ku ?_; walk_at "ARGS"; intro t'z h'z tk'z F'z N'z) | with_reducible ((with_reducible show wpAny _ _ (call (Value.ref 177) _) _ _ _); refine' useRows (fun b => c_rows (by assumption) (by assumption) (by assumption) b) ?kF ?kN ?kX ?kT ?kh ?kd ?ku ?_; walk_at "ARGS"; intro D vs n'z h'z tk'z F'z N'z hb o1; (try (simp only [LCg.Off1, and_true] at o1))) | with_reducible ((with_reducible show wpAny _ _ (call (Value.builtin _) [Value.ref _, _]) _ _ _); k_dflt (refine' append_K ?k1h9 ?k2h9 ?k3h9 ?_ ?zh9; (case k1h9 => k_asm); (case k2h9 => k_asm); (case k3h9 => k_upd); (case zh9 => (rw [sizeLine_eq]; omega)); k_whole); intro h'z F'z N'z; (try k_sweep)) | with_reducible ((with_reducible show wpAny _ _ (eval (PySem.Expr.Name _ _) _) _ _ _); (k_dflt (first | (refine' nameX_L ?Fh9 ?vh9 ?_ ?ah9 ?bh9; (case Fh9 => k_asm); (case ah9 => rfl); (case bh9 => rfl); (case vh9 => rfl); k_whole) | (refine' nameX_K ?Fh9 ?Xh9 ?Th9 ?eh9 ?_ ?ah9 ?bh9; (case Fh9 => k_asm); (case Xh9 => k_asm); (case Th9 => k_asm); (case ah9 => rfl); (case bh9 => rfl); (case eh9 => k_is); k_whole) | (refine' nameX_B ?Fh9 ?Xh9 ?Th9 ?eh9 ?vh9 ?nh9 ?_ ?ah9 ?bh9; (case Fh9 => k_asm); (case Xh9 => k_asm); (case Th9 => k_asm); (case ah9 => rfl); (case bh9 => rfl); (case eh9 => k_is); (case vh9 => boot_fast); (case nh9 => decide); k_whole)))) | with_reducible ((with_reducible show wpAny _ _ (spliced _) _ _ _); (k_dflt (first | refine args_cons ?_ | (refine args_nil ?_; (try simp only [List.cons_append, List.nil_append]))))) | with_reducible ((with_reducible show wpAny _ _ (subscriptTail _ _ (Value.bytes (List.toArray _) _) (Value.int _ _)) _ _ _); (refine item_at (by omega) (by omega) (by omega) (by assumption) ?_)) | with_reducible ((with_reducible show wpAny _ _ (exec (PySem.Stmt.While (PySem.Expr.Compare _ _ _ _) _ _ _) _) _ _ _); ((rename Mk 2 => mk'z); refine Stop.mk ?_)) | with_reducible (k_closed; first | with_reducible refine PySem.W.ite_pos (by with_unfolding_all decide) ?_ | with_reducible refine PySem.W.ite_neg (by with_unfolding_all decide) ?_) | walk1); (try dsimp only); (try ((with_reducible show wpAny _ _ _ _ _ ⟨_, _, _, _ + _, _⟩); refine anyToks ?_; intro _)); (repeat ((first | with_reducible rename (_ < _ ∧ _) => hhzz | with_reducible rename (_ ≠ _ ∧ _) => hhzz | with_reducible rename ((_ ≠ _ ∧ _) ∧ _) => hhzz); have := hhzz.1; have := hhzz.2; clear hhzz))) | (dsimp only; walk1) | (leave1; (try dsimp only)) | fail "no step"))
    exact Done.ret (by k_asm) ⟨_, rfl⟩
  · ((try dsimp only); (try k_fold); repeat' (first | (k_unfold; (try dsimp only)) | ((first | with_reducible ((with_reducible show wpAny _ _ (call (Value.ref 222) _) _ _ _); refine' useV (fun b => c_unquoted (by assumption) (by assumption) b) ?kF ?kN ?kX ?kT ?kh ?kd ?ku ?_; walk_at "ARGS"; intro t'z h'z tk'z F'z N'z) | ((with_reducible show wpAny _ _ (call (Value.type "bytes") [Value.ref _]) _ _ _); refine' mkB ?kF ?kN ?kh ?klh9 ?kih9 ?knh9 ?_; (case kF => k_asm); (case kN => k_asm); (case kh => rfl); (case klh9 => exact News.isList (by k_asm) (.head _)); (case kih9 => assumption); (case knh9 => omega); intro h'z t'z k'z F'z N'z) | with_reducible ((with_reducible show wpAny _ _ (call (Value.ref 215) _) _ _ _); refine' useV (fun b => c_quoted (by assumption) (by assumption) (by assumption) b) ?kF ?kN ?kX ?kT ?kh ?kd ?ku ?_; walk_at "ARGS"; intro t'z h'z tk'z F'z N'z) | with_reducible ((with_reducible show wpAny _ _ (call (Value.ref 208) _) _ _ _); refine' useV (fun b => c_hex (by assumption) b) ?kF ?kN ?kX ?kT ?kh ?kd ?ku ?_; walk_at "ARGS"; intro t'z h'z tk'z F'z N'z) | with_reducible ((with_reducible show wpAny _ _ (call (Value.ref 177) _) _ _ _); refine' useRows (fun b => c_rows (by assumption) (by assumption) (by assumption) b) ?kF ?kN ?kX ?kT ?kh ?kd ?ku ?_; walk_at "ARGS"; intro D vs n'z h'z tk'z F'z N'z hb o1; (try (simp only [LCg.Off1, and_true] at o1))) | with_reducible ((with_reducible show wpAny _ _ (call (Value.builtin _) [Value.ref _, _]) _ _ _); k_dflt (refine' append_K ?k1h9 ?k2h9 ?k3h9 ?_ ?zh9; (case k1h9 => k_asm); (case k2h9 => k_asm); (case k3h9 => k_upd); (case zh9 => (rw [sizeLine_eq]; omega)); k_whole); intro h'z F'z N'z; (try k_sweep)) | with_reducible ((with_reducible show wpAny _ _ (eval (PySem.Expr.Name _ _) _) _ _ _); (k_dflt (first | (refine' nameX_L ?Fh9 ?vh9 ?_ ?ah9 ?bh9; (case Fh9 => k_asm); (case ah9 => rfl); (case bh9 => rfl); (case vh9 => rfl); k_whole) | (refine' nameX_K ?Fh9 ?Xh9 ?Th9 ?eh9 ?_ ?ah9 ?bh9; (case Fh9 => k_asm); (case Xh9 => k_asm); (case Th9 => k_asm); (case ah9 => rfl); (case bh9 => rfl); (case eh9 => k_is); k_whole) | (refine' nameX_B ?Fh9 ?Xh9 ?Th9 ?eh9 ?vh9 ?nh9 ?_ ?ah9 ?bh9; (case Fh9 => k_asm); (case Xh9 => k_asm); (case Th9 => k_asm); (case ah9 => rfl); (case bh9 => rfl); (case eh9 => k_is); (case vh9 => boot_fast); (case nh9 => decide); k_whole)))) | with_reducible ((with_reducible show wpAny _ _ (spliced _) _ _ _); (k_dflt (first | refine args_cons ?_ | (refine args_nil ?_; (try simp only [List.cons_append, List.nil_append]))))) | with_reducible ((with_reducible show wpAny _ _ (subscriptTail _ _ (Value.bytes (List.toArray _) _) (Value.int _ _)) _ _ _); (refine item_at (by omega) (by omega) (by omega) (by assumption) ?_)) | with_reducible ((with_reducible show wpAny _ _ (exec (PySem.Stmt.While (PySem.Expr.Compare _ _ _ _) _ _ _) _) _ _ _); ((rename Mk 2 => mk'z); refine Stop.mk ?_)) | with_reducible (k_closed; first | with_reducible refine PySem.W.ite_pos (by with_unfolding_all decide) ?_ | with_reducible refine PySem.W.ite_neg (by with_unfolding_all decide) ?_) | walk1); (try dsimp only); (try ((with_reducible show wpAny _ _ _ _ _ ⟨_, _, _, _ + _, _⟩); refine anyToks ?_; intro _)); (repeat ((first | with_reducible rename (_ < _ ∧ _) => hhzz | with_reducible rename (_ ≠ _ ∧ _) => hhzz | with_reducible rename ((_ ≠ _ ∧ _) ∧ _) => hhzz); have := hhzz.1; have := hhzz.2; clear hhzz))) | (dsimp only; walk1) | (leave1; (try dsimp only)) | fail "no step"))
    exact Done.ret (by k_asm) ⟨_, rfl⟩

noncomputable def QA (x : List UInt8) (i r : Int) : Prop := ∃ a b p q : Int, i + 2 < x.length ∧ ((x.getD (i + 1).toNat 0).toNat : Int) = a ∧ ((x.getD (i + 2).toNat 0).toNat : Int) = b ∧ HexW a p ∧ HexW b q ∧ r = 16 * p + q
theorem c_quoted {x : List UInt8} {i r : Int} {t t2 : Tok} (hx : x.length ≤ 1000000) (h0 : 0 ≤ i) (h : QA x i r) (b : Bs w vw lo mean mg mb s.heap) : Cl w 2 s (call (.ref 215) [.bytes x.toArray t, .int i t2]) (fun z _ => ∃ t', z = .int r t') := by
  refine' enter (binds := [(Str.ofString "data", .bytes x.toArray t), (Str.ofString "at", .int i t2)]) b ?k6 ?k7 ?k9 ?kB ?c5 ?c2 ?c3 ?c4 ?_
  ((case k6 => k_is); (case k7 => k_is); (case k9 => exact rfl); (case kB => exact locs rfl); (case c5 => decide); (case c2 => exact rfl); (case c3 => exact rfl); (case c4 => exact rfl))
  intro dp un fr gd h₁ tk hd hu F X T N
  obtain ⟨a, b', p, q, h1, h2, h3, h4, h5, rfl⟩ := h
  have hp : 0 ≤ p := by rcases h4 with h | h <;> omega
  have hq : 0 ≤ q := by rcases h5 with h | h <;> omega
  have hxs : x.toArray.size = x.length := by simp
  ((try dsimp only); (try k_fold); repeat' (first | (k_unfold; (try dsimp only)) | ((first | with_reducible ((with_reducible show wpAny _ _ (call (Value.ref 222) _) _ _ _); refine' useV (fun b => c_unquoted (by assumption) (by assumption) b) ?kF ?kN ?kX ?kT ?kh ?kd ?ku ?_; walk_at "ARGS"; intro t'z h'z tk'z F'z N'z) | ((with_reducible show wpAny _ _ (call (Value.type "bytes") [Value.ref _]) _ _ _); refine' mkB ?kF ?kN ?kh ?klh9 ?kih9 ?knh9 ?_; (case kF => k_asm); (case kN => k_asm); (case kh => rfl); (case klh9 => exact News.isList (by k_asm) (.head _)); (case kih9 => assumption); (case knh9 => omega); intro h'z t'z k'z F'z N'z) | with_reducible ((with_reducible show wpAny _ _ (call (Value.ref 215) _) _ _ _); refine' useV (fun b => c_quoted (by assumption) (by assumption) (by assumption) b) ?kF ?kN ?kX ?kT ?kh ?kd ?ku ?_; walk_at "ARGS"; intro t'z h'z tk'z F'z N'z) | with_reducible ((with_reducible show wpAny _ _ (call (Value.ref 208) _) _ _ _); refine' useV (fun b => c_hex (by assumption) b) ?kF ?kN ?kX ?kT ?kh ?kd ?ku ?_; walk_at "ARGS"; intro t'z h'z tk'z F'z N'z) | with_reducible ((with_reducible show wpAny _ _ (call (Value.ref 177) _) _ _ _); refine' useRows (fun b => c_rows (by assumption) (by assumption) (by assumption) b) ?kF ?kN ?kX ?kT ?kh ?kd ?ku ?_; walk_at "ARGS"; intro D vs n'z h'z tk'z F'z N'z hb o1; (try (simp only [LCg.Off1, and_true] at o1))) | with_reducible ((with_reducible show wpAny _ _ (call (Value.builtin _) [Value.ref _, _]) _ _ _); k_dflt (refine' append_K ?k1h9 ?k2h9 ?k3h9 ?_ ?zh9; (case k1h9 => k_asm); (case k2h9 => k_asm); (case k3h9 => k_upd); (case zh9 => (rw [sizeLine_eq]; omega)); k_whole); intro h'z F'z N'z; (try k_sweep)) | with_reducible ((with_reducible show wpAny _ _ (eval (PySem.Expr.Name _ _) _) _ _ _); (k_dflt (first | (refine' nameX_L ?Fh9 ?vh9 ?_ ?ah9 ?bh9; (case Fh9 => k_asm); (case ah9 => rfl); (case bh9 => rfl); (case vh9 => rfl); k_whole) | (refine' nameX_K ?Fh9 ?Xh9 ?Th9 ?eh9 ?_ ?ah9 ?bh9; (case Fh9 => k_asm); (case Xh9 => k_asm); (case Th9 => k_asm); (case ah9 => rfl); (case bh9 => rfl); (case eh9 => k_is); k_whole) | (refine' nameX_B ?Fh9 ?Xh9 ?Th9 ?eh9 ?vh9 ?nh9 ?_ ?ah9 ?bh9; (case Fh9 => k_asm); (case Xh9 => k_asm); (case Th9 => k_asm); (case ah9 => rfl); (case bh9 => rfl); (case eh9 => k_is); (case vh9 => boot_fast); (case nh9 => decide); k_whole)))) | with_reducible ((with_reducible show wpAny _ _ (spliced _) _ _ _); (k_dflt (first | refine args_cons ?_ | (refine args_nil ?_; (try simp only [List.cons_append, List.nil_append]))))) | with_reducible ((with_reducible show wpAny _ _ (subscriptTail _ _ (Value.bytes (List.toArray _) _) (Value.int _ _)) _ _ _); (refine item_at (by omega) (by omega) (by omega) (by assumption) ?_)) | with_reducible ((with_reducible show wpAny _ _ (exec (PySem.Stmt.While (PySem.Expr.Compare _ _ _ _) _ _ _) _) _ _ _); ((rename Mk 2 => mk'z); refine Stop.mk ?_)) | with_reducible (k_closed; first | with_reducible refine PySem.W.ite_pos (by with_unfolding_all decide) ?_ | with_reducible refine PySem.W.ite_neg (by with_unfolding_all decide) ?_) | walk1); (try dsimp only); (try ((with_reducible show wpAny _ _ _ _ _ ⟨_, _, _, _ + _, _⟩); refine anyToks ?_; intro _)); (repeat ((first | with_reducible rename (_ < _ ∧ _) => hhzz | with_reducible rename (_ ≠ _ ∧ _) => hhzz | with_reducible rename ((_ ≠ _ ∧ _) ∧ _) => hhzz); have := hhzz.1; have := hhzz.2; clear hhzz))) | (dsimp only; walk1) | (leave1; (try dsimp only)) | fail "no step"))
  all_goals first | exact Done.ret (by k_asm) ⟨_, rfl⟩ | (exfalso; omega)

noncomputable def Unq (x : List UInt8) : Int → List UInt8 → Prop
  | i, [] => i = x.length
  | i, c :: l => i < x.length ∧ ((x.getD i.toNat 0).toNat : Int) = 61 ∧ QA x i (c.toNat : Int) ∧ Unq x (i + 3) l
structure UnqI (s : Shared) (L : Addr) (x : List UInt8) (l : List UInt8) (c : Int × List UInt8 × List UInt8) (s' : Shared) : Prop where
  ex : ∃ (h : Heap) (tk : Nat) (m₀ : Str → Option Value) (D : Addr) (vs : Array Value) (n : Nat) (t2 t3 : Tok), s' = { s with heap := h, toks := tk } ∧
    Fr s.heap L h (fun y => if y = Str.ofString "line" then some (.bytes x.toArray t2) else if y = Str.ofString "codes" then some (.ref D) else if y = Str.ofString "at" then some (.int c.1 t3) else m₀ y) ∧
    News s.heap L h [(D, PySem.W.listOf vs n)] ∧ IntsAre vs.toList (u8Z c.2.1)
  i0 : 0 ≤ c.1
  sz : c.2.1.length ≤ c.1
  dec : Unq x c.1 c.2.2
  all : l = c.2.1 ++ c.2.2

theorem c_unquoted {x l : List UInt8} {t : Tok} (hx : x.length ≤ 1000000) (hdec : Unq x 0 l) (b : Bs w vw lo mean mg mb s.heap) :
    Cl w 3 s (call (.ref 222) [.bytes x.toArray t]) (fun r _ => ∃ t, r = .bytes l.toArray t) := by
  refine' enter (binds := [(Str.ofString "line", .bytes x.toArray t)]) b ?k6 ?k7 ?k9 ?kB ?c5 ?c2 ?c3 ?c4 ?_
  ((case k6 => k_is); (case k7 => k_is); (case k9 => exact rfl); (case kB => exact locs rfl); (case c5 => decide); (case c2 => exact rfl); (case c3 => exact rfl); (case c4 => exact rfl))
  intro dp un fr gd h₁ tk hd hu F X T N
  have mk2 := Mk.on 2
  ((try dsimp only); (try k_fold); repeat' (first | (k_unfold; (try dsimp only)) | ((first | with_reducible ((with_reducible show wpAny _ _ (call (Value.ref 222) _) _ _ _); refine' useV (fun b => c_unquoted (by assumption) (by assumption) b) ?kF ?kN ?kX ?kT ?kh ?kd ?ku ?_; walk_at "ARGS"; intro t'z h'z tk'z F'z N'z) | ((with_reducible show wpAny _ _ (call (Value.type "bytes") [Value.ref _]) _ _ _); refine' mkB ?kF ?kN ?kh ?klh9 ?kih9 ?knh9 ?_; (case kF => k_asm); (case kN => k_asm); (case kh => rfl); (case klh9 => exact News.isList (by k_asm) (.head _)); (case kih9 => assumption); (case knh9 => omega); intro h'z t'z k'z F'z N'z) | with_reducible ((with_reducible show wpAny _ _ (call (Value.ref 215) _) _ _ _); refine' useV (fun b => c_quoted (by assumption) (by assumption) (by assumption) b) ?kF ?kN ?kX ?kT ?kh ?kd ?ku ?_; walk_at "ARGS"; intro t'z h'z tk'z F'z N'z) | with_reducible ((with_reducible show wpAny _ _ (call (Value.ref 208) _) _ _ _); refine' useV (fun b => c_hex (by assumption) b) ?kF ?kN ?kX ?kT ?kh ?kd ?ku ?_; walk_at "ARGS"; intro t'z h'z tk'z F'z N'z) | with_reducible ((with_reducible show wpAny _ _ (call (Value.ref 177) _) _ _ _); refine' useRows (fun b => c_rows (by assumption) (by assumption) (by assumption) b) ?kF ?kN ?kX ?kT ?kh ?kd ?ku ?_; walk_at "ARGS"; intro D vs n'z h'z tk'z F'z N'z hb o1; (try (simp only [LCg.Off1, and_true] at o1))) | with_reducible ((with_reducible show wpAny _ _ (call (Value.builtin _) [Value.ref _, _]) _ _ _); k_dflt (refine' append_K ?k1h9 ?k2h9 ?k3h9 ?_ ?zh9; (case k1h9 => k_asm); (case k2h9 => k_asm); (case k3h9 => k_upd); (case zh9 => (rw [sizeLine_eq]; omega)); k_whole); intro h'z F'z N'z; (try k_sweep)) | with_reducible ((with_reducible show wpAny _ _ (eval (PySem.Expr.Name _ _) _) _ _ _); (k_dflt (first | (refine' nameX_L ?Fh9 ?vh9 ?_ ?ah9 ?bh9; (case Fh9 => k_asm); (case ah9 => rfl); (case bh9 => rfl); (case vh9 => rfl); k_whole) | (refine' nameX_K ?Fh9 ?Xh9 ?Th9 ?eh9 ?_ ?ah9 ?bh9; (case Fh9 => k_asm); (case Xh9 => k_asm); (case Th9 => k_asm); (case ah9 => rfl); (case bh9 => rfl); (case eh9 => k_is); k_whole) | (refine' nameX_B ?Fh9 ?Xh9 ?Th9 ?eh9 ?vh9 ?nh9 ?_ ?ah9 ?bh9; (case Fh9 => k_asm); (case Xh9 => k_asm); (case Th9 => k_asm); (case ah9 => rfl); (case bh9 => rfl); (case eh9 => k_is); (case vh9 => boot_fast); (case nh9 => decide); k_whole)))) | with_reducible ((with_reducible show wpAny _ _ (spliced _) _ _ _); (k_dflt (first | refine args_cons ?_ | (refine args_nil ?_; (try simp only [List.cons_append, List.nil_append]))))) | with_reducible ((with_reducible show wpAny _ _ (subscriptTail _ _ (Value.bytes (List.toArray _) _) (Value.int _ _)) _ _ _); (refine item_at (by omega) (by omega) (by omega) (by assumption) ?_)) | with_reducible ((with_reducible show wpAny _ _ (exec (PySem.Stmt.While (PySem.Expr.Compare _ _ _ _) _ _ _) _) _ _ _); ((rename Mk 2 => mk'z); refine Stop.mk ?_)) | with_reducible (k_closed; first | with_reducible refine PySem.W.ite_pos (by with_unfolding_all decide) ?_ | with_reducible refine PySem.W.ite_neg (by with_unfolding_all decide) ?_) | walk1); (try dsimp only); (try ((with_reducible show wpAny _ _ _ _ _ ⟨_, _, _, _ + _, _⟩); refine anyToks ?_; intro _)); (repeat ((first | with_reducible rename (_ < _ ∧ _) => hhzz | with_reducible rename (_ ≠ _ ∧ _) => hhzz | with_reducible rename ((_ ≠ _ ∧ _) ∧ _) => hhzz); have := hhzz.1; have := hhzz.2; clear hhzz))) | (dsimp only; walk1) | (leave1; (try dsimp only)) | fail "no step"))
  rename Mk 2 => mk2; clear mk2
  refine Stop.out ?_
  rename Fr _ _ _ _ => F1
  rename News _ _ _ _ => N1
  refine while_J (UnqI s s.heap.objs.size x l) (fun c => c.2.2.length) (0, [], l) ?_ ?_
  · exact ⟨⟨_, _, _, _, _, _, _, _, rfl, frSet (frSet (frSet F1 rfl) rfl) rfl, N1, .nil⟩, Int.le_refl _, Int.le_refl _, hdec, rfl⟩
  · rintro ⟨i, done, rest⟩ s' ⟨⟨h, tk, m₀, D, vs, n, t2, t3, rfl, F, N, hv⟩, hi, hsz, hd, hall⟩
    dsimp only at F hi hsz hd hall hv
    clear F1 N1
    have hxs : x.toArray.size = x.length := by simp
    have hvn : vs.size = done.length := by have := intsAre_len hv; simpa [u8Z] using this
    cases rest with
    | nil =>
      have hd' : i = (x.length : Int) := hd
      ((try dsimp only); (try k_fold); repeat' (first | (k_unfold; (try dsimp only)) | ((first | with_reducible ((with_reducible show wpAny _ _ (call (Value.ref 222) _) _ _ _); refine' useV (fun b => c_unquoted (by assumption) (by assumption) b) ?kF ?kN ?kX ?kT ?kh ?kd ?ku ?_; walk_at "ARGS"; intro t'z h'z tk'z F'z N'z) | ((with_reducible show wpAny _ _ (call (Value.type "bytes") [Value.ref _]) _ _ _); refine' mkB ?kF ?kN ?kh ?klh9 ?kih9 ?knh9 ?_; (case kF => k_asm); (case kN => k_asm); (case kh => rfl); (case klh9 => exact News.isList (by k_asm) (.head _)); (case kih9 => assumption); (case knh9 => omega); intro h'z t'z k'z F'z N'z) | with_reducible ((with_reducible show wpAny _ _ (call (Value.ref 215) _) _ _ _); refine' useV (fun b => c_quoted (by assumption) (by assumption) (by assumption) b) ?kF ?kN ?kX ?kT ?kh ?kd ?ku ?_; walk_at "ARGS"; intro t'z h'z tk'z F'z N'z) | with_reducible ((with_reducible show wpAny _ _ (call (Value.ref 208) _) _ _ _); refine' useV (fun b => c_hex (by assumption) b) ?kF ?kN ?kX ?kT ?kh ?kd ?ku ?_; walk_at "ARGS"; intro t'z h'z tk'z F'z N'z) | with_reducible ((with_reducible show wpAny _ _ (call (Value.ref 177) _) _ _ _); refine' useRows (fun b => c_rows (by assumption) (by assumption) (by assumption) b) ?kF ?kN ?kX ?kT ?kh ?kd ?ku ?_; walk_at "ARGS"; intro D vs n'z h'z tk'z F'z N'z hb o1; (try (simp only [LCg.Off1, and_true] at o1))) | with_reducible ((with_reducible show wpAny _ _ (call (Value.builtin _) [Value.ref _, _]) _ _ _); k_dflt (refine' append_K ?k1h9 ?k2h9 ?k3h9 ?_ ?zh9; (case k1h9 => k_asm); (case k2h9 => k_asm); (case k3h9 => k_upd); (case zh9 => (rw [sizeLine_eq]; omega)); k_whole); intro h'z F'z N'z; (try k_sweep)) | with_reducible ((with_reducible show wpAny _ _ (eval (PySem.Expr.Name _ _) _) _ _ _); (k_dflt (first | (refine' nameX_L ?Fh9 ?vh9 ?_ ?ah9 ?bh9; (case Fh9 => k_asm); (case ah9 => rfl); (case bh9 => rfl); (case vh9 => rfl); k_whole) | (refine' nameX_K ?Fh9 ?Xh9 ?Th9 ?eh9 ?_ ?ah9 ?bh9; (case Fh9 => k_asm); (case Xh9 => k_asm); (case Th9 => k_asm); (case ah9 => rfl); (case bh9 => rfl); (case eh9 => k_is); k_whole) | (refine' nameX_B ?Fh9 ?Xh9 ?Th9 ?eh9 ?vh9 ?nh9 ?_ ?ah9 ?bh9; (case Fh9 => k_asm); (case Xh9 => k_asm); (case Th9 => k_asm); (case ah9 => rfl); (case bh9 => rfl); (case eh9 => k_is); (case vh9 => boot_fast); (case nh9 => decide); k_whole)))) | with_reducible ((with_reducible show wpAny _ _ (spliced _) _ _ _); (k_dflt (first | refine args_cons ?_ | (refine args_nil ?_; (try simp only [List.cons_append, List.nil_append]))))) | with_reducible ((with_reducible show wpAny _ _ (subscriptTail _ _ (Value.bytes (List.toArray _) _) (Value.int _ _)) _ _ _); (refine item_at (by omega) (by omega) (by omega) (by assumption) ?_)) | with_reducible ((with_reducible show wpAny _ _ (exec (PySem.Stmt.While (PySem.Expr.Compare _ _ _ _) _ _ _) _) _ _ _); ((rename Mk 2 => mk'z); refine Stop.mk ?_)) | with_reducible (k_closed; first | with_reducible refine PySem.W.ite_pos (by with_unfolding_all decide) ?_ | with_reducible refine PySem.W.ite_neg (by with_unfolding_all decide) ?_) | walk1); (try dsimp only); (try ((with_reducible show wpAny _ _ _ _ _ ⟨_, _, _, _ + _, _⟩); refine anyToks ?_; intro _)); (repeat ((first | with_reducible rename (_ < _ ∧ _) => hhzz | with_reducible rename (_ ≠ _ ∧ _) => hhzz | with_reducible rename ((_ ≠ _ ∧ _) ∧ _) => hhzz); have := hhzz.1; have := hhzz.2; clear hhzz))) | (dsimp only; walk1) | (leave1; (try dsimp only)) | fail "no step"))
      rw [hall, List.append_nil]
      exact Done.ret (by k_asm) ⟨_, rfl⟩
    | cons c r =>
      obtain ⟨p1, p2, p3, hd'⟩ := hd
      have hvz : vs.size ≤ 1000000 := by omega
      have hc := c.toNat_lt
      ((try dsimp only); (try k_fold); repeat' (first | (k_unfold; (try dsimp only)) | ((first | with_reducible ((with_reducible show wpAny _ _ (call (Value.ref 222) _) _ _ _); refine' useV (fun b => c_unquoted (by assumption) (by assumption) b) ?kF ?kN ?kX ?kT ?kh ?kd ?ku ?_; walk_at "ARGS"; intro t'z h'z tk'z F'z N'z) | ((with_reducible show wpAny _ _ (call (Value.type "bytes") [Value.ref _]) _ _ _); refine' mkB ?kF ?kN ?kh ?klh9 ?kih9 ?knh9 ?_; (case kF => k_asm); (case kN => k_asm); (case kh => rfl); (case klh9 => exact News.isList (by k_asm) (.head _)); (case kih9 => assumption); (case knh9 => omega); intro h'z t'z k'z F'z N'z) | with_reducible ((with_reducible show wpAny _ _ (call (Value.ref 215) _) _ _ _); refine' useV (fun b => c_quoted (by assumption) (by assumption) (by assumption) b) ?kF ?kN ?kX ?kT ?kh ?kd ?ku ?_; walk_at "ARGS"; intro t'z h'z tk'z F'z N'z) | with_reducible ((with_reducible show wpAny _ _ (call (Value.ref 208) _) _ _ _); refine' useV (fun b => c_hex (by assumption) b) ?kF ?kN ?kX ?kT ?kh ?kd ?ku ?_; walk_at "ARGS"; intro t'z h'z tk'z F'z N'z) | with_reducible ((with_reducible show wpAny _ _ (call (Value.ref 177) _) _ _ _); refine' useRows (fun b => c_rows (by assumption) (by assumption) (by assumption) b) ?kF ?kN ?kX ?kT ?kh ?kd ?ku ?_; walk_at "ARGS"; intro D vs n'z h'z tk'z F'z N'z hb o1; (try (simp only [LCg.Off1, and_true] at o1))) | with_reducible ((with_reducible show wpAny _ _ (call (Value.builtin _) [Value.ref _, _]) _ _ _); k_dflt (refine' append_K ?k1h9 ?k2h9 ?k3h9 ?_ ?zh9; (case k1h9 => k_asm); (case k2h9 => k_asm); (case k3h9 => k_upd); (case zh9 => (rw [sizeLine_eq]; omega)); k_whole); intro h'z F'z N'z; (try k_sweep)) | with_reducible ((with_reducible show wpAny _ _ (eval (PySem.Expr.Name _ _) _) _ _ _); (k_dflt (first | (refine' nameX_L ?Fh9 ?vh9 ?_ ?ah9 ?bh9; (case Fh9 => k_asm); (case ah9 => rfl); (case bh9 => rfl); (case vh9 => rfl); k_whole) | (refine' nameX_K ?Fh9 ?Xh9 ?Th9 ?eh9 ?_ ?ah9 ?bh9; (case Fh9 => k_asm); (case Xh9 => k_asm); (case Th9 => k_asm); (case ah9 => rfl); (case bh9 => rfl); (case eh9 => k_is); k_whole) | (refine' nameX_B ?Fh9 ?Xh9 ?Th9 ?eh9 ?vh9 ?nh9 ?_ ?ah9 ?bh9; (case Fh9 => k_asm); (case Xh9 => k_asm); (case Th9 => k_asm); (case ah9 => rfl); (case bh9 => rfl); (case eh9 => k_is); (case vh9 => boot_fast); (case nh9 => decide); k_whole)))) | with_reducible ((with_reducible show wpAny _ _ (spliced _) _ _ _); (k_dflt (first | refine args_cons ?_ | (refine args_nil ?_; (try simp only [List.cons_append, List.nil_append]))))) | with_reducible ((with_reducible show wpAny _ _ (subscriptTail _ _ (Value.bytes (List.toArray _) _) (Value.int _ _)) _ _ _); (refine item_at (by omega) (by omega) (by omega) (by assumption) ?_)) | with_reducible ((with_reducible show wpAny _ _ (exec (PySem.Stmt.While (PySem.Expr.Compare _ _ _ _) _ _ _) _) _ _ _); ((rename Mk 2 => mk'z); refine Stop.mk ?_)) | with_reducible (k_closed; first | with_reducible refine PySem.W.ite_pos (by with_unfolding_all decide) ?_ | with_reducible refine PySem.W.ite_neg (by with_unfolding_all decide) ?_) | walk1); (try dsimp only); (try ((with_reducible show wpAny _ _ _ _ _ ⟨_, _, _, _ + _, _⟩); refine anyToks ?_; intro _)); (repeat ((first | with_reducible rename (_ < _ ∧ _) => hhzz | with_reducible rename (_ ≠ _ ∧ _) => hhzz | with_reducible rename ((_ ≠ _ ∧ _) ∧ _) => hhzz); have := hhzz.1; have := hhzz.2; clear hhzz))) | (dsimp only; walk1) | (leave1; (try dsimp only)) | fail "no step"))
      rename Fr _ _ _ _ => F2
      rename News _ _ _ _ => N2
      refine ⟨(i + 3, done ++ [c], r), by simp, ⟨⟨_, _, _, _, _, _, _, _, rfl, frSet (frSet (frSet F2 rfl) rfl) rfl, cb_drop N2 (fun p hp => hp), ?_⟩, ?_, ?_, hd', ?_⟩⟩
      · rw [Array.toList_push]
        show IntsAre _ (u8Z (done ++ [c]))
        unfold u8Z
        rw [List.map_append]
        exact intsAre_snoc hv
      · show 0 ≤ i + 3; omega
      · show (((done ++ [c]).length : Nat) : Int) ≤ i + 3
        rw [List.length_append, List.length_singleton]; omega
      · rw [hall]; simp
end

section
variable {w : World} {vw : Program} {lo : List Str} {mean : ExcName → Option Value} {mg mb : Str → Option Value} {s : Shared}

theorem c_wq {x l : List UInt8} {t : Tok} (hx : x.length ≤ 1000000) (hno : ∀ c ∈ x, c.toNat ≠ 95) (hdec : Unq x 0 l) (b : Bs w vw lo mean mg mb s.heap) :
    Cl w 4 s (call (.ref 227) [.bytes x.toArray t]) (fun r _ => ∃ t, r = .bytes l.toArray t) := by
  refine' enter (binds := [(Str.ofString "octets", .bytes x.toArray t)]) b ?k6 ?k7 ?k9 ?kB ?c5 ?c2 ?c3 ?c4 ?_
  ((case k6 => k_is); (case k7 => k_is); (case k9 => exact rfl); (case kB => exact locs rfl); (case c5 => decide); (case c2 => exact rfl); (case c3 => exact rfl); (case c4 => exact rfl))
  intro dp un fr gd h₁ tk hd hu F X T N
  have mk1 := Mk.on 1
  ((try dsimp only); (try k_fold); repeat' (first | (k_unfold; (try dsimp only)) | ((first | with_reducible ((with_reducible show wpAny _ _ (call (Value.ref 243) _) _ _ _); refine' useV (fun b => c_part (by assumption) (by first | assumption | omega) (by assumption) b) ?kF ?kN ?kX ?kT ?kh ?kd ?ku ?_; walk_at "ARGS"; intro t'z h'z tk'z F'z N'z) | with_reducible ((with_reducible show wpAny _ _ (call (Value.ref 236) _) _ _ _); refine' useV0 (fun b => c_wsign (by assumption) b) ?kF ?kN ?kX ?kT ?kh ?kd ?ku ?_; walk_at "ARGS"; intro h'z tk'z F'z N'z) | with_reducible ((with_reducible show wpAny _ _ (call (Value.ref 227) _) _ _ _); refine' useV (fun b => c_wq (by assumption) (by assumption) (by assumption) b) ?kF ?kN ?kX ?kT ?kh ?kd ?ku ?_; walk_at "ARGS"; intro t'z h'z tk'z F'z N'z) | with_reducible ((with_reducible show wpAny _ _ (call (Value.ref 222) _) _ _ _); refine' useV (fun b => c_unquoted (by assumption) (by assumption) b) ?kF ?kN ?kX ?kT ?kh ?kd ?ku ?_; walk_at "ARGS"; intro t'z h'z tk'z F'z N'z) | ((with_reducible show wpAny _ _ (call (Value.type "bytes") [Value.ref _]) _ _ _); refine' mkB ?kF ?kN ?kh ?klh9 ?kih9 ?knh9 ?_; (case kF => k_asm); (case kN => k_asm); (case kh => rfl); (case klh9 => exact News.isList (by k_asm) (.head _)); (case kih9 => assumption); (case knh9 => omega); intro h'z t'z k'z F'z N'z) | with_reducible ((with_reducible show wpAny _ _ (eval (PySem.Expr.Name _ _) _) _ _ _); (k_dflt (first | (refine' nameX_L ?Fh9 ?vh9 ?_ ?ah9 ?bh9; (case Fh9 => k_asm); (case ah9 => rfl); (case bh9 => rfl); (case vh9 => rfl); k_whole) | (refine' nameX_K ?Fh9 ?Xh9 ?Th9 ?eh9 ?_ ?ah9 ?bh9; (case Fh9 => k_asm); (case Xh9 => k_asm); (case Th9 => k_asm); (case ah9 => rfl); (case bh9 => rfl); (case eh9 => k_is); k_whole) | (refine' nameX_B ?Fh9 ?Xh9 ?Th9 ?eh9 ?vh9 ?nh9 ?_ ?ah9 ?bh9; (case Fh9 => k_asm); (case Xh9 => k_asm); (case Th9 => k_asm); (case ah9 => rfl); (case bh9 => rfl); (case eh9 => k_is); (case vh9 => boot_fast); (case nh9 => decide); k_whole)))) | with_reducible ((with_reducible show wpAny _ _ (spliced _) _ _ _); (k_dflt (first | refine args_cons ?_ | (refine args_nil ?_; (try simp only [List.cons_append, List.nil_append]))))) | with_reducible ((with_reducible show wpAny _ _ (subscriptTail _ _ (Value.bytes (List.toArray _) _) (Value.int _ _)) _ _ _); (refine item_at (by omega) (by omega) (by omega) (by assumption) ?_)) | with_reducible ((with_reducible show wpAny _ _ (exec (PySem.Stmt.While (PySem.Expr.BoolOp _ _ _) _ _ _) _) _ _ _); ((rename Mk 2 => mk'z); refine Stop.mk ?_)) | with_reducible ((with_reducible show wpAny _ _ (eval (PySem.Expr.ListComp _ _ _ _) _) _ _ _); ((rename Mk 1 => mk'z); refine Stop.mk ?_)) | with_reducible (k_closed; first | with_reducible refine PySem.W.ite_pos (by with_unfolding_all decide) ?_ | with_reducible refine PySem.W.ite_neg (by with_unfolding_all decide) ?_) | walk1); (try dsimp only); (try ((with_reducible show wpAny _ _ _ _ _ ⟨_, _, _, _ + _, _⟩); refine anyToks ?_; intro _)); (repeat ((first | with_reducible rename (_ < _ ∧ _) => hhzz | with_reducible rename (_ ≠ _ ∧ _) => hhzz | with_reducible rename ((_ ≠ _ ∧ _) ∧ _) => hhzz); have := hhzz.1; have := hhzz.2; clear hhzz))) | (dsimp only; walk1) | (leave1; (try dsimp only)) | fail "no step"))
  refine Stop.out ?_
  refine lc_bytes x (fun c v => ∃ t, v = .int (c.toNat : Int) t) (by with_unfolding_all rfl) (by decide) rfl (by decide) rfl rfl ?_
  refine ld F rfl ?_
  refine Stop.out ⟨t, rfl, by rw [sizeLine_eq]; omega, ?_, ?_⟩
  · intro C a u s₃ m₃ E' ha hC hn hm hk
    have b₃ := b.keeps (Kp.trans F.keep hk)
    refine Ev.keeps (H := s₃.heap) (P := fun v => ∃ t, v = .int (a.toNat : Int) t) ?_ (Kp.refl _)
    have hne : ((a.toNat : Int) == 95) = false := by
      have := hno a ha
      rw [beq_eq_false_iff_ne]; omega
    refine Ev.ifc (c := false) (P1 := fun v => v = .int (a.toNat : Int) u) (P2 := fun v => ∃ t, v = .int 95 t) (Ev.loc hn hm rfl rfl) ((Ev.glob b₃ (by k_is) rfl rfl rfl).imp fun v e => ⟨_, e⟩) ?_ ?_ ?_
    · rintro v u' rfl ⟨t', rfl⟩
      exact Ev.eqI.imp fun z e => by rw [e, hne]
    · intro h; cases h
    · intro _
      exact (Ev.loc hn hm rfl rfl).imp fun v e => ⟨_, e⟩
  intro D h' tk' nn ys hk hD hobj hp
  have F' := F.keeps hk
  have N' := addNew F N hk hD hobj
  have hi : IntsAre ys (u8Z x) := by
    have := paired_ints (f := fun c => c) hp
    simpa using this
  clear hp
  ((try dsimp only); (try k_fold); repeat' (first | (k_unfold; (try dsimp only)) | ((first | with_reducible ((with_reducible show wpAny _ _ (call (Value.ref 243) _) _ _ _); refine' useV (fun b => c_part (by assumption) (by first | assumption | omega) (by assumption) b) ?kF ?kN ?kX ?kT ?kh ?kd ?ku ?_; walk_at "ARGS"; intro t'z h'z tk'z F'z N'z) | with_reducible ((with_reducible show wpAny _ _ (call (Value.ref 236) _) _ _ _); refine' useV0 (fun b => c_wsign (by assumption) b) ?kF ?kN ?kX ?kT ?kh ?kd ?ku ?_; walk_at "ARGS"; intro h'z tk'z F'z N'z) | with_reducible ((with_reducible show wpAny _ _ (call (Value.ref 227) _) _ _ _); refine' useV (fun b => c_wq (by assumption) (by assumption) (by assumption) b) ?kF ?kN ?kX ?kT ?kh ?kd ?ku ?_; walk_at "ARGS"; intro t'z h'z tk'z F'z N'z) | with_reducible ((with_reducible show wpAny _ _ (call (Value.ref 222) _) _ _ _); refine' useV (fun b => c_unquoted (by assumption) (by assumption) b) ?kF ?kN ?kX ?kT ?kh ?kd ?ku ?_; walk_at "ARGS"; intro t'z h'z tk'z F'z N'z) | ((with_reducible show wpAny _ _ (call (Value.type "bytes") [Value.ref _]) _ _ _); refine' mkB ?kF ?kN ?kh ?klh9 ?kih9 ?knh9 ?_; (case kF => k_asm); (case kN => k_asm); (case kh => rfl); (case klh9 => exact News.isList (by k_asm) (.head _)); (case kih9 => assumption); (case knh9 => omega); intro h'z t'z k'z F'z N'z) | with_reducible ((with_reducible show wpAny _ _ (eval (PySem.Expr.Name _ _) _) _ _ _); (k_dflt (first | (refine' nameX_L ?Fh9 ?vh9 ?_ ?ah9 ?bh9; (case Fh9 => k_asm); (case ah9 => rfl); (case bh9 => rfl); (case vh9 => rfl); k_whole) | (refine' nameX_K ?Fh9 ?Xh9 ?Th9 ?eh9 ?_ ?ah9 ?bh9; (case Fh9 => k_asm); (case Xh9 => k_asm); (case Th9 => k_asm); (case ah9 => rfl); (case bh9 => rfl); (case eh9 => k_is); k_whole) | (refine' nameX_B ?Fh9 ?Xh9 ?Th9 ?eh9 ?vh9 ?nh9 ?_ ?ah9 ?bh9; (case Fh9 => k_asm); (case Xh9 => k_asm); (case Th9 => k_asm); (case ah9 => rfl); (case bh9 => rfl); (case eh9 => k_is); (case vh9 => boot_fast); (case nh9 => decide); k_whole)))) | with_reducible ((with_reducible show wpAny _ _ (spliced _) _ _ _); (k_dflt (first | refine args_cons ?_ | (refine args_nil ?_; (try simp only [List.cons_append, List.nil_append]))))) | with_reducible ((with_reducible show wpAny _ _ (subscriptTail _ _ (Value.bytes (List.toArray _) _) (Value.int _ _)) _ _ _); (refine item_at (by omega) (by omega) (by omega) (by assumption) ?_)) | with_reducible ((with_reducible show wpAny _ _ (exec (PySem.Stmt.While (PySem.Expr.BoolOp _ _ _) _ _ _) _) _ _ _); ((rename Mk 2 => mk'z); refine Stop.mk ?_)) | with_reducible ((with_reducible show wpAny _ _ (eval (PySem.Expr.ListComp _ _ _ _) _) _ _ _); ((rename Mk 1 => mk'z); refine Stop.mk ?_)) | with_reducible (k_closed; first | with_reducible refine PySem.W.ite_pos (by with_unfolding_all decide) ?_ | with_reducible refine PySem.W.ite_neg (by with_unfolding_all decide) ?_) | walk1); (try dsimp only); (try ((with_reducible show wpAny _ _ _ _ _ ⟨_, _, _, _ + _, _⟩); refine anyToks ?_; intro _)); (repeat ((first | with_reducible rename (_ < _ ∧ _) => hhzz | with_reducible rename (_ ≠ _ ∧ _) => hhzz | with_reducible rename ((_ ≠ _ ∧ _) ∧ _) => hhzz); have := hhzz.1; have := hhzz.2; clear hhzz))) | (dsimp only; walk1) | (leave1; (try dsimp only)) | fail "no step"))
  exact Done.ret (by k_asm) ⟨_, rfl⟩

noncomputable def WS (v : Int) (c : Bool) : Prop := (33 ≤ v ∧ v ≤ 126 ∧ v ≠ 63 ∧ c = true) ∨ (v = 63 ∧ c = false)
theorem c_wsign {v : Int} {c : Bool} {t : Tok} (h : WS v c) (b : Bs w vw lo mean mg mb s.heap) : Cl w 1 s (call (.ref 236) [.int v t]) (fun z _ => z = .bool c) := by
  refine' enter (binds := [(Str.ofString "code", .int v t)]) b ?k6 ?k7 ?k9 ?kB ?c5 ?c2 ?c3 ?c4 ?_
  ((case k6 => k_is); (case k7 => k_is); (case k9 => exact rfl); (case kB => exact locs rfl); (case c5 => decide); (case c2 => exact rfl); (case c3 => exact rfl); (case c4 => exact rfl))
  intro dp un fr gd h₁ tk hd hu F X T N
  rcases h with ⟨h1, h2, h3, rfl⟩ | ⟨rfl, rfl⟩
  · ((try dsimp only); (try k_fold); repeat' (first | (k_unfold; (try dsimp only)) | ((first | with_reducible ((with_reducible show wpAny _ _ (call (Value.ref 243) _) _ _ _); refine' useV (fun b => c_part (by assumption) (by first | assumption | omega) (by assumption) b) ?kF ?kN ?kX ?kT ?kh ?kd ?ku ?_; walk_at "ARGS"; intro t'z h'z tk'z F'z N'z) | with_reducible ((with_reducible show wpAny _ _ (call (Value.ref 236) _) _ _ _); refine' useV0 (fun b => c_wsign (by assumption) b) ?kF ?kN ?kX ?kT ?kh ?kd ?ku ?_; walk_at "ARGS"; intro h'z tk'z F'z N'z) | with_reducible ((with_reducible show wpAny _ _ (call (Value.ref 227) _) _ _ _); refine' useV (fun b => c_wq (by assumption) (by assumption) (by assumption) b) ?kF ?kN ?kX ?kT ?kh ?kd ?ku ?_; walk_at "ARGS"; intro t'z h'z tk'z F'z N'z) | with_reducible ((with_reducible show wpAny _ _ (call (Value.ref 222) _) _ _ _); refine' useV (fun b => c_unquoted (by assumption) (by assumption) b) ?kF ?kN ?kX ?kT ?kh ?kd ?ku ?_; walk_at "ARGS"; intro t'z h'z tk'z F'z N'z) | ((with_reducible show wpAny _ _ (call (Value.type "bytes") [Value.ref _]) _ _ _); refine' mkB ?kF ?kN ?kh ?klh9 ?kih9 ?knh9 ?_; (case kF => k_asm); (case kN => k_asm); (case kh => rfl); (case klh9 => exact News.isList (by k_asm) (.head _)); (case kih9 => assumption); (case knh9 => omega); intro h'z t'z k'z F'z N'z) | with_reducible ((with_reducible show wpAny _ _ (eval (PySem.Expr.Name _ _) _) _ _ _); (k_dflt (first | (refine' nameX_L ?Fh9 ?vh9 ?_ ?ah9 ?bh9; (case Fh9 => k_asm); (case ah9 => rfl); (case bh9 => rfl); (case vh9 => rfl); k_whole) | (refine' nameX_K ?Fh9 ?Xh9 ?Th9 ?eh9 ?_ ?ah9 ?bh9; (case Fh9 => k_asm); (case Xh9 => k_asm); (case Th9 => k_asm); (case ah9 => rfl); (case bh9 => rfl); (case eh9 => k_is); k_whole) | (refine' nameX_B ?Fh9 ?Xh9 ?Th9 ?eh9 ?vh9 ?nh9 ?_ ?ah9 ?bh9; (case Fh9 => k_asm); (case Xh9 => k_asm); (case Th9 => k_asm); (case ah9 => rfl); (case bh9 => rfl); (case eh9 => k_is); (case vh9 => boot_fast); (case nh9 => decide); k_whole)))) | with_reducible ((with_reducible show wpAny _ _ (spliced _) _ _ _); (k_dflt (first | refine args_cons ?_ | (refine args_nil ?_; (try simp only [List.cons_append, List.nil_append]))))) | with_reducible ((with_reducible show wpAny _ _ (subscriptTail _ _ (Value.bytes (List.toArray _) _) (Value.int _ _)) _ _ _); (refine item_at (by omega) (by omega) (by omega) (by assumption) ?_)) | with_reducible ((with_reducible show wpAny _ _ (exec (PySem.Stmt.While (PySem.Expr.BoolOp _ _ _) _ _ _) _) _ _ _); ((rename Mk 2 => mk'z); refine Stop.mk ?_)) | with_reducible ((with_reducible show wpAny _ _ (eval (PySem.Expr.ListComp _ _ _ _) _) _ _ _); ((rename Mk 1 => mk'z); refine Stop.mk ?_)) | with_reducible (k_closed; first | with_reducible refine PySem.W.ite_pos (by with_unfolding_all decide) ?_ | with_reducible refine PySem.W.ite_neg (by with_unfolding_all decide) ?_) | walk1); (try dsimp only); (try ((with_reducible show wpAny _ _ _ _ _ ⟨_, _, _, _ + _, _⟩); refine anyToks ?_; intro _)); (repeat ((first | with_reducible rename (_ < _ ∧ _) => hhzz | with_reducible rename (_ ≠ _ ∧ _) => hhzz | with_reducible rename ((_ ≠ _ ∧ _) ∧ _) => hhzz); have := hhzz.1; have := hhzz.2; clear hhzz))) | (dsimp only; walk1) | (leave1; (try dsimp only)) | fail "no step"))
    all_goals exact Done.ret (by k_asm) (congrArg Value.bool (by simpa using h3))
  · ((try dsimp only); (try k_fold); repeat' (first | (k_unfold; (try dsimp only)) | ((first | with_reducible ((with_reducible show wpAny _ _ (call (Value.ref 243) _) _ _ _); refine' useV (fun b => c_part (by assumption) (by first | assumption | omega) (by assumption) b) ?kF ?kN ?kX ?kT ?kh ?kd ?ku ?_; walk_at "ARGS"; intro t'z h'z tk'z F'z N'z) | with_reducible ((with_reducible show wpAny _ _ (call (Value.ref 236) _) _ _ _); refine' useV0 (fun b => c_wsign (by assumption) b) ?kF ?kN ?kX ?kT ?kh ?kd ?ku ?_; walk_at "ARGS"; intro h'z tk'z F'z N'z) | with_reducible ((with_reducible show wpAny _ _ (call (Value.ref 227) _) _ _ _); refine' useV (fun b => c_wq (by assumption) (by assumption) (by assumption) b) ?kF ?kN ?kX ?kT ?kh ?kd ?ku ?_; walk_at "ARGS"; intro t'z h'z tk'z F'z N'z) | with_reducible ((with_reducible show wpAny _ _ (call (Value.ref 222) _) _ _ _); refine' useV (fun b => c_unquoted (by assumption) (by assumption) b) ?kF ?kN ?kX ?kT ?kh ?kd ?ku ?_; walk_at "ARGS"; intro t'z h'z tk'z F'z N'z) | ((with_reducible show wpAny _ _ (call (Value.type "bytes") [Value.ref _]) _ _ _); refine' mkB ?kF ?kN ?kh ?klh9 ?kih9 ?knh9 ?_; (case kF => k_asm); (case kN => k_asm); (case kh => rfl); (case klh9 => exact News.isList (by k_asm) (.head _)); (case kih9 => assumption); (case knh9 => omega); intro h'z t'z k'z F'z N'z) | with_reducible ((with_reducible show wpAny _ _ (eval (PySem.Expr.Name _ _) _) _ _ _); (k_dflt (first | (refine' nameX_L ?Fh9 ?vh9 ?_ ?ah9 ?bh9; (case Fh9 => k_asm); (case ah9 => rfl); (case bh9 => rfl); (case vh9 => rfl); k_whole) | (refine' nameX_K ?Fh9 ?Xh9 ?Th9 ?eh9 ?_ ?ah9 ?bh9; (case Fh9 => k_asm); (case Xh9 => k_asm); (case Th9 => k_asm); (case ah9 => rfl); (case bh9 => rfl); (case eh9 => k_is); k_whole) | (refine' nameX_B ?Fh9 ?Xh9 ?Th9 ?eh9 ?vh9 ?nh9 ?_ ?ah9 ?bh9; (case Fh9 => k_asm); (case Xh9 => k_asm); (case Th9 => k_asm); (case ah9 => rfl); (case bh9 => rfl); (case eh9 => k_is); (case vh9 => boot_fast); (case nh9 => decide); k_whole)))) | with_reducible ((with_reducible show wpAny _ _ (spliced _) _ _ _); (k_dflt (first | refine args_cons ?_ | (refine args_nil ?_; (try simp only [List.cons_append, List.nil_append]))))) | with_reducible ((with_reducible show wpAny _ _ (subscriptTail _ _ (Value.bytes (List.toArray _) _) (Value.int _ _)) _ _ _); (refine item_at (by omega) (by omega) (by omega) (by assumption) ?_)) | with_reducible ((with_reducible show wpAny _ _ (exec (PySem.Stmt.While (PySem.Expr.BoolOp _ _ _) _ _ _) _) _ _ _); ((rename Mk 2 => mk'z); refine Stop.mk ?_)) | with_reducible ((with_reducible show wpAny _ _ (eval (PySem.Expr.ListComp _ _ _ _) _) _ _ _); ((rename Mk 1 => mk'z); refine Stop.mk ?_)) | with_reducible (k_closed; first | with_reducible refine PySem.W.ite_pos (by with_unfolding_all decide) ?_ | with_reducible refine PySem.W.ite_neg (by with_unfolding_all decide) ?_) | walk1); (try dsimp only); (try ((with_reducible show wpAny _ _ _ _ _ ⟨_, _, _, _ + _, _⟩); refine anyToks ?_; intro _)); (repeat ((first | with_reducible rename (_ < _ ∧ _) => hhzz | with_reducible rename (_ ≠ _ ∧ _) => hhzz | with_reducible rename ((_ ≠ _ ∧ _) ∧ _) => hhzz); have := hhzz.1; have := hhzz.2; clear hhzz))) | (dsimp only; walk1) | (leave1; (try dsimp only)) | fail "no step"))
    exact Done.ret (by k_asm) rfl

noncomputable def PE (x : List UInt8) (i r : Int) : Prop := i ≤ r ∧ r < x.length ∧ ((x.getD r.toNat 0).toNat : Int) = 63 ∧ ∀ k : Int, i ≤ k → k < r → 33 ≤ ((x.getD k.toNat 0).toNat : Int) ∧ ((x.getD k.toNat 0).toNat : Int) ≤ 126 ∧ ((x.getD k.toNat 0).toNat : Int) ≠ 63
structure PeI (s : Shared) (L : Addr) (x : List UInt8) (i r : Int) (c : Int) (s' : Shared) : Prop where
  ex : ∃ (h : Heap) (tk : Nat) (m₀ : Str → Option Value) (t2 t3 : Tok), s' = { s with heap := h, toks := tk } ∧
    Fr s.heap L h (fun y => if y = Str.ofString "octets" then some (.bytes x.toArray t2) else if y = Str.ofString "here" then some (.int c t3) else m₀ y) ∧ News s.heap L h []
  lo : i ≤ c
  hi : c ≤ r
theorem c_part {x : List UInt8} {i r : Int} {t t2 : Tok} (hx : x.length ≤ 1000000) (h0 : 0 ≤ i) (h : PE x i r) (b : Bs w vw lo mean mg mb s.heap) :
    Cl w 2 s (call (.ref 243) [.bytes x.toArray t, .int i t2]) (fun z _ => ∃ t, z = .int r t) := by
  refine' enter (binds := [(Str.ofString "octets", .bytes x.toArray t), (Str.ofString "at", .int i t2)]) b ?k6 ?k7 ?k9 ?kB ?c5 ?c2 ?c3 ?c4 ?_
  ((case k6 => k_is); (case k7 => k_is); (case k9 => exact rfl); (case kB => exact locs rfl); (case c5 => decide); (case c2 => exact rfl); (case c3 => exact rfl); (case c4 => exact rfl))
  intro dp un fr gd h₁ tk hd hu F X T N
  obtain ⟨h1, h2, h3, h4⟩ := h
  have mk2 := Mk.on 2
  ((try dsimp only); (try k_fold); repeat' (first | (k_unfold; (try dsimp only)) | ((first | with_reducible ((with_reducible show wpAny _ _ (call (Value.ref 243) _) _ _ _); refine' useV (fun b => c_part (by assumption) (by first | assumption | omega) (by assumption) b) ?kF ?kN ?kX ?kT ?kh ?kd ?ku ?_; walk_at "ARGS"; intro t'z h'z tk'z F'z N'z) | with_reducible ((with_reducible show wpAny _ _ (call (Value.ref 236) _) _ _ _); refine' useV0 (fun b => c_wsign (by assumption) b) ?kF ?kN ?kX ?kT ?kh ?kd ?ku ?_; walk_at "ARGS"; intro h'z tk'z F'z N'z) | with_reducible ((with_reducible show wpAny _ _ (call (Value.ref 227) _) _ _ _); refine' useV (fun b => c_wq (by assumption) (by assumption) (by assumption) b) ?kF ?kN ?kX ?kT ?kh ?kd ?ku ?_; walk_at "ARGS"; intro t'z h'z tk'z F'z N'z) | with_reducible ((with_reducible show wpAny _ _ (call (Value.ref 222) _) _ _ _); refine' useV (fun b => c_unquoted (by assumption) (by assumption) b) ?kF ?kN ?kX ?kT ?kh ?kd ?ku ?_; walk_at "ARGS"; intro t'z h'z tk'z F'z N'z) | ((with_reducible show wpAny _ _ (call (Value.type "bytes") [Value.ref _]) _ _ _); refine' mkB ?kF ?kN ?kh ?klh9 ?kih9 ?knh9 ?_; (case kF => k_asm); (case kN => k_asm); (case kh => rfl); (case klh9 => exact News.isList (by k_asm) (.head _)); (case kih9 => assumption); (case knh9 => omega); intro h'z t'z k'z F'z N'z) | with_reducible ((with_reducible show wpAny _ _ (eval (PySem.Expr.Name _ _) _) _ _ _); (k_dflt (first | (refine' nameX_L ?Fh9 ?vh9 ?_ ?ah9 ?bh9; (case Fh9 => k_asm); (case ah9 => rfl); (case bh9 => rfl); (case vh9 => rfl); k_whole) | (refine' nameX_K ?Fh9 ?Xh9 ?Th9 ?eh9 ?_ ?ah9 ?bh9; (case Fh9 => k_asm); (case Xh9 => k_asm); (case Th9 => k_asm); (case ah9 => rfl); (case bh9 => rfl); (case eh9 => k_is); k_whole) | (refine' nameX_B ?Fh9 ?Xh9 ?Th9 ?eh9 ?vh9 ?nh9 ?_ ?ah9 ?bh9; (case Fh9 => k_asm); (case Xh9 => k_asm); (case Th9 => k_asm); (case ah9 => rfl); (case bh9 => rfl); (case eh9 => k_is); (case vh9 => boot_fast); (case nh9 => decide); k_whole)))) | with_reducible ((with_reducible show wpAny _ _ (spliced _) _ _ _); (k_dflt (first | refine args_cons ?_ | (refine args_nil ?_; (try simp only [List.cons_append, List.nil_append]))))) | with_reducible ((with_reducible show wpAny _ _ (subscriptTail _ _ (Value.bytes (List.toArray _) _) (Value.int _ _)) _ _ _); (refine item_at (by omega) (by omega) (by omega) (by assumption) ?_)) | with_reducible ((with_reducible show wpAny _ _ (exec (PySem.Stmt.While (PySem.Expr.BoolOp _ _ _) _ _ _) _) _ _ _); ((rename Mk 2 => mk'z); refine Stop.mk ?_)) | with_reducible ((with_reducible show wpAny _ _ (eval (PySem.Expr.ListComp _ _ _ _) _) _ _ _); ((rename Mk 1 => mk'z); refine Stop.mk ?_)) | with_reducible (k_closed; first | with_reducible refine PySem.W.ite_pos (by with_unfolding_all decide) ?_ | with_reducible refine PySem.W.ite_neg (by with_unfolding_all decide) ?_) | walk1); (try dsimp only); (try ((with_reducible show wpAny _ _ _ _ _ ⟨_, _, _, _ + _, _⟩); refine anyToks ?_; intro _)); (repeat ((first | with_reducible rename (_ < _ ∧ _) => hhzz | with_reducible rename (_ ≠ _ ∧ _) => hhzz | with_reducible rename ((_ ≠ _ ∧ _) ∧ _) => hhzz); have := hhzz.1; have := hhzz.2; clear hhzz))) | (dsimp only; walk1) | (leave1; (try dsimp only)) | fail "no step"))
  rename Mk 2 => mk2; clear mk2
  refine Stop.out ?_
  rename Fr _ _ _ _ => F1
  rename News _ _ _ _ => N1
  refine while_J (PeI s s.heap.objs.size x i r) (fun c => (r - c).toNat) i ?_ ?_
  · exact ⟨⟨_, _, _, _, _, rfl, frSet (frSet F1 rfl) rfl, N1⟩, Int.le_refl _, h1⟩
  · rintro c s' ⟨⟨h, tk, m₀, t2, t3, rfl, F, N⟩, hlo, hhi⟩
    clear F1 N1
    have hxs : x.toArray.size = x.length := by simp
    by_cases hc : c = r
    · subst hc
      have hw : WS 63 false := .inr ⟨rfl, rfl⟩
      ((try dsimp only); (try k_fold); repeat' (first | (k_unfold; (try dsimp only)) | ((first | with_reducible ((with_reducible show wpAny _ _ (call (Value.ref 243) _) _ _ _); refine' useV (fun b => c_part (by assumption) (by first | assumption | omega) (by assumption) b) ?kF ?kN ?kX ?kT ?kh ?kd ?ku ?_; walk_at "ARGS"; intro t'z h'z tk'z F'z N'z) | with_reducible ((with_reducible show wpAny _ _ (call (Value.ref 236) _) _ _ _); refine' useV0 (fun b => c_wsign (by assumption) b) ?kF ?kN ?kX ?kT ?kh ?kd ?ku ?_; walk_at "ARGS"; intro h'z tk'z F'z N'z) | with_reducible ((with_reducible show wpAny _ _ (call (Value.ref 227) _) _ _ _); refine' useV (fun b => c_wq (by assumption) (by assumption) (by assumption) b) ?kF ?kN ?kX ?kT ?kh ?kd ?ku ?_; walk_at "ARGS"; intro t'z h'z tk'z F'z N'z) | with_reducible ((with_reducible show wpAny _ _ (call (Value.ref 222) _) _ _ _); refine' useV (fun b => c_unquoted (by assumption) (by assumption) b) ?kF ?kN ?kX ?kT ?kh ?kd ?ku ?_; walk_at "ARGS"; intro t'z h'z tk'z F'z N'z) | ((with_reducible show wpAny _ _ (call (Value.type "bytes") [Value.ref _]) _ _ _); refine' mkB ?kF ?kN ?kh ?klh9 ?kih9 ?knh9 ?_; (case kF => k_asm); (case kN => k_asm); (case kh => rfl); (case klh9 => exact News.isList (by k_asm) (.head _)); (case kih9 => assumption); (case knh9 => omega); intro h'z t'z k'z F'z N'z) | with_reducible ((with_reducible show wpAny _ _ (eval (PySem.Expr.Name _ _) _) _ _ _); (k_dflt (first | (refine' nameX_L ?Fh9 ?vh9 ?_ ?ah9 ?bh9; (case Fh9 => k_asm); (case ah9 => rfl); (case bh9 => rfl); (case vh9 => rfl); k_whole) | (refine' nameX_K ?Fh9 ?Xh9 ?Th9 ?eh9 ?_ ?ah9 ?bh9; (case Fh9 => k_asm); (case Xh9 => k_asm); (case Th9 => k_asm); (case ah9 => rfl); (case bh9 => rfl); (case eh9 => k_is); k_whole) | (refine' nameX_B ?Fh9 ?Xh9 ?Th9 ?eh9 ?vh9 ?nh9 ?_ ?ah9 ?bh9; (case Fh9 => k_asm); (case Xh9 => k_asm); (case Th9 => k_asm); (case ah9 => rfl); (case bh9 => rfl); (case eh9 => k_is); (case vh9 => boot_fast); (case nh9 => decide); k_whole)))) | with_reducible ((with_reducible show wpAny _ _ (spliced _) _ _ _); (k_dflt (first | refine args_cons ?_ | (refine args_nil ?_; (try simp only [List.cons_append, List.nil_append]))))) | with_reducible ((with_reducible show wpAny _ _ (subscriptTail _ _ (Value.bytes (List.toArray _) _) (Value.int _ _)) _ _ _); (refine item_at (by omega) (by omega) (by omega) (by assumption) ?_)) | with_reducible ((with_reducible show wpAny _ _ (exec (PySem.Stmt.While (PySem.Expr.BoolOp _ _ _) _ _ _) _) _ _ _); ((rename Mk 2 => mk'z); refine Stop.mk ?_)) | with_reducible ((with_reducible show wpAny _ _ (eval (PySem.Expr.ListComp _ _ _ _) _) _ _ _); ((rename Mk 1 => mk'z); refine Stop.mk ?_)) | with_reducible (k_closed; first | with_reducible refine PySem.W.ite_pos (by with_unfolding_all decide) ?_ | with_reducible refine PySem.W.ite_neg (by with_unfolding_all decide) ?_) | walk1); (try dsimp only); (try ((with_reducible show wpAny _ _ _ _ _ ⟨_, _, _, _ + _, _⟩); refine anyToks ?_; intro _)); (repeat ((first | with_reducible rename (_ < _ ∧ _) => hhzz | with_reducible rename (_ ≠ _ ∧ _) => hhzz | with_reducible rename ((_ ≠ _ ∧ _) ∧ _) => hhzz); have := hhzz.1; have := hhzz.2; clear hhzz))) | (dsimp only; walk1) | (leave1; (try dsimp only)) | fail "no step"))
      exact Done.ret (by k_asm) ⟨_, rfl⟩
    · obtain ⟨v, hv⟩ : ∃ v, ((x.getD c.toNat 0).toNat : Int) = v := ⟨_, rfl⟩
      have hw : WS v true := by rw [← hv]; exact .inl ⟨(h4 c hlo (by omega)).1, (h4 c hlo (by omega)).2.1, (h4 c hlo (by omega)).2.2, rfl⟩
      ((try dsimp only); (try k_fold); repeat' (first | (k_unfold; (try dsimp only)) | ((first | with_reducible ((with_reducible show wpAny _ _ (call (Value.ref 243) _) _ _ _); refine' useV (fun b => c_part (by assumption) (by first | assumption | omega) (by assumption) b) ?kF ?kN ?kX ?kT ?kh ?kd ?ku ?_; walk_at "ARGS"; intro t'z h'z tk'z F'z N'z) | with_reducible ((with_reducible show wpAny _ _ (call (Value.ref 236) _) _ _ _); refine' useV0 (fun b => c_wsign (by assumption) b) ?kF ?kN ?kX ?kT ?kh ?kd ?ku ?_; walk_at "ARGS"; intro h'z tk'z F'z N'z) | with_reducible ((with_reducible show wpAny _ _ (call (Value.ref 227) _) _ _ _); refine' useV (fun b => c_wq (by assumption) (by assumption) (by assumption) b) ?kF ?kN ?kX ?kT ?kh ?kd ?ku ?_; walk_at "ARGS"; intro t'z h'z tk'z F'z N'z) | with_reducible ((with_reducible show wpAny _ _ (call (Value.ref 222) _) _ _ _); refine' useV (fun b => c_unquoted (by assumption) (by assumption) b) ?kF ?kN ?kX ?kT ?kh ?kd ?ku ?_; walk_at "ARGS"; intro t'z h'z tk'z F'z N'z) | ((with_reducible show wpAny _ _ (call (Value.type "bytes") [Value.ref _]) _ _ _); refine' mkB ?kF ?kN ?kh ?klh9 ?kih9 ?knh9 ?_; (case kF => k_asm); (case kN => k_asm); (case kh => rfl); (case klh9 => exact News.isList (by k_asm) (.head _)); (case kih9 => assumption); (case knh9 => omega); intro h'z t'z k'z F'z N'z) | with_reducible ((with_reducible show wpAny _ _ (eval (PySem.Expr.Name _ _) _) _ _ _); (k_dflt (first | (refine' nameX_L ?Fh9 ?vh9 ?_ ?ah9 ?bh9; (case Fh9 => k_asm); (case ah9 => rfl); (case bh9 => rfl); (case vh9 => rfl); k_whole) | (refine' nameX_K ?Fh9 ?Xh9 ?Th9 ?eh9 ?_ ?ah9 ?bh9; (case Fh9 => k_asm); (case Xh9 => k_asm); (case Th9 => k_asm); (case ah9 => rfl); (case bh9 => rfl); (case eh9 => k_is); k_whole) | (refine' nameX_B ?Fh9 ?Xh9 ?Th9 ?eh9 ?vh9 ?nh9 ?_ ?ah9 ?bh9; (case Fh9 => k_asm); (case Xh9 => k_asm); (case Th9 => k_asm); (case ah9 => rfl); (case bh9 => rfl); (case eh9 => k_is); (case vh9 => boot_fast); (case nh9 => decide); k_whole)))) | with_reducible ((with_reducible show wpAny _ _ (spliced _) _ _ _); (k_dflt (first | refine args_cons ?_ | (refine args_nil ?_; (try simp only [List.cons_append, List.nil_append]))))) | with_reducible ((with_reducible show wpAny _ _ (subscriptTail _ _ (Value.bytes (List.toArray _) _) (Value.int _ _)) _ _ _); (refine item_at (by omega) (by omega) (by omega) (by assumption) ?_)) | with_reducible ((with_reducible show wpAny _ _ (exec (PySem.Stmt.While (PySem.Expr.BoolOp _ _ _) _ _ _) _) _ _ _); ((rename Mk 2 => mk'z); refine Stop.mk ?_)) | with_reducible ((with_reducible show wpAny _ _ (eval (PySem.Expr.ListComp _ _ _ _) _) _ _ _); ((rename Mk 1 => mk'z); refine Stop.mk ?_)) | with_reducible (k_closed; first | with_reducible refine PySem.W.ite_pos (by with_unfolding_all decide) ?_ | with_reducible refine PySem.W.ite_neg (by with_unfolding_all decide) ?_) | walk1); (try dsimp only); (try ((with_reducible show wpAny _ _ _ _ _ ⟨_, _, _, _ + _, _⟩); refine anyToks ?_; intro _)); (repeat ((first | with_reducible rename (_ < _ ∧ _) => hhzz | with_reducible rename (_ ≠ _ ∧ _) => hhzz | with_reducible rename ((_ ≠ _ ∧ _) ∧ _) => hhzz); have := hhzz.1; have := hhzz.2; clear hhzz))) | (dsimp only; walk1) | (leave1; (try dsimp only)) | fail "no step"))
      rename Fr _ _ _ _ => F2
      rename News _ _ _ _ => N2
      refine ⟨c + 1, by show (r - (c + 1)).toNat < (r - c).toNat; omega, ⟨_, _, _, _, _, rfl, frSet (frSet F2 rfl) rfl, N2⟩, by omega, by omega⟩
end

theorem enterC {w : World} {vw : Program} {lo : List Str} {mean : ExcName → Option Value} {mg mb : Str → Option Value} {n : Nat} {s : Shared} {f : Addr} {args : List Value} {P : Value → Heap → Prop}
    {name qual : Str} {params : Arguments} {body : List Stmt} {scope : Scope} {dV kV doc pm cdv ct oc : Value} {an od : Option Addr} {osl : Array (Option Value)} {binds : List (Str × Value)}
    (b : Bs w vw lo mean mg mb s.heap)
    (ho : (hd.heap_39 w.params).lookup f = some ⟨oc, od, .func (fnOf name qual params body scope dV kV doc pm an cdv ct), osl⟩) (hcd : codeIn (hd.heap_39 w.params) cdv qual = true)
    (hbind : bindArgs (fnOf name qual params body scope dV kV doc pm an cdv ct) ⟨args, []⟩ = pure binds) (hkind : (binds.all fun y => scope.names.lookup y.1 == some .local || scope.names.lookup y.1 == some .cell) = true)
    (hnd : ((cellsFrom 0 scope.names []).map (·.1)).Nodup) (hco : scope.isCoroutine = false) (hgen : scope.isGenerator = false) (hk : scope.kind = .function)
    (h : ∀ dp un fr gd h₁ tk cells, dp + n < recursionLimit → un + 8 * n < cLine → Fr s.heap s.heap.objs.size h₁ (bindL (envOfC qual scope s.heap.objs.size f cdv).kindOf binds fun _ => none) → (hd.heap_39 w.params).In s.heap → Top vw lo mean mg mb s.heap → News s.heap s.heap.objs.size h₁ cells →
      CellsAre (bindC (envOfC qual scope s.heap.objs.size f cdv).kindOf binds fun _ => none) (cellsFrom (s.heap.objs.size + 1) scope.names []) cells →
      wpAny (model Pg w) ⟨none, dp, fr, gd, un⟩ (execs body (envOfC qual scope s.heap.objs.size f cdv)) (Done s P) (fun _ _ => False) { s with heap := h₁, toks := tk }) :
    Cl w (n + 1) s (call (.ref f) args) P := by
  intro A Q E hh hd hu hQ
  obtain ⟨hnn, dp, fr, gd, un⟩ := A
  subst hh
  refine wpAny_call ?_
  dsimp only at hd hu
  refine codeAny_call_function (by dsimp only; omega) (b.X _ _ ho) rfl hco hgen rfl (codeRec_of b.X hcd) ?_
  rw [hbind]
  refine wpAny_pure ?_
  refine wpAny_newFunctionEnv_cells hk (kindsX hkind _) fun env' he s' x => ?_
  subst he
  refine ⟨b.T.nolimit.keeps x.toInCall.keep, codeAny_func ?_⟩
  obtain ⟨h₁, tk, rfl, _⟩ := x.done
  have hk₁ := x.toInCall.keep
  obtain ⟨cells, NC, Y⟩ := PyProof.Rows.Cl.news (h₀ := s.heap) (Nat.le_refl _) fun n c hm => ⟨x.cell n c (lookup_of_mem_nodup (cellsFrom_names scope.names 0 (s.heap.objs.size + 1) [] [] rfl ▸ hnd) hm), x.above n c hm⟩
  have F : Fr s.heap s.heap.objs.size h₁ (bindL (envOfC qual scope s.heap.objs.size f cdv).kindOf binds fun _ => none) := ⟨x.toInCall.ns, hk₁, Nat.le_refl _⟩
  have := h (dp + 1) (un + 3) (fr.map (envOfC qual scope s.heap.objs.size f cdv :: ·)) gd h₁ tk cells (by omega) (by omega) F b.X b.T NC Y
  refine wpAny_mono this (fun fl s' hd => ?_) fun _ _ x => x.elim
  obtain ⟨v, h', tk, e, rfl, k, p⟩ := hd
  rcases e with rfl | ⟨rfl, rfl⟩
  · exact hQ _ h' tk k p
  · exact hQ _ h' tk k p
section
variable {prog : Program} {w : World} {A : Around} {E : Value → Shared → Prop} {s : Shared} {h₀ : Heap} {L : Addr} {m : Str → Option Value} {news : List (Addr × Obj)} {value slice : PySem.Expr} {l : Addr} {items : Array Value} {n : Nat} {k : Int} {u : Tok} {v : Value} {Q : Value → Shared → Prop}
theorem lit_item (N : News h₀ L s.heap news) (hm : (l, PySem.W.listOf items n) ∈ news) (h0 : 0 ≤ k) (hhi : k < 2 ^ 63) (hx : items.toList[k.toNat]? = some v) (h : Q v s)
    (hs : subscripted slice false (.ref l) (.int k u) = operate [.ref l, .int k u] (getItem (.ref l) (.int k u)) := by with_unfolding_all rfl) :
    wpAny (model prog w) A (subscriptTail value slice (.ref l) (.int k u)) Q E s :=
  have hl := News.isList N hm
  tail_any hl.typeIs slot_list_getitem.lookup (wpAny_getItem_list hl h0 hhi (by rw [← Array.getElem?_toList]; exact hx) h) hs
theorem lit_back (N : News h₀ L s.heap news) (hm : (l, PySem.W.listOf items n) ∈ news) (h1 : 0 < items.size) (hx : items.toList[items.toList.length - 1]? = some v) (h : Q v s)
    (hs : subscripted slice false (.ref l) (.int (-1) u) = operate [.ref l, .int (-1) u] (getItem (.ref l) (.int (-1) u)) := by with_unfolding_all rfl) :
    wpAny (model prog w) A (subscriptTail value slice (.ref l) (.int (-1) u)) Q E s :=
  have hl := News.isList N hm
  tail_any hl.typeIs slot_list_getitem.lookup (wpAny_getItem_list_neg hl (by decide) (by omega) (by decide) (by rw [show ((-1 : Int) + items.size).toNat = items.size - 1 from by omega, ← Array.getElem?_toList, ← Array.length_toList]; exact hx) h) hs
end
section
variable {w : World} {vw : Program} {lo : List Str} {mean : ExcName → Option Value} {mg mb : Str → Option Value} {s : Shared}
noncomputable def isTup4 (R1 R2 R3 R4 : Tok → Value) (H : Heap) (r : Value) (h : Heap) : Prop := ∃ D n t1 t2 t3 t4, r = .ref D ∧ H.get? D = none ∧ h.get? D = some (tupO [R1 t1, R2 t2, R3 t3, R4 t4] n)
theorem Done.tup4 {R1 R2 R3 R4 : Tok → Value} {D L : Addr} {n : Nat} {t1 t2 t3 t4 : Tok} {h' : Heap} {tk : Nat} {m : Str → Option Value} {news : List (Addr × Obj)} (F : Fr s.heap L h' m) (N : News s.heap L h' ((D, tupO [R1 t1, R2 t2, R3 t3, R4 t4] n) :: news)) :
    Done s (isTup4 R1 R2 R3 R4 s.heap) (.ret (.ref D)) { s with heap := h', toks := tk } := Done.ret F ⟨D, n, t1, t2, t3, t4, rfl, (N _ (.head _)).2.2, (N _ (.head _)).1⟩
theorem useT4 {w : World} {n : Nat} {s : Shared} {c : Sem Value} {A : Around} {Q E : Value → Shared → Prop} {vw : Program} {lo : List Str} {mean : ExcName → Option Value} {mg mb : Str → Option Value}
    {h₀ : Heap} {L : Addr} {m : Str → Option Value} {news : List (Addr × Obj)} {R1 R2 R3 R4 : Tok → Value} (C : Bs w vw lo mean mg mb s.heap → Cl w n s c (isTup4 R1 R2 R3 R4 s.heap))
    (F : Fr h₀ L s.heap m) (N : News h₀ L s.heap news) (X : (hd.heap_39 w.params).In h₀) (T : Top vw lo mean mg mb h₀)
    (hh : A.handled = none) (hd : A.depth + n < recursionLimit) (hu : A.units + 8 * n < cLine)
    (h : ∀ D n t1 t2 t3 t4 h' tk, Fr h₀ L h' m → News h₀ L h' ((D, tupO [R1 t1, R2 t2, R3 t3, R4 t4] n) :: news) → LCg.Off1 D news → Q (.ref D) { s with heap := h', toks := tk }) : wpAny (model Pg w) A c Q E s :=
  useCl C F N X T hh hd hu fun v h' tk k F' N' p => by obtain ⟨D, n, t1, t2, t3, t4, rfl, hD, e⟩ := p; exact h D n t1 t2 t3 t4 h' tk F' (addNew F N k hD e) (offNew N hD)

structure EWat (x : List UInt8) (i : Int) : Prop where
  z : x.length ≤ 1000000
  i0 : 0 ≤ i
  len : (x.length : Int) = i + 18
  c1 : cutB x (some i) (some (i + 2)) = [61, 63]
  p1 : PE x (i + 1 + 1) (i + 7)
  p2 : PE x (i + 7 + 1) (i + 9)
  p3 : PE x (i + 9 + 1) (i + 16)
  c2 : cutB x (some (i + 16)) (some (i + 16 + 2)) = [63, 61]
  q1 : cutB x (some (i + 1 + 1)) (some (i + 7)) = [117, 116, 102, 45, 56]
  q2 : cutB x (some (i + 7 + 1)) (some (i + 9)) = [113]
  q3 : cutB x (some (i + 9 + 1)) (some (i + 16)) = [61, 67, 51, 61, 65, 52]

theorem c_wparts {x : List UInt8} {i : Int} {t t2 : Tok} (h : EWat x i) (b : Bs w vw lo mean mg mb s.heap) :
    Cl w 3 s (call (.ref 248) [.bytes x.toArray t, .int i t2]) (isTup4 (.bytes #[117, 116, 102, 45, 56]) (.bytes #[113]) (.bytes #[61, 67, 51, 61, 65, 52]) (.int (i + 16 + 2)) s.heap) := by
  refine' enterC (binds := [(Str.ofString "octets", .bytes x.toArray t), (Str.ofString "at", .int i t2)]) b ?k6 ?k7 ?k9 ?kB ?kD ?c2 ?c3 ?c4 ?_
  ((case k6 => k_is); (case k7 => k_is); (case k9 => exact rfl); (case kB => exact rfl); (case kD => decide +kernel); (case c2 => exact rfl); (case c3 => exact rfl); (case c4 => exact rfl))
  intro dp un fr gd h₁ tk cells hd hu F X T N Y
  k_cells Y
  (try dsimp only at F)
  obtain ⟨hx, h0, hlen, c1, p1, p2, p3, c2, q1, q2, q3⟩ := h
  have hxs : x.toArray.size = x.length := by simp
  have mk1 := Mk.on 1
  ((try dsimp only); (try k_fold); repeat' (first | (k_unfold; (try dsimp only)) | ((first | with_reducible ((with_reducible show wpAny _ _ (subscriptTail (PySem.Expr.Name _ _) (PySem.Expr.Name _ _) (Value.ref _) (Value.int _ _)) _ _ _); k_dflt (first | refine lit_item (by k_asm) (by k_mem) (by decide) (by decide) (by rfl) ?_ | refine lit_back (by k_asm) (by k_mem) (by simp only [Array.size_push]; omega) (by rfl) ?_)) | with_reducible ((with_reducible show wpAny _ _ (subscriptTail (PySem.Expr.Name _ _) (PySem.Expr.BinOp _ _ _ _) (Value.ref _) (Value.int _ _)) _ _ _); k_dflt (first | refine lit_item (by k_asm) (by k_mem) (by decide) (by decide) (by rfl) ?_ | refine lit_back (by k_asm) (by k_mem) (by simp only [Array.size_push]; omega) (by rfl) ?_)) | with_reducible ((with_reducible show wpAny _ _ (subscriptTail (PySem.Expr.Name _ _) (PySem.Expr.Constant _ _ _) (Value.ref _) (Value.int _ _)) _ _ _); k_dflt (first | refine lit_item (by k_asm) (by k_mem) (by decide) (by decide) (by rfl) ?_ | refine lit_back (by k_asm) (by k_mem) (by simp only [Array.size_push]; omega) (by rfl) ?_)) | with_reducible ((with_reducible show wpAny _ _ (subscriptTail (PySem.Expr.Name _ _) (PySem.Expr.UnaryOp _ _ _) (Value.ref _) (Value.int _ _)) _ _ _); k_dflt (first | refine lit_item (by k_asm) (by k_mem) (by decide) (by decide) (by rfl) ?_ | refine lit_back (by k_asm) (by k_mem) (by simp only [Array.size_push]; omega) (by rfl) ?_)) | with_reducible ((with_reducible show wpAny _ _ (call (Value.ref 243) _) _ _ _); refine' useV (fun b => c_part (by assumption) (by first | assumption | omega) (by assumption) b) ?kF ?kN ?kX ?kT ?kh ?kd ?ku ?_; walk_at "ARGS"; intro t'z h'z tk'z F'z N'z) | with_reducible ((with_reducible show wpAny _ _ (subscriptTail _ (Expr.Slice _ _ none _) (Value.bytes (List.toArray _) _) (Value.ref _)) _ _ _); (with_reducible rename Fr _ _ _ _ => F'z); (with_reducible rename News _ _ _ _ => N'z); (refine bcut (s := ⟨_, _, _, _, _⟩) F'z N'z (by constructor) (by constructor) (by first | assumption | omega) (by first | assumption | exact rfl) ?_); intro _ _ _ _ _) | with_reducible ((with_reducible refine Stop.mk (P := LCg.CompSrc _ _ _ _ _ _ _ _ _ _ _ _ _ _) ?_); (rename Mk 1 => mkzz)) | with_reducible ((with_reducible show wpAny _ _ (exec (PySem.Stmt.Assign (_ :: _) (PySem.Expr.ListComp _ _ _ _) _) _) _ _ _); ((rename Mk 1 => mk'z); refine Stop.mk ?_)) | with_reducible ((with_reducible show wpAny _ _ (eval (PySem.Expr.Name _ _) _) _ _ _); (k_dflt (first | (refine' nameX_L ?Fh9 ?vh9 ?_ ?ah9 ?bh9; (case Fh9 => k_asm); (case ah9 => rfl); (case bh9 => rfl); (case vh9 => rfl); k_whole) | (refine' nameX_K ?Fh9 ?Xh9 ?Th9 ?eh9 ?_ ?ah9 ?bh9; (case Fh9 => k_asm); (case Xh9 => k_asm); (case Th9 => k_asm); (case ah9 => rfl); (case bh9 => rfl); (case eh9 => k_is); k_whole) | (refine' nameX_B ?Fh9 ?Xh9 ?Th9 ?eh9 ?vh9 ?nh9 ?_ ?ah9 ?bh9; (case Fh9 => k_asm); (case Xh9 => k_asm); (case Th9 => k_asm); (case ah9 => rfl); (case bh9 => rfl); (case eh9 => k_is); (case vh9 => boot_fast); (case nh9 => decide); k_whole)))) | with_reducible ((with_reducible show wpAny _ _ (spliced _) _ _ _); (k_dflt (first | refine args_cons ?_ | (refine args_nil ?_; (try simp only [List.cons_append, List.nil_append]))))) | with_reducible ((with_reducible show wpAny _ _ (subscriptTail _ _ (Value.bytes (List.toArray _) _) (Value.int _ _)) _ _ _); (refine item_at (by omega) (by omega) (by omega) (by assumption) ?_)) | with_reducible (k_closed; first | with_reducible refine PySem.W.ite_pos (by with_unfolding_all decide) ?_ | with_reducible refine PySem.W.ite_neg (by with_unfolding_all decide) ?_) | walk1); (try dsimp only); (try ((with_reducible show wpAny _ _ _ _ _ ⟨_, _, _, _ + _, _⟩); refine anyToks ?_; intro _)); (repeat ((first | with_reducible rename (_ < _ ∧ _) => hhzz | with_reducible rename (_ ≠ _ ∧ _) => hhzz | with_reducible rename ((_ ≠ _ ∧ _) ∧ _) => hhzz); have := hhzz.1; have := hhzz.2; clear hhzz))) | (dsimp only; walk1) | (leave1; (try dsimp only)) | fail "no step"))
  refine Stop.out ?_
  refine LCg.Assign_ListComp_U (F₀ := by k_asm) (by rfl) (by with_unfolding_all rfl) (by with_unfolding_all rfl) (by decide) (by rfl) (by decide) (by rfl) (by rfl) (by rfl) ?_
  ((try dsimp only); (try k_fold); repeat' (first | (k_unfold; (try dsimp only)) | ((first | with_reducible ((with_reducible show wpAny _ _ (subscriptTail (PySem.Expr.Name _ _) (PySem.Expr.Name _ _) (Value.ref _) (Value.int _ _)) _ _ _); k_dflt (first | refine lit_item (by k_asm) (by k_mem) (by decide) (by decide) (by rfl) ?_ | refine lit_back (by k_asm) (by k_mem) (by simp only [Array.size_push]; omega) (by rfl) ?_)) | with_reducible ((with_reducible show wpAny _ _ (subscriptTail (PySem.Expr.Name _ _) (PySem.Expr.BinOp _ _ _ _) (Value.ref _) (Value.int _ _)) _ _ _); k_dflt (first | refine lit_item (by k_asm) (by k_mem) (by decide) (by decide) (by rfl) ?_ | refine lit_back (by k_asm) (by k_mem) (by simp only [Array.size_push]; omega) (by rfl) ?_)) | with_reducible ((with_reducible show wpAny _ _ (subscriptTail (PySem.Expr.Name _ _) (PySem.Expr.Constant _ _ _) (Value.ref _) (Value.int _ _)) _ _ _); k_dflt (first | refine lit_item (by k_asm) (by k_mem) (by decide) (by decide) (by rfl) ?_ | refine lit_back (by k_asm) (by k_mem) (by simp only [Array.size_push]; omega) (by rfl) ?_)) | with_reducible ((with_reducible show wpAny _ _ (subscriptTail (PySem.Expr.Name _ _) (PySem.Expr.UnaryOp _ _ _) (Value.ref _) (Value.int _ _)) _ _ _); k_dflt (first | refine lit_item (by k_asm) (by k_mem) (by decide) (by decide) (by rfl) ?_ | refine lit_back (by k_asm) (by k_mem) (by simp only [Array.size_push]; omega) (by rfl) ?_)) | with_reducible ((with_reducible show wpAny _ _ (call (Value.ref 243) _) _ _ _); refine' useV (fun b => c_part (by assumption) (by first | assumption | omega) (by assumption) b) ?kF ?kN ?kX ?kT ?kh ?kd ?ku ?_; walk_at "ARGS"; intro t'z h'z tk'z F'z N'z) | with_reducible ((with_reducible show wpAny _ _ (subscriptTail _ (Expr.Slice _ _ none _) (Value.bytes (List.toArray _) _) (Value.ref _)) _ _ _); (with_reducible rename Fr _ _ _ _ => F'z); (with_reducible rename News _ _ _ _ => N'z); (refine bcut (s := ⟨_, _, _, _, _⟩) F'z N'z (by constructor) (by constructor) (by first | assumption | omega) (by first | assumption | exact rfl) ?_); intro _ _ _ _ _) | with_reducible ((with_reducible refine Stop.mk (P := LCg.CompSrc _ _ _ _ _ _ _ _ _ _ _ _ _ _) ?_); (rename Mk 1 => mkzz)) | with_reducible ((with_reducible show wpAny _ _ (exec (PySem.Stmt.Assign (_ :: _) (PySem.Expr.ListComp _ _ _ _) _) _) _ _ _); ((rename Mk 1 => mk'z); refine Stop.mk ?_)) | with_reducible ((with_reducible show wpAny _ _ (eval (PySem.Expr.Name _ _) _) _ _ _); (k_dflt (first | (refine' nameX_L ?Fh9 ?vh9 ?_ ?ah9 ?bh9; (case Fh9 => k_asm); (case ah9 => rfl); (case bh9 => rfl); (case vh9 => rfl); k_whole) | (refine' nameX_K ?Fh9 ?Xh9 ?Th9 ?eh9 ?_ ?ah9 ?bh9; (case Fh9 => k_asm); (case Xh9 => k_asm); (case Th9 => k_asm); (case ah9 => rfl); (case bh9 => rfl); (case eh9 => k_is); k_whole) | (refine' nameX_B ?Fh9 ?Xh9 ?Th9 ?eh9 ?vh9 ?nh9 ?_ ?ah9 ?bh9; (case Fh9 => k_asm); (case Xh9 => k_asm); (case Th9 => k_asm); (case ah9 => rfl); (case bh9 => rfl); (case eh9 => k_is); (case vh9 => boot_fast); (case nh9 => decide); k_whole)))) | with_reducible ((with_reducible show wpAny _ _ (spliced _) _ _ _); (k_dflt (first | refine args_cons ?_ | (refine args_nil ?_; (try simp only [List.cons_append, List.nil_append]))))) | with_reducible ((with_reducible show wpAny _ _ (subscriptTail _ _ (Value.bytes (List.toArray _) _) (Value.int _ _)) _ _ _); (refine item_at (by omega) (by omega) (by omega) (by assumption) ?_)) | with_reducible (k_closed; first | with_reducible refine PySem.W.ite_pos (by with_unfolding_all decide) ?_ | with_reducible refine PySem.W.ite_neg (by with_unfolding_all decide) ?_) | walk1); (try dsimp only); (try ((with_reducible show wpAny _ _ _ _ _ ⟨_, _, _, _ + _, _⟩); refine anyToks ?_; intro _)); (repeat ((first | with_reducible rename (_ < _ ∧ _) => hhzz | with_reducible rename (_ ≠ _ ∧ _) => hhzz | with_reducible rename ((_ ≠ _ ∧ _) ∧ _) => hhzz); have := hhzz.1; have := hhzz.2; clear hhzz))) | (dsimp only; walk1) | (leave1; (try dsimp only)) | fail "no step"))
  rename Mk 1 => mk1; clear mk1
  refine Stop.out ?_
  refine LCg.CompSrc.range (by rfl) (by k_asm) (by k_asm) (by assumption) (by first | decide | rfl) (by first | rfl | decide) (by first | size_fits | exact Nat.le_of_ble_eq_true rfl) ?_
  intro g'
  lcg_lit
  ((try dsimp only); (try k_fold); repeat' (first | (k_unfold; (try dsimp only)) | ((first | with_reducible ((with_reducible show wpAny _ _ (subscriptTail (PySem.Expr.Name _ _) (PySem.Expr.Name _ _) (Value.ref _) (Value.int _ _)) _ _ _); k_dflt (first | refine lit_item (by k_asm) (by k_mem) (by decide) (by decide) (by rfl) ?_ | refine lit_back (by k_asm) (by k_mem) (by simp only [Array.size_push]; omega) (by rfl) ?_)) | with_reducible ((with_reducible show wpAny _ _ (subscriptTail (PySem.Expr.Name _ _) (PySem.Expr.BinOp _ _ _ _) (Value.ref _) (Value.int _ _)) _ _ _); k_dflt (first | refine lit_item (by k_asm) (by k_mem) (by decide) (by decide) (by rfl) ?_ | refine lit_back (by k_asm) (by k_mem) (by simp only [Array.size_push]; omega) (by rfl) ?_)) | with_reducible ((with_reducible show wpAny _ _ (subscriptTail (PySem.Expr.Name _ _) (PySem.Expr.Constant _ _ _) (Value.ref _) (Value.int _ _)) _ _ _); k_dflt (first | refine lit_item (by k_asm) (by k_mem) (by decide) (by decide) (by rfl) ?_ | refine lit_back (by k_asm) (by k_mem) (by simp only [Array.size_push]; omega) (by rfl) ?_)) | with_reducible ((with_reducible show wpAny _ _ (subscriptTail (PySem.Expr.Name _ _) (PySem.Expr.UnaryOp _ _ _) (Value.ref _) (Value.int _ _)) _ _ _); k_dflt (first | refine lit_item (by k_asm) (by k_mem) (by decide) (by decide) (by rfl) ?_ | refine lit_back (by k_asm) (by k_mem) (by simp only [Array.size_push]; omega) (by rfl) ?_)) | with_reducible ((with_reducible show wpAny _ _ (call (Value.ref 243) _) _ _ _); refine' useV (fun b => c_part (by assumption) (by first | assumption | omega) (by assumption) b) ?kF ?kN ?kX ?kT ?kh ?kd ?ku ?_; walk_at "ARGS"; intro t'z h'z tk'z F'z N'z) | with_reducible ((with_reducible show wpAny _ _ (subscriptTail _ (Expr.Slice _ _ none _) (Value.bytes (List.toArray _) _) (Value.ref _)) _ _ _); (with_reducible rename Fr _ _ _ _ => F'z); (with_reducible rename News _ _ _ _ => N'z); (refine bcut (s := ⟨_, _, _, _, _⟩) F'z N'z (by constructor) (by constructor) (by first | assumption | omega) (by first | assumption | exact rfl) ?_); intro _ _ _ _ _) | with_reducible ((with_reducible refine Stop.mk (P := LCg.CompSrc _ _ _ _ _ _ _ _ _ _ _ _ _ _) ?_); (rename Mk 1 => mkzz)) | with_reducible ((with_reducible show wpAny _ _ (exec (PySem.Stmt.Assign (_ :: _) (PySem.Expr.ListComp _ _ _ _) _) _) _ _ _); ((rename Mk 1 => mk'z); refine Stop.mk ?_)) | with_reducible ((with_reducible show wpAny _ _ (eval (PySem.Expr.Name _ _) _) _ _ _); (k_dflt (first | (refine' nameX_L ?Fh9 ?vh9 ?_ ?ah9 ?bh9; (case Fh9 => k_asm); (case ah9 => rfl); (case bh9 => rfl); (case vh9 => rfl); k_whole) | (refine' nameX_K ?Fh9 ?Xh9 ?Th9 ?eh9 ?_ ?ah9 ?bh9; (case Fh9 => k_asm); (case Xh9 => k_asm); (case Th9 => k_asm); (case ah9 => rfl); (case bh9 => rfl); (case eh9 => k_is); k_whole) | (refine' nameX_B ?Fh9 ?Xh9 ?Th9 ?eh9 ?vh9 ?nh9 ?_ ?ah9 ?bh9; (case Fh9 => k_asm); (case Xh9 => k_asm); (case Th9 => k_asm); (case ah9 => rfl); (case bh9 => rfl); (case eh9 => k_is); (case vh9 => boot_fast); (case nh9 => decide); k_whole)))) | with_reducible ((with_reducible show wpAny _ _ (spliced _) _ _ _); (k_dflt (first | refine args_cons ?_ | (refine args_nil ?_; (try simp only [List.cons_append, List.nil_append]))))) | with_reducible ((with_reducible show wpAny _ _ (subscriptTail _ _ (Value.bytes (List.toArray _) _) (Value.int _ _)) _ _ _); (refine item_at (by omega) (by omega) (by omega) (by assumption) ?_)) | with_reducible (k_closed; first | with_reducible refine PySem.W.ite_pos (by with_unfolding_all decide) ?_ | with_reducible refine PySem.W.ite_neg (by with_unfolding_all decide) ?_) | walk1); (try dsimp only); (try ((with_reducible show wpAny _ _ _ _ _ ⟨_, _, _, _ + _, _⟩); refine anyToks ?_; intro _)); (repeat ((first | with_reducible rename (_ < _ ∧ _) => hhzz | with_reducible rename (_ ≠ _ ∧ _) => hhzz | with_reducible rename ((_ ≠ _ ∧ _) ∧ _) => hhzz); have := hhzz.1; have := hhzz.2; clear hhzz))) | (dsimp only; walk1) | (leave1; (try dsimp only)) | fail "no step"))
  exact Done.tup4 (by k_asm) (by k_asm)
end

noncomputable def EW : List UInt8 := [61, 63, 117, 116, 102, 45, 56, 63, 113, 63, 61, 67, 51, 61, 65, 52, 63, 61]
section
theorem valueAt_stored {K : Type} [DecidableEq K] (k k' : K) (v : Value) : ∀ (kvs : List (K × Value)), valueAt (stored kvs k v) k' = if k = k' then some v else valueAt kvs k' := by
  intro kvs
  unfold stored
  by_cases hany : (kvs.any fun kv => kv.1 = k) = true
  · rw [if_pos hany]
    induction kvs with
    | nil => simp at hany
    | cons a r ih =>
      simp only [List.map_cons]
      unfold valueAt at *
      simp only [List.find?_cons]
      by_cases ha : a.1 = k
      · simp only [if_pos ha]
        by_cases hk : a.1 = k'
        · have : k = k' := ha.symm.trans hk
          simp [hk, this]
        · have hkk : k ≠ k' := fun e => hk (ha.trans e)
          simp only [hk, decide_false, hkk, if_false]
          clear ih hany
          induction r with
          | nil => simp
          | cons b r ihr =>
            simp only [List.map_cons, List.find?_cons]
            by_cases hb : b.1 = k
            · have hbk : ¬ b.1 = k' := fun e => hkk (hb.symm.trans e)
              simp only [if_pos hb, hbk, decide_false]
              exact ihr
            · simp only [if_neg hb]
              by_cases hbk : b.1 = k'
              · simp [hbk]
              · simp only [hbk, decide_false]; exact ihr
      · simp only [if_neg ha]
        have hr : (r.any fun kv => kv.1 = k) = true := by simpa [ha] using hany
        by_cases hk : a.1 = k'
        · have hkk : k ≠ k' := fun e => ha (hk.trans e.symm)
          simp [hk, hkk]
        · simp only [hk, decide_false]
          exact ih hr
  · rw [if_neg hany]
    unfold valueAt
    rw [List.find?_append]
    have hno : ∀ kv ∈ kvs, kv.1 ≠ k := by
      intro kv hkv e
      exact hany (List.any_eq_true.mpr ⟨kv, hkv, by simpa using e⟩)
    by_cases hk : k = k'
    · subst hk
      have : (kvs.find? fun kv => decide (kv.1 = k)) = none := by
        rw [List.find?_eq_none]; intro x hx; simpa using hno x hx
      simp [this]
    · simp [hk]
end
section
variable {w : World} {vw : Program} {lo : List Str} {mean : ExcName → Option Value} {mg mb : Str → Option Value} {s : Shared}

theorem tup228 {h : Heap} (X : (hd.heap_39 w.params).In h) : ∃ a b c d, IsTup h 228 #[.int 9 a, .int 10 b, .int 13 c, .int 32 d] := by
  refine ⟨_, _, _, _, _, X 228 _ (by k_is), rfl, _, rfl⟩

noncomputable def isNames (w : World) (H : Heap) (r : Value) (h : Heap) : Prop := ∃ D o kvs t, r = .ref D ∧ H.get? D = none ∧ h.get? D = some o ∧ o.IsDictOf (PySem.strKind Pg w) kvs ∧ (D == sysModules) = false ∧ valueAt kvs (Str.ofString "utf-8") = some (.str (Str.ofString "utf-8") t)
noncomputable def NmJ (w : World) (D T : Addr) (items : Array Value) (B : Nat) (K : Nat → List (Str × Value) → Prop) (i : Nat) (m : Str → Option Value) (news : List (Addr × Obj)) : Prop :=
  m (Str.ofString "found") = some (.ref D) ∧ ∃ (o : Obj) (kvs : List (Str × Value)) (n : Nat), news = [(T, ({ cls := .type "tuple", data := .seq items n } : Obj)), (D, o)] ∧ o.IsDictOf (PySem.strKind Pg w) kvs ∧ kvs.length ≤ B + i ∧ K i kvs

theorem nm_src {D T : Addr} {items : Array Value} {B : Nat} {K : Nat → List (Str × Value) → Prop} {i : Nat} {m : Str → Option Value} {news : List (Addr × Obj)} {h₀ h : Heap} {L : Addr} (hJ : NmJ w D T items B K i m news) (N : News h₀ L h news) : h.IsTuple T items := by
  obtain ⟨_, o, kvs, n, rfl, _⟩ := hJ
  exact ⟨_, (N _ (.head _)).1, rfl, n, rfl⟩
theorem str_items {items : List Value} (h : ∀ v ∈ items, ∃ x t, v = Value.str x t) {i : Nat} {v : Value} (hv : items.toArray[i]? = some v) : ∃ x t, v = .str x t := by
  rw [List.getElem?_toArray] at hv
  exact h v (List.mem_of_getElem? hv)

theorem c_names (b : Bs w vw lo mean mg mb s.heap) :
    Cl w 1 s (call (.ref 74) []) (isNames w s.heap) := by
  refine' enter (binds := []) b ?k6 ?k7 ?k9 ?kB ?c5 ?c2 ?c3 ?c4 ?_
  ((case k6 => k_is); (case k7 => k_is); (case k9 => exact rfl); (case kB => exact locs rfl); (case c5 => decide); (case c2 => exact rfl); (case c3 => exact rfl); (case c4 => exact rfl))
  intro dp un fr gd h₁ tk hd hu F X T N
  have mk3 := Mk.on 3
  ((try dsimp only); (try k_fold); repeat' (first | (k_unfold; (try dsimp only)) | ((first | with_reducible ((with_reducible show wpAny _ _ (call (Value.ref 81) _) _ _ _); refine' useV (fun b => c_cname b) ?kF ?kN ?kX ?kT ?kh ?kd ?ku ?_; walk_at "ARGS"; intro t'z h'z tk'z F'z N'z) | with_reducible ((with_reducible show wpAny _ _ (call (Value.ref 66) [Value.str (Str.ofString "utf-8") _]) _ _ _); refine' useV (fun b => c_lower_u b) ?kF ?kN ?kX ?kT ?kh ?kd ?ku ?_; walk_at "ARGS"; intro t'z h'z tk'z F'z N'z) | ((with_reducible show wpAny _ _ (call (Value.builtin "dict.get") _) _ _ _); ((rename valueAt _ _ = some _ => hvvzz); refine kdg_get2 (knd := PySem.strKind _ _) (by k_asm) (by k_mem) (by assumption) (by assumption) (strKind_is _ _ _ _) _ hvvzz ?_; (try dsimp only [Option.getD]))) | with_reducible ((with_reducible show wpAny _ _ (call (Value.ref 74) _) _ _ _); refine' useNames (fun b => c_names b) ?kF ?kN ?kX ?kT ?kh ?kd ?ku ?_; walk_at "ARGS"; intro D o'z kvs'z t'z h'z tk'z F'z N'z hd'z lo'z hv'z o1; (try (simp only [LCg.Off1, and_true] at o1))) | with_reducible ((with_reducible show wpAny _ _ (newTuple _) _ _ _); (k_dflt (refine' kup_newTuple ?Fh9 ?Nh9 ?_ ?zh9; (case Fh9 => k_asm); (case Nh9 => k_asm); (case zh9 => kmk_size)); intro D'z h'z F'z N'z l1zz; (try k_lt l1zz); (try k_sweep))) | with_reducible ((with_reducible show wpAny _ _ (setItem (Value.ref _) (Value.str _ _) _) _ _ _); (refine' kda_set (knd := PySem.strKind _ _) ?Fh9 ?Nh9 ?Uh9 ?dh9 (strKind_is _ _ _ _) ?zh9 ?_; (case Fh9 => k_asm); (case Nh9 => k_asm); (case Uh9 => k_updF); (case dh9 => assumption); (case zh9 => rw [sizeLine_eq]; omega); intro h'z o'z F'z N'z hd'z)) | with_reducible ((with_reducible show wpAny _ _ (call (Value.ref 243) _) _ _ _); refine' useV (fun b => c_part (by assumption) (by first | assumption | omega) (by assumption) b) ?kF ?kN ?kX ?kT ?kh ?kd ?ku ?_; walk_at "ARGS"; intro t'z h'z tk'z F'z N'z) | with_reducible ((with_reducible show wpAny _ _ (call (Value.ref 236) _) _ _ _); refine' useV0 (fun b => c_wsign (by assumption) b) ?kF ?kN ?kX ?kT ?kh ?kd ?ku ?_; walk_at "ARGS"; intro h'z tk'z F'z N'z) | with_reducible ((with_reducible show wpAny _ _ (eval (PySem.Expr.Name _ _) _) _ _ _); (k_dflt (first | (refine' nameX_L ?Fh9 ?vh9 ?_ ?ah9 ?bh9; (case Fh9 => k_asm); (case ah9 => rfl); (case bh9 => rfl); (case vh9 => rfl); k_whole) | (refine' nameX_K ?Fh9 ?Xh9 ?Th9 ?eh9 ?_ ?ah9 ?bh9; (case Fh9 => k_asm); (case Xh9 => k_asm); (case Th9 => k_asm); (case ah9 => rfl); (case bh9 => rfl); (case eh9 => k_is); k_whole) | (refine' nameX_B ?Fh9 ?Xh9 ?Th9 ?eh9 ?vh9 ?nh9 ?_ ?ah9 ?bh9; (case Fh9 => k_asm); (case Xh9 => k_asm); (case Th9 => k_asm); (case ah9 => rfl); (case bh9 => rfl); (case eh9 => k_is); (case vh9 => boot_fast); (case nh9 => decide); k_whole)))) | with_reducible ((with_reducible show wpAny _ _ (spliced _) _ _ _); (k_dflt (first | refine args_cons ?_ | (refine args_nil ?_; (try simp only [List.cons_append, List.nil_append]))))) | with_reducible ((with_reducible show wpAny _ _ (subscriptTail _ _ (Value.bytes (List.toArray _) _) (Value.int _ _)) _ _ _); (refine item_at (by omega) (by omega) (by omega) (by assumption) ?_)) | with_reducible ((with_reducible show wpAny _ _ (exec (PySem.Stmt.For _ (PySem.Expr.Tuple _ _ _) _ _ _) _) _ _ _); ((rename Mk 3 => mk'z); refine Stop.mk ?_)) | with_reducible (k_closed; first | with_reducible refine PySem.W.ite_pos (by with_unfolding_all decide) ?_ | with_reducible refine PySem.W.ite_neg (by with_unfolding_all decide) ?_) | walk1); (try dsimp only); (try ((with_reducible show wpAny _ _ _ _ _ ⟨_, _, _, _ + _, _⟩); refine anyToks ?_; intro _)); (repeat ((first | with_reducible rename (_ < _ ∧ _) => hhzz | with_reducible rename (_ ≠ _ ∧ _) => hhzz | with_reducible rename ((_ ≠ _ ∧ _) ∧ _) => hhzz); have := hhzz.1; have := hhzz.2; clear hhzz))) | (dsimp only; walk1) | (leave1; (try dsimp only)) | fail "no step"))
  rename (_ == sysModules) = false => hlo
  have hlen0 : ([] : List (Str × Value)).length ≤ 0 := Nat.le_refl _
  refine Stop.out ?_
  refine for_tup (F₀ := by k_asm) rfl ?_
  ((try dsimp only); (try k_fold); repeat' (first | (k_unfold; (try dsimp only)) | ((first | with_reducible ((with_reducible show wpAny _ _ (call (Value.ref 81) _) _ _ _); refine' useV (fun b => c_cname b) ?kF ?kN ?kX ?kT ?kh ?kd ?ku ?_; walk_at "ARGS"; intro t'z h'z tk'z F'z N'z) | with_reducible ((with_reducible show wpAny _ _ (call (Value.ref 66) [Value.str (Str.ofString "utf-8") _]) _ _ _); refine' useV (fun b => c_lower_u b) ?kF ?kN ?kX ?kT ?kh ?kd ?ku ?_; walk_at "ARGS"; intro t'z h'z tk'z F'z N'z) | ((with_reducible show wpAny _ _ (call (Value.builtin "dict.get") _) _ _ _); ((rename valueAt _ _ = some _ => hvvzz); refine kdg_get2 (knd := PySem.strKind _ _) (by k_asm) (by k_mem) (by assumption) (by assumption) (strKind_is _ _ _ _) _ hvvzz ?_; (try dsimp only [Option.getD]))) | with_reducible ((with_reducible show wpAny _ _ (call (Value.ref 74) _) _ _ _); refine' useNames (fun b => c_names b) ?kF ?kN ?kX ?kT ?kh ?kd ?ku ?_; walk_at "ARGS"; intro D o'z kvs'z t'z h'z tk'z F'z N'z hd'z lo'z hv'z o1; (try (simp only [LCg.Off1, and_true] at o1))) | with_reducible ((with_reducible show wpAny _ _ (newTuple _) _ _ _); (k_dflt (refine' kup_newTuple ?Fh9 ?Nh9 ?_ ?zh9; (case Fh9 => k_asm); (case Nh9 => k_asm); (case zh9 => kmk_size)); intro D'z h'z F'z N'z l1zz; (try k_lt l1zz); (try k_sweep))) | with_reducible ((with_reducible show wpAny _ _ (setItem (Value.ref _) (Value.str _ _) _) _ _ _); (refine' kda_set (knd := PySem.strKind _ _) ?Fh9 ?Nh9 ?Uh9 ?dh9 (strKind_is _ _ _ _) ?zh9 ?_; (case Fh9 => k_asm); (case Nh9 => k_asm); (case Uh9 => k_updF); (case dh9 => assumption); (case zh9 => rw [sizeLine_eq]; omega); intro h'z o'z F'z N'z hd'z)) | with_reducible ((with_reducible show wpAny _ _ (call (Value.ref 243) _) _ _ _); refine' useV (fun b => c_part (by assumption) (by first | assumption | omega) (by assumption) b) ?kF ?kN ?kX ?kT ?kh ?kd ?ku ?_; walk_at "ARGS"; intro t'z h'z tk'z F'z N'z) | with_reducible ((with_reducible show wpAny _ _ (call (Value.ref 236) _) _ _ _); refine' useV0 (fun b => c_wsign (by assumption) b) ?kF ?kN ?kX ?kT ?kh ?kd ?ku ?_; walk_at "ARGS"; intro h'z tk'z F'z N'z) | with_reducible ((with_reducible show wpAny _ _ (eval (PySem.Expr.Name _ _) _) _ _ _); (k_dflt (first | (refine' nameX_L ?Fh9 ?vh9 ?_ ?ah9 ?bh9; (case Fh9 => k_asm); (case ah9 => rfl); (case bh9 => rfl); (case vh9 => rfl); k_whole) | (refine' nameX_K ?Fh9 ?Xh9 ?Th9 ?eh9 ?_ ?ah9 ?bh9; (case Fh9 => k_asm); (case Xh9 => k_asm); (case Th9 => k_asm); (case ah9 => rfl); (case bh9 => rfl); (case eh9 => k_is); k_whole) | (refine' nameX_B ?Fh9 ?Xh9 ?Th9 ?eh9 ?vh9 ?nh9 ?_ ?ah9 ?bh9; (case Fh9 => k_asm); (case Xh9 => k_asm); (case Th9 => k_asm); (case ah9 => rfl); (case bh9 => rfl); (case eh9 => k_is); (case vh9 => boot_fast); (case nh9 => decide); k_whole)))) | with_reducible ((with_reducible show wpAny _ _ (spliced _) _ _ _); (k_dflt (first | refine args_cons ?_ | (refine args_nil ?_; (try simp only [List.cons_append, List.nil_append]))))) | with_reducible ((with_reducible show wpAny _ _ (subscriptTail _ _ (Value.bytes (List.toArray _) _) (Value.int _ _)) _ _ _); (refine item_at (by omega) (by omega) (by omega) (by assumption) ?_)) | with_reducible ((with_reducible show wpAny _ _ (exec (PySem.Stmt.For _ (PySem.Expr.Tuple _ _ _) _ _ _) _) _ _ _); ((rename Mk 3 => mk'z); refine Stop.mk ?_)) | with_reducible (k_closed; first | with_reducible refine PySem.W.ite_pos (by with_unfolding_all decide) ?_ | with_reducible refine PySem.W.ite_neg (by with_unfolding_all decide) ?_) | walk1); (try dsimp only); (try ((with_reducible show wpAny _ _ _ _ _ ⟨_, _, _, _ + _, _⟩); refine anyToks ?_; intro _)); (repeat ((first | with_reducible rename (_ < _ ∧ _) => hhzz | with_reducible rename (_ ≠ _ ∧ _) => hhzz | with_reducible rename ((_ ≠ _ ∧ _) ∧ _) => hhzz); have := hhzz.1; have := hhzz.2; clear hhzz))) | (dsimp only; walk1) | (leave1; (try dsimp only)) | fail "no step"))
  rename Fr _ _ _ _ => F2
  rename News _ _ _ _ => N2
  rename Obj.IsDictOf (PySem.strKind _ _) _ _ => hd1
  refine Stop.out ⟨_, _, _, _, NmJ w _ _ _ 0 (fun _ _ => True), rfl, F2, N2, fun i m news h hJ F N => nm_src hJ N, ⟨rfl, _, _, _, rfl, hd1, hlen0, trivial⟩, ?_, ?_⟩
  · intro i v I oI h tk m news hi hv hJ F N off
    clear F2 N2 hd1
    obtain ⟨hm, o, kvs, n, rfl, hdo, hlen, hK⟩ := hJ
    have hi' : i < 9 := hi
    obtain ⟨xs, tv, rfl⟩ := str_items (by simp) hv
    replace F := frSet F hm
    have off' := off
    simp only [LCg.Off1, and_true] at off
    ((try dsimp only); (try k_fold); repeat' (first | (k_unfold; (try dsimp only)) | ((first | with_reducible ((with_reducible show wpAny _ _ (call (Value.ref 81) _) _ _ _); refine' useV (fun b => c_cname b) ?kF ?kN ?kX ?kT ?kh ?kd ?ku ?_; walk_at "ARGS"; intro t'z h'z tk'z F'z N'z) | with_reducible ((with_reducible show wpAny _ _ (call (Value.ref 66) [Value.str (Str.ofString "utf-8") _]) _ _ _); refine' useV (fun b => c_lower_u b) ?kF ?kN ?kX ?kT ?kh ?kd ?ku ?_; walk_at "ARGS"; intro t'z h'z tk'z F'z N'z) | ((with_reducible show wpAny _ _ (call (Value.builtin "dict.get") _) _ _ _); ((rename valueAt _ _ = some _ => hvvzz); refine kdg_get2 (knd := PySem.strKind _ _) (by k_asm) (by k_mem) (by assumption) (by assumption) (strKind_is _ _ _ _) _ hvvzz ?_; (try dsimp only [Option.getD]))) | with_reducible ((with_reducible show wpAny _ _ (call (Value.ref 74) _) _ _ _); refine' useNames (fun b => c_names b) ?kF ?kN ?kX ?kT ?kh ?kd ?ku ?_; walk_at "ARGS"; intro D o'z kvs'z t'z h'z tk'z F'z N'z hd'z lo'z hv'z o1; (try (simp only [LCg.Off1, and_true] at o1))) | with_reducible ((with_reducible show wpAny _ _ (newTuple _) _ _ _); (k_dflt (refine' kup_newTuple ?Fh9 ?Nh9 ?_ ?zh9; (case Fh9 => k_asm); (case Nh9 => k_asm); (case zh9 => kmk_size)); intro D'z h'z F'z N'z l1zz; (try k_lt l1zz); (try k_sweep))) | with_reducible ((with_reducible show wpAny _ _ (setItem (Value.ref _) (Value.str _ _) _) _ _ _); (refine' kda_set (knd := PySem.strKind _ _) ?Fh9 ?Nh9 ?Uh9 ?dh9 (strKind_is _ _ _ _) ?zh9 ?_; (case Fh9 => k_asm); (case Nh9 => k_asm); (case Uh9 => k_updF); (case dh9 => assumption); (case zh9 => rw [sizeLine_eq]; omega); intro h'z o'z F'z N'z hd'z)) | with_reducible ((with_reducible show wpAny _ _ (call (Value.ref 243) _) _ _ _); refine' useV (fun b => c_part (by assumption) (by first | assumption | omega) (by assumption) b) ?kF ?kN ?kX ?kT ?kh ?kd ?ku ?_; walk_at "ARGS"; intro t'z h'z tk'z F'z N'z) | with_reducible ((with_reducible show wpAny _ _ (call (Value.ref 236) _) _ _ _); refine' useV0 (fun b => c_wsign (by assumption) b) ?kF ?kN ?kX ?kT ?kh ?kd ?ku ?_; walk_at "ARGS"; intro h'z tk'z F'z N'z) | with_reducible ((with_reducible show wpAny _ _ (eval (PySem.Expr.Name _ _) _) _ _ _); (k_dflt (first | (refine' nameX_L ?Fh9 ?vh9 ?_ ?ah9 ?bh9; (case Fh9 => k_asm); (case ah9 => rfl); (case bh9 => rfl); (case vh9 => rfl); k_whole) | (refine' nameX_K ?Fh9 ?Xh9 ?Th9 ?eh9 ?_ ?ah9 ?bh9; (case Fh9 => k_asm); (case Xh9 => k_asm); (case Th9 => k_asm); (case ah9 => rfl); (case bh9 => rfl); (case eh9 => k_is); k_whole) | (refine' nameX_B ?Fh9 ?Xh9 ?Th9 ?eh9 ?vh9 ?nh9 ?_ ?ah9 ?bh9; (case Fh9 => k_asm); (case Xh9 => k_asm); (case Th9 => k_asm); (case ah9 => rfl); (case bh9 => rfl); (case eh9 => k_is); (case vh9 => boot_fast); (case nh9 => decide); k_whole)))) | with_reducible ((with_reducible show wpAny _ _ (spliced _) _ _ _); (k_dflt (first | refine args_cons ?_ | (refine args_nil ?_; (try simp only [List.cons_append, List.nil_append]))))) | with_reducible ((with_reducible show wpAny _ _ (subscriptTail _ _ (Value.bytes (List.toArray _) _) (Value.int _ _)) _ _ _); (refine item_at (by omega) (by omega) (by omega) (by assumption) ?_)) | with_reducible ((with_reducible show wpAny _ _ (exec (PySem.Stmt.For _ (PySem.Expr.Tuple _ _ _) _ _ _) _) _ _ _); ((rename Mk 3 => mk'z); refine Stop.mk ?_)) | with_reducible (k_closed; first | with_reducible refine PySem.W.ite_pos (by with_unfolding_all decide) ?_ | with_reducible refine PySem.W.ite_neg (by with_unfolding_all decide) ?_) | walk1); (try dsimp only); (try ((with_reducible show wpAny _ _ _ _ _ ⟨_, _, _, _ + _, _⟩); refine anyToks ?_; intro _)); (repeat ((first | with_reducible rename (_ < _ ∧ _) => hhzz | with_reducible rename (_ ≠ _ ∧ _) => hhzz | with_reducible rename ((_ ≠ _ ∧ _) ∧ _) => hhzz); have := hhzz.1; have := hhzz.2; clear hhzz))) | (dsimp only; walk1) | (leave1; (try dsimp only)) | fail "no step"))
    rename Fr _ _ _ _ => F3
    rename News _ _ _ _ => N3
    rename Obj.IsDictOf (PySem.strKind _ _) _ _ => hd3
    refine ⟨_, _, _, _, rfl, F3, N3, off', rfl, _, _, _, rfl, hd3, ?_, ?_⟩
    · exact Nat.le_trans (stored_length_le kvs xs _) (by omega)
    · trivial
  · intro h tk m news hJ F N
    clear F2 N2 hd1
    obtain ⟨hm, o, kvs, n, rfl, hdo, hlen, hK⟩ := hJ
    have hlen0 : kvs.length ≤ 9 := hlen
    replace F := frSet F hm
    replace N := cb_drop N (fun p hp => .tail _ hp)
    have hlt0 := Heap.lt_size (N _ (.head _)).1
    dsimp only at hlt0
    ((try dsimp only); (try k_fold); repeat' (first | (k_unfold; (try dsimp only)) | ((first | with_reducible ((with_reducible show wpAny _ _ (call (Value.ref 81) _) _ _ _); refine' useV (fun b => c_cname b) ?kF ?kN ?kX ?kT ?kh ?kd ?ku ?_; walk_at "ARGS"; intro t'z h'z tk'z F'z N'z) | with_reducible ((with_reducible show wpAny _ _ (call (Value.ref 66) [Value.str (Str.ofString "utf-8") _]) _ _ _); refine' useV (fun b => c_lower_u b) ?kF ?kN ?kX ?kT ?kh ?kd ?ku ?_; walk_at "ARGS"; intro t'z h'z tk'z F'z N'z) | ((with_reducible show wpAny _ _ (call (Value.builtin "dict.get") _) _ _ _); ((rename valueAt _ _ = some _ => hvvzz); refine kdg_get2 (knd := PySem.strKind _ _) (by k_asm) (by k_mem) (by assumption) (by assumption) (strKind_is _ _ _ _) _ hvvzz ?_; (try dsimp only [Option.getD]))) | with_reducible ((with_reducible show wpAny _ _ (call (Value.ref 74) _) _ _ _); refine' useNames (fun b => c_names b) ?kF ?kN ?kX ?kT ?kh ?kd ?ku ?_; walk_at "ARGS"; intro D o'z kvs'z t'z h'z tk'z F'z N'z hd'z lo'z hv'z o1; (try (simp only [LCg.Off1, and_true] at o1))) | with_reducible ((with_reducible show wpAny _ _ (newTuple _) _ _ _); (k_dflt (refine' kup_newTuple ?Fh9 ?Nh9 ?_ ?zh9; (case Fh9 => k_asm); (case Nh9 => k_asm); (case zh9 => kmk_size)); intro D'z h'z F'z N'z l1zz; (try k_lt l1zz); (try k_sweep))) | with_reducible ((with_reducible show wpAny _ _ (setItem (Value.ref _) (Value.str _ _) _) _ _ _); (refine' kda_set (knd := PySem.strKind _ _) ?Fh9 ?Nh9 ?Uh9 ?dh9 (strKind_is _ _ _ _) ?zh9 ?_; (case Fh9 => k_asm); (case Nh9 => k_asm); (case Uh9 => k_updF); (case dh9 => assumption); (case zh9 => rw [sizeLine_eq]; omega); intro h'z o'z F'z N'z hd'z)) | with_reducible ((with_reducible show wpAny _ _ (call (Value.ref 243) _) _ _ _); refine' useV (fun b => c_part (by assumption) (by first | assumption | omega) (by assumption) b) ?kF ?kN ?kX ?kT ?kh ?kd ?ku ?_; walk_at "ARGS"; intro t'z h'z tk'z F'z N'z) | with_reducible ((with_reducible show wpAny _ _ (call (Value.ref 236) _) _ _ _); refine' useV0 (fun b => c_wsign (by assumption) b) ?kF ?kN ?kX ?kT ?kh ?kd ?ku ?_; walk_at "ARGS"; intro h'z tk'z F'z N'z) | with_reducible ((with_reducible show wpAny _ _ (eval (PySem.Expr.Name _ _) _) _ _ _); (k_dflt (first | (refine' nameX_L ?Fh9 ?vh9 ?_ ?ah9 ?bh9; (case Fh9 => k_asm); (case ah9 => rfl); (case bh9 => rfl); (case vh9 => rfl); k_whole) | (refine' nameX_K ?Fh9 ?Xh9 ?Th9 ?eh9 ?_ ?ah9 ?bh9; (case Fh9 => k_asm); (case Xh9 => k_asm); (case Th9 => k_asm); (case ah9 => rfl); (case bh9 => rfl); (case eh9 => k_is); k_whole) | (refine' nameX_B ?Fh9 ?Xh9 ?Th9 ?eh9 ?vh9 ?nh9 ?_ ?ah9 ?bh9; (case Fh9 => k_asm); (case Xh9 => k_asm); (case Th9 => k_asm); (case ah9 => rfl); (case bh9 => rfl); (case eh9 => k_is); (case vh9 => boot_fast); (case nh9 => decide); k_whole)))) | with_reducible ((with_reducible show wpAny _ _ (spliced _) _ _ _); (k_dflt (first | refine args_cons ?_ | (refine args_nil ?_; (try simp only [List.cons_append, List.nil_append]))))) | with_reducible ((with_reducible show wpAny _ _ (subscriptTail _ _ (Value.bytes (List.toArray _) _) (Value.int _ _)) _ _ _); (refine item_at (by omega) (by omega) (by omega) (by assumption) ?_)) | with_reducible ((with_reducible show wpAny _ _ (exec (PySem.Stmt.For _ (PySem.Expr.Tuple _ _ _) _ _ _) _) _ _ _); ((rename Mk 3 => mk'z); refine Stop.mk ?_)) | with_reducible (k_closed; first | with_reducible refine PySem.W.ite_pos (by with_unfolding_all decide) ?_ | with_reducible refine PySem.W.ite_neg (by with_unfolding_all decide) ?_) | walk1); (try dsimp only); (try ((with_reducible show wpAny _ _ _ _ _ ⟨_, _, _, _ + _, _⟩); refine anyToks ?_; intro _)); (repeat ((first | with_reducible rename (_ < _ ∧ _) => hhzz | with_reducible rename (_ ≠ _ ∧ _) => hhzz | with_reducible rename ((_ ≠ _ ∧ _) ∧ _) => hhzz); have := hhzz.1; have := hhzz.2; clear hhzz))) | (dsimp only; walk1) | (leave1; (try dsimp only)) | fail "no step"))
    refine Stop.out ?_
    refine for_tup (F₀ := by k_asm) rfl ?_
    ((try dsimp only); (try k_fold); repeat' (first | (k_unfold; (try dsimp only)) | ((first | with_reducible ((with_reducible show wpAny _ _ (call (Value.ref 81) _) _ _ _); refine' useV (fun b => c_cname b) ?kF ?kN ?kX ?kT ?kh ?kd ?ku ?_; walk_at "ARGS"; intro t'z h'z tk'z F'z N'z) | with_reducible ((with_reducible show wpAny _ _ (call (Value.ref 66) [Value.str (Str.ofString "utf-8") _]) _ _ _); refine' useV (fun b => c_lower_u b) ?kF ?kN ?kX ?kT ?kh ?kd ?ku ?_; walk_at "ARGS"; intro t'z h'z tk'z F'z N'z) | ((with_reducible show wpAny _ _ (call (Value.builtin "dict.get") _) _ _ _); ((rename valueAt _ _ = some _ => hvvzz); refine kdg_get2 (knd := PySem.strKind _ _) (by k_asm) (by k_mem) (by assumption) (by assumption) (strKind_is _ _ _ _) _ hvvzz ?_; (try dsimp only [Option.getD]))) | with_reducible ((with_reducible show wpAny _ _ (call (Value.ref 74) _) _ _ _); refine' useNames (fun b => c_names b) ?kF ?kN ?kX ?kT ?kh ?kd ?ku ?_; walk_at "ARGS"; intro D o'z kvs'z t'z h'z tk'z F'z N'z hd'z lo'z hv'z o1; (try (simp only [LCg.Off1, and_true] at o1))) | with_reducible ((with_reducible show wpAny _ _ (newTuple _) _ _ _); (k_dflt (refine' kup_newTuple ?Fh9 ?Nh9 ?_ ?zh9; (case Fh9 => k_asm); (case Nh9 => k_asm); (case zh9 => kmk_size)); intro D'z h'z F'z N'z l1zz; (try k_lt l1zz); (try k_sweep))) | with_reducible ((with_reducible show wpAny _ _ (setItem (Value.ref _) (Value.str _ _) _) _ _ _); (refine' kda_set (knd := PySem.strKind _ _) ?Fh9 ?Nh9 ?Uh9 ?dh9 (strKind_is _ _ _ _) ?zh9 ?_; (case Fh9 => k_asm); (case Nh9 => k_asm); (case Uh9 => k_updF); (case dh9 => assumption); (case zh9 => rw [sizeLine_eq]; omega); intro h'z o'z F'z N'z hd'z)) | with_reducible ((with_reducible show wpAny _ _ (call (Value.ref 243) _) _ _ _); refine' useV (fun b => c_part (by assumption) (by first | assumption | omega) (by assumption) b) ?kF ?kN ?kX ?kT ?kh ?kd ?ku ?_; walk_at "ARGS"; intro t'z h'z tk'z F'z N'z) | with_reducible ((with_reducible show wpAny _ _ (call (Value.ref 236) _) _ _ _); refine' useV0 (fun b => c_wsign (by assumption) b) ?kF ?kN ?kX ?kT ?kh ?kd ?ku ?_; walk_at "ARGS"; intro h'z tk'z F'z N'z) | with_reducible ((with_reducible show wpAny _ _ (eval (PySem.Expr.Name _ _) _) _ _ _); (k_dflt (first | (refine' nameX_L ?Fh9 ?vh9 ?_ ?ah9 ?bh9; (case Fh9 => k_asm); (case ah9 => rfl); (case bh9 => rfl); (case vh9 => rfl); k_whole) | (refine' nameX_K ?Fh9 ?Xh9 ?Th9 ?eh9 ?_ ?ah9 ?bh9; (case Fh9 => k_asm); (case Xh9 => k_asm); (case Th9 => k_asm); (case ah9 => rfl); (case bh9 => rfl); (case eh9 => k_is); k_whole) | (refine' nameX_B ?Fh9 ?Xh9 ?Th9 ?eh9 ?vh9 ?nh9 ?_ ?ah9 ?bh9; (case Fh9 => k_asm); (case Xh9 => k_asm); (case Th9 => k_asm); (case ah9 => rfl); (case bh9 => rfl); (case eh9 => k_is); (case vh9 => boot_fast); (case nh9 => decide); k_whole)))) | with_reducible ((with_reducible show wpAny _ _ (spliced _) _ _ _); (k_dflt (first | refine args_cons ?_ | (refine args_nil ?_; (try simp only [List.cons_append, List.nil_append]))))) | with_reducible ((with_reducible show wpAny _ _ (subscriptTail _ _ (Value.bytes (List.toArray _) _) (Value.int _ _)) _ _ _); (refine item_at (by omega) (by omega) (by omega) (by assumption) ?_)) | with_reducible ((with_reducible show wpAny _ _ (exec (PySem.Stmt.For _ (PySem.Expr.Tuple _ _ _) _ _ _) _) _ _ _); ((rename Mk 3 => mk'z); refine Stop.mk ?_)) | with_reducible (k_closed; first | with_reducible refine PySem.W.ite_pos (by with_unfolding_all decide) ?_ | with_reducible refine PySem.W.ite_neg (by with_unfolding_all decide) ?_) | walk1); (try dsimp only); (try ((with_reducible show wpAny _ _ _ _ _ ⟨_, _, _, _ + _, _⟩); refine anyToks ?_; intro _)); (repeat ((first | with_reducible rename (_ < _ ∧ _) => hhzz | with_reducible rename (_ ≠ _ ∧ _) => hhzz | with_reducible rename ((_ ≠ _ ∧ _) ∧ _) => hhzz); have := hhzz.1; have := hhzz.2; clear hhzz))) | (dsimp only; walk1) | (leave1; (try dsimp only)) | fail "no step"))
    rename Fr _ _ _ _ => F2
    rename News _ _ _ _ => N2
    rename Obj.IsDictOf (PySem.strKind _ _) _ _ => hd1
    refine Stop.out ⟨_, _, _, _, NmJ w _ _ _ 9 (fun _ _ => True), rfl, F2, N2, fun i m news h hJ F N => nm_src hJ N, ⟨rfl, _, _, _, rfl, hd1, hlen0, trivial⟩, ?_, ?_⟩
    · intro i v I oI h tk m news hi hv hJ F N off
      clear F2 N2 hd1
      obtain ⟨hm, o, kvs, n, rfl, hdo, hlen, hK⟩ := hJ
      have hi' : i < 8 := hi
      obtain ⟨xs, tv, rfl⟩ := str_items (by simp) hv
      replace F := frSet F hm
      have off' := off
      simp only [LCg.Off1, and_true] at off
      ((try dsimp only); (try k_fold); repeat' (first | (k_unfold; (try dsimp only)) | ((first | with_reducible ((with_reducible show wpAny _ _ (call (Value.ref 81) _) _ _ _); refine' useV (fun b => c_cname b) ?kF ?kN ?kX ?kT ?kh ?kd ?ku ?_; walk_at "ARGS"; intro t'z h'z tk'z F'z N'z) | with_reducible ((with_reducible show wpAny _ _ (call (Value.ref 66) [Value.str (Str.ofString "utf-8") _]) _ _ _); refine' useV (fun b => c_lower_u b) ?kF ?kN ?kX ?kT ?kh ?kd ?ku ?_; walk_at "ARGS"; intro t'z h'z tk'z F'z N'z) | ((with_reducible show wpAny _ _ (call (Value.builtin "dict.get") _) _ _ _); ((rename valueAt _ _ = some _ => hvvzz); refine kdg_get2 (knd := PySem.strKind _ _) (by k_asm) (by k_mem) (by assumption) (by assumption) (strKind_is _ _ _ _) _ hvvzz ?_; (try dsimp only [Option.getD]))) | with_reducible ((with_reducible show wpAny _ _ (call (Value.ref 74) _) _ _ _); refine' useNames (fun b => c_names b) ?kF ?kN ?kX ?kT ?kh ?kd ?ku ?_; walk_at "ARGS"; intro D o'z kvs'z t'z h'z tk'z F'z N'z hd'z lo'z hv'z o1; (try (simp only [LCg.Off1, and_true] at o1))) | with_reducible ((with_reducible show wpAny _ _ (newTuple _) _ _ _); (k_dflt (refine' kup_newTuple ?Fh9 ?Nh9 ?_ ?zh9; (case Fh9 => k_asm); (case Nh9 => k_asm); (case zh9 => kmk_size)); intro D'z h'z F'z N'z l1zz; (try k_lt l1zz); (try k_sweep))) | with_reducible ((with_reducible show wpAny _ _ (setItem (Value.ref _) (Value.str _ _) _) _ _ _); (refine' kda_set (knd := PySem.strKind _ _) ?Fh9 ?Nh9 ?Uh9 ?dh9 (strKind_is _ _ _ _) ?zh9 ?_; (case Fh9 => k_asm); (case Nh9 => k_asm); (case Uh9 => k_updF); (case dh9 => assumption); (case zh9 => rw [sizeLine_eq]; omega); intro h'z o'z F'z N'z hd'z)) | with_reducible ((with_reducible show wpAny _ _ (call (Value.ref 243) _) _ _ _); refine' useV (fun b => c_part (by assumption) (by first | assumption | omega) (by assumption) b) ?kF ?kN ?kX ?kT ?kh ?kd ?ku ?_; walk_at "ARGS"; intro t'z h'z tk'z F'z N'z) | with_reducible ((with_reducible show wpAny _ _ (call (Value.ref 236) _) _ _ _); refine' useV0 (fun b => c_wsign (by assumption) b) ?kF ?kN ?kX ?kT ?kh ?kd ?ku ?_; walk_at "ARGS"; intro h'z tk'z F'z N'z) | with_reducible ((with_reducible show wpAny _ _ (eval (PySem.Expr.Name _ _) _) _ _ _); (k_dflt (first | (refine' nameX_L ?Fh9 ?vh9 ?_ ?ah9 ?bh9; (case Fh9 => k_asm); (case ah9 => rfl); (case bh9 => rfl); (case vh9 => rfl); k_whole) | (refine' nameX_K ?Fh9 ?Xh9 ?Th9 ?eh9 ?_ ?ah9 ?bh9; (case Fh9 => k_asm); (case Xh9 => k_asm); (case Th9 => k_asm); (case ah9 => rfl); (case bh9 => rfl); (case eh9 => k_is); k_whole) | (refine' nameX_B ?Fh9 ?Xh9 ?Th9 ?eh9 ?vh9 ?nh9 ?_ ?ah9 ?bh9; (case Fh9 => k_asm); (case Xh9 => k_asm); (case Th9 => k_asm); (case ah9 => rfl); (case bh9 => rfl); (case eh9 => k_is); (case vh9 => boot_fast); (case nh9 => decide); k_whole)))) | with_reducible ((with_reducible show wpAny _ _ (spliced _) _ _ _); (k_dflt (first | refine args_cons ?_ | (refine args_nil ?_; (try simp only [List.cons_append, List.nil_append]))))) | with_reducible ((with_reducible show wpAny _ _ (subscriptTail _ _ (Value.bytes (List.toArray _) _) (Value.int _ _)) _ _ _); (refine item_at (by omega) (by omega) (by omega) (by assumption) ?_)) | with_reducible ((with_reducible show wpAny _ _ (exec (PySem.Stmt.For _ (PySem.Expr.Tuple _ _ _) _ _ _) _) _ _ _); ((rename Mk 3 => mk'z); refine Stop.mk ?_)) | with_reducible (k_closed; first | with_reducible refine PySem.W.ite_pos (by with_unfolding_all decide) ?_ | with_reducible refine PySem.W.ite_neg (by with_unfolding_all decide) ?_) | walk1); (try dsimp only); (try ((with_reducible show wpAny _ _ _ _ _ ⟨_, _, _, _ + _, _⟩); refine anyToks ?_; intro _)); (repeat ((first | with_reducible rename (_ < _ ∧ _) => hhzz | with_reducible rename (_ ≠ _ ∧ _) => hhzz | with_reducible rename ((_ ≠ _ ∧ _) ∧ _) => hhzz); have := hhzz.1; have := hhzz.2; clear hhzz))) | (dsimp only; walk1) | (leave1; (try dsimp only)) | fail "no step"))
      rename Fr _ _ _ _ => F3
      rename News _ _ _ _ => N3
      rename Obj.IsDictOf (PySem.strKind _ _) _ _ => hd3
      refine ⟨_, _, _, _, rfl, F3, N3, off', rfl, _, _, _, rfl, hd3, ?_, ?_⟩
      · exact Nat.le_trans (stored_length_le kvs xs _) (by omega)
      · trivial
    · intro h tk m news hJ F N
      clear F2 N2 hd1
      obtain ⟨hm, o, kvs, n, rfl, hdo, hlen, hK⟩ := hJ
      have hlen0 : kvs.length ≤ 17 := hlen
      replace F := frSet F hm
      replace N := cb_drop N (fun p hp => .tail _ hp)
      have hlt0 := Heap.lt_size (N _ (.head _)).1
      dsimp only at hlt0
      ((try dsimp only); (try k_fold); repeat' (first | (k_unfold; (try dsimp only)) | ((first | with_reducible ((with_reducible show wpAny _ _ (call (Value.ref 81) _) _ _ _); refine' useV (fun b => c_cname b) ?kF ?kN ?kX ?kT ?kh ?kd ?ku ?_; walk_at "ARGS"; intro t'z h'z tk'z F'z N'z) | with_reducible ((with_reducible show wpAny _ _ (call (Value.ref 66) [Value.str (Str.ofString "utf-8") _]) _ _ _); refine' useV (fun b => c_lower_u b) ?kF ?kN ?kX ?kT ?kh ?kd ?ku ?_; walk_at "ARGS"; intro t'z h'z tk'z F'z N'z) | ((with_reducible show wpAny _ _ (call (Value.builtin "dict.get") _) _ _ _); ((rename valueAt _ _ = some _ => hvvzz); refine kdg_get2 (knd := PySem.strKind _ _) (by k_asm) (by k_mem) (by assumption) (by assumption) (strKind_is _ _ _ _) _ hvvzz ?_; (try dsimp only [Option.getD]))) | with_reducible ((with_reducible show wpAny _ _ (call (Value.ref 74) _) _ _ _); refine' useNames (fun b => c_names b) ?kF ?kN ?kX ?kT ?kh ?kd ?ku ?_; walk_at "ARGS"; intro D o'z kvs'z t'z h'z tk'z F'z N'z hd'z lo'z hv'z o1; (try (simp only [LCg.Off1, and_true] at o1))) | with_reducible ((with_reducible show wpAny _ _ (newTuple _) _ _ _); (k_dflt (refine' kup_newTuple ?Fh9 ?Nh9 ?_ ?zh9; (case Fh9 => k_asm); (case Nh9 => k_asm); (case zh9 => kmk_size)); intro D'z h'z F'z N'z l1zz; (try k_lt l1zz); (try k_sweep))) | with_reducible ((with_reducible show wpAny _ _ (setItem (Value.ref _) (Value.str _ _) _) _ _ _); (refine' kda_set (knd := PySem.strKind _ _) ?Fh9 ?Nh9 ?Uh9 ?dh9 (strKind_is _ _ _ _) ?zh9 ?_; (case Fh9 => k_asm); (case Nh9 => k_asm); (case Uh9 => k_updF); (case dh9 => assumption); (case zh9 => rw [sizeLine_eq]; omega); intro h'z o'z F'z N'z hd'z)) | with_reducible ((with_reducible show wpAny _ _ (call (Value.ref 243) _) _ _ _); refine' useV (fun b => c_part (by assumption) (by first | assumption | omega) (by assumption) b) ?kF ?kN ?kX ?kT ?kh ?kd ?ku ?_; walk_at "ARGS"; intro t'z h'z tk'z F'z N'z) | with_reducible ((with_reducible show wpAny _ _ (call (Value.ref 236) _) _ _ _); refine' useV0 (fun b => c_wsign (by assumption) b) ?kF ?kN ?kX ?kT ?kh ?kd ?ku ?_; walk_at "ARGS"; intro h'z tk'z F'z N'z) | with_reducible ((with_reducible show wpAny _ _ (eval (PySem.Expr.Name _ _) _) _ _ _); (k_dflt (first | (refine' nameX_L ?Fh9 ?vh9 ?_ ?ah9 ?bh9; (case Fh9 => k_asm); (case ah9 => rfl); (case bh9 => rfl); (case vh9 => rfl); k_whole) | (refine' nameX_K ?Fh9 ?Xh9 ?Th9 ?eh9 ?_ ?ah9 ?bh9; (case Fh9 => k_asm); (case Xh9 => k_asm); (case Th9 => k_asm); (case ah9 => rfl); (case bh9 => rfl); (case eh9 => k_is); k_whole) | (refine' nameX_B ?Fh9 ?Xh9 ?Th9 ?eh9 ?vh9 ?nh9 ?_ ?ah9 ?bh9; (case Fh9 => k_asm); (case Xh9 => k_asm); (case Th9 => k_asm); (case ah9 => rfl); (case bh9 => rfl); (case eh9 => k_is); (case vh9 => boot_fast); (case nh9 => decide); k_whole)))) | with_reducible ((with_reducible show wpAny _ _ (spliced _) _ _ _); (k_dflt (first | refine args_cons ?_ | (refine args_nil ?_; (try simp only [List.cons_append, List.nil_append]))))) | with_reducible ((with_reducible show wpAny _ _ (subscriptTail _ _ (Value.bytes (List.toArray _) _) (Value.int _ _)) _ _ _); (refine item_at (by omega) (by omega) (by omega) (by assumption) ?_)) | with_reducible ((with_reducible show wpAny _ _ (exec (PySem.Stmt.For _ (PySem.Expr.Tuple _ _ _) _ _ _) _) _ _ _); ((rename Mk 3 => mk'z); refine Stop.mk ?_)) | with_reducible (k_closed; first | with_reducible refine PySem.W.ite_pos (by with_unfolding_all decide) ?_ | with_reducible refine PySem.W.ite_neg (by with_unfolding_all decide) ?_) | walk1); (try dsimp only); (try ((with_reducible show wpAny _ _ _ _ _ ⟨_, _, _, _ + _, _⟩); refine anyToks ?_; intro _)); (repeat ((first | with_reducible rename (_ < _ ∧ _) => hhzz | with_reducible rename (_ ≠ _ ∧ _) => hhzz | with_reducible rename ((_ ≠ _ ∧ _) ∧ _) => hhzz); have := hhzz.1; have := hhzz.2; clear hhzz))) | (dsimp only; walk1) | (leave1; (try dsimp only)) | fail "no step"))
      refine Stop.out ?_
      refine for_tup (F₀ := by k_asm) rfl ?_
      ((try dsimp only); (try k_fold); repeat' (first | (k_unfold; (try dsimp only)) | ((first | with_reducible ((with_reducible show wpAny _ _ (call (Value.ref 81) _) _ _ _); refine' useV (fun b => c_cname b) ?kF ?kN ?kX ?kT ?kh ?kd ?ku ?_; walk_at "ARGS"; intro t'z h'z tk'z F'z N'z) | with_reducible ((with_reducible show wpAny _ _ (call (Value.ref 66) [Value.str (Str.ofString "utf-8") _]) _ _ _); refine' useV (fun b => c_lower_u b) ?kF ?kN ?kX ?kT ?kh ?kd ?ku ?_; walk_at "ARGS"; intro t'z h'z tk'z F'z N'z) | ((with_reducible show wpAny _ _ (call (Value.builtin "dict.get") _) _ _ _); ((rename valueAt _ _ = some _ => hvvzz); refine kdg_get2 (knd := PySem.strKind _ _) (by k_asm) (by k_mem) (by assumption) (by assumption) (strKind_is _ _ _ _) _ hvvzz ?_; (try dsimp only [Option.getD]))) | with_reducible ((with_reducible show wpAny _ _ (call (Value.ref 74) _) _ _ _); refine' useNames (fun b => c_names b) ?kF ?kN ?kX ?kT ?kh ?kd ?ku ?_; walk_at "ARGS"; intro D o'z kvs'z t'z h'z tk'z F'z N'z hd'z lo'z hv'z o1; (try (simp only [LCg.Off1, and_true] at o1))) | with_reducible ((with_reducible show wpAny _ _ (newTuple _) _ _ _); (k_dflt (refine' kup_newTuple ?Fh9 ?Nh9 ?_ ?zh9; (case Fh9 => k_asm); (case Nh9 => k_asm); (case zh9 => kmk_size)); intro D'z h'z F'z N'z l1zz; (try k_lt l1zz); (try k_sweep))) | with_reducible ((with_reducible show wpAny _ _ (setItem (Value.ref _) (Value.str _ _) _) _ _ _); (refine' kda_set (knd := PySem.strKind _ _) ?Fh9 ?Nh9 ?Uh9 ?dh9 (strKind_is _ _ _ _) ?zh9 ?_; (case Fh9 => k_asm); (case Nh9 => k_asm); (case Uh9 => k_updF); (case dh9 => assumption); (case zh9 => rw [sizeLine_eq]; omega); intro h'z o'z F'z N'z hd'z)) | with_reducible ((with_reducible show wpAny _ _ (call (Value.ref 243) _) _ _ _); refine' useV (fun b => c_part (by assumption) (by first | assumption | omega) (by assumption) b) ?kF ?kN ?kX ?kT ?kh ?kd ?ku ?_; walk_at "ARGS"; intro t'z h'z tk'z F'z N'z) | with_reducible ((with_reducible show wpAny _ _ (call (Value.ref 236) _) _ _ _); refine' useV0 (fun b => c_wsign (by assumption) b) ?kF ?kN ?kX ?kT ?kh ?kd ?ku ?_; walk_at "ARGS"; intro h'z tk'z F'z N'z) | with_reducible ((with_reducible show wpAny _ _ (eval (PySem.Expr.Name _ _) _) _ _ _); (k_dflt (first | (refine' nameX_L ?Fh9 ?vh9 ?_ ?ah9 ?bh9; (case Fh9 => k_asm); (case ah9 => rfl); (case bh9 => rfl); (case vh9 => rfl); k_whole) | (refine' nameX_K ?Fh9 ?Xh9 ?Th9 ?eh9 ?_ ?ah9 ?bh9; (case Fh9 => k_asm); (case Xh9 => k_asm); (case Th9 => k_asm); (case ah9 => rfl); (case bh9 => rfl); (case eh9 => k_is); k_whole) | (refine' nameX_B ?Fh9 ?Xh9 ?Th9 ?eh9 ?vh9 ?nh9 ?_ ?ah9 ?bh9; (case Fh9 => k_asm); (case Xh9 => k_asm); (case Th9 => k_asm); (case ah9 => rfl); (case bh9 => rfl); (case eh9 => k_is); (case vh9 => boot_fast); (case nh9 => decide); k_whole)))) | with_reducible ((with_reducible show wpAny _ _ (spliced _) _ _ _); (k_dflt (first | refine args_cons ?_ | (refine args_nil ?_; (try simp only [List.cons_append, List.nil_append]))))) | with_reducible ((with_reducible show wpAny _ _ (subscriptTail _ _ (Value.bytes (List.toArray _) _) (Value.int _ _)) _ _ _); (refine item_at (by omega) (by omega) (by omega) (by assumption) ?_)) | with_reducible ((with_reducible show wpAny _ _ (exec (PySem.Stmt.For _ (PySem.Expr.Tuple _ _ _) _ _ _) _) _ _ _); ((rename Mk 3 => mk'z); refine Stop.mk ?_)) | with_reducible (k_closed; first | with_reducible refine PySem.W.ite_pos (by with_unfolding_all decide) ?_ | with_reducible refine PySem.W.ite_neg (by with_unfolding_all decide) ?_) | walk1); (try dsimp only); (try ((with_reducible show wpAny _ _ _ _ _ ⟨_, _, _, _ + _, _⟩); refine anyToks ?_; intro _)); (repeat ((first | with_reducible rename (_ < _ ∧ _) => hhzz | with_reducible rename (_ ≠ _ ∧ _) => hhzz | with_reducible rename ((_ ≠ _ ∧ _) ∧ _) => hhzz); have := hhzz.1; have := hhzz.2; clear hhzz))) | (dsimp only; walk1) | (leave1; (try dsimp only)) | fail "no step"))
      rename Fr _ _ _ _ => F2
      rename News _ _ _ _ => N2
      rename Obj.IsDictOf (PySem.strKind _ _) _ _ => hd1
      refine Stop.out ⟨_, _, _, _, NmJ w _ _ _ 17 (fun i kvs => 1 ≤ i → ∃ t, valueAt kvs (Str.ofString "utf-8") = some (.str (Str.ofString "utf-8") t)), rfl, F2, N2, fun i m news h hJ F N => nm_src hJ N, ⟨rfl, _, _, _, rfl, hd1, hlen0, fun h => absurd h (by decide)⟩, ?_, ?_⟩
      · intro i v I oI h tk m news hi hv hJ F N off
        clear F2 N2 hd1
        obtain ⟨hm, o, kvs, n, rfl, hdo, hlen, hK⟩ := hJ
        have hi' : i < 2 := hi
        obtain ⟨xs, tv, rfl, hxs⟩ : ∃ xs tv, v = .str xs tv ∧ xs = (if i = 0 then Str.ofString "utf-8" else Str.ofString "utf8") := by
          rcases i with _ | _ | i
          · simp at hv; exact ⟨_, _, hv.symm, rfl⟩
          · simp at hv; exact ⟨_, _, hv.symm, rfl⟩
          · omega
        replace F := frSet F hm
        have off' := off
        simp only [LCg.Off1, and_true] at off
        ((try dsimp only); (try k_fold); repeat' (first | (k_unfold; (try dsimp only)) | ((first | with_reducible ((with_reducible show wpAny _ _ (call (Value.ref 81) _) _ _ _); refine' useV (fun b => c_cname b) ?kF ?kN ?kX ?kT ?kh ?kd ?ku ?_; walk_at "ARGS"; intro t'z h'z tk'z F'z N'z) | with_reducible ((with_reducible show wpAny _ _ (call (Value.ref 66) [Value.str (Str.ofString "utf-8") _]) _ _ _); refine' useV (fun b => c_lower_u b) ?kF ?kN ?kX ?kT ?kh ?kd ?ku ?_; walk_at "ARGS"; intro t'z h'z tk'z F'z N'z) | ((with_reducible show wpAny _ _ (call (Value.builtin "dict.get") _) _ _ _); ((rename valueAt _ _ = some _ => hvvzz); refine kdg_get2 (knd := PySem.strKind _ _) (by k_asm) (by k_mem) (by assumption) (by assumption) (strKind_is _ _ _ _) _ hvvzz ?_; (try dsimp only [Option.getD]))) | with_reducible ((with_reducible show wpAny _ _ (call (Value.ref 74) _) _ _ _); refine' useNames (fun b => c_names b) ?kF ?kN ?kX ?kT ?kh ?kd ?ku ?_; walk_at "ARGS"; intro D o'z kvs'z t'z h'z tk'z F'z N'z hd'z lo'z hv'z o1; (try (simp only [LCg.Off1, and_true] at o1))) | with_reducible ((with_reducible show wpAny _ _ (newTuple _) _ _ _); (k_dflt (refine' kup_newTuple ?Fh9 ?Nh9 ?_ ?zh9; (case Fh9 => k_asm); (case Nh9 => k_asm); (case zh9 => kmk_size)); intro D'z h'z F'z N'z l1zz; (try k_lt l1zz); (try k_sweep))) | with_reducible ((with_reducible show wpAny _ _ (setItem (Value.ref _) (Value.str _ _) _) _ _ _); (refine' kda_set (knd := PySem.strKind _ _) ?Fh9 ?Nh9 ?Uh9 ?dh9 (strKind_is _ _ _ _) ?zh9 ?_; (case Fh9 => k_asm); (case Nh9 => k_asm); (case Uh9 => k_updF); (case dh9 => assumption); (case zh9 => rw [sizeLine_eq]; omega); intro h'z o'z F'z N'z hd'z)) | with_reducible ((with_reducible show wpAny _ _ (call (Value.ref 243) _) _ _ _); refine' useV (fun b => c_part (by assumption) (by first | assumption | omega) (by assumption) b) ?kF ?kN ?kX ?kT ?kh ?kd ?ku ?_; walk_at "ARGS"; intro t'z h'z tk'z F'z N'z) | with_reducible ((with_reducible show wpAny _ _ (call (Value.ref 236) _) _ _ _); refine' useV0 (fun b => c_wsign (by assumption) b) ?kF ?kN ?kX ?kT ?kh ?kd ?ku ?_; walk_at "ARGS"; intro h'z tk'z F'z N'z) | with_reducible ((with_reducible show wpAny _ _ (eval (PySem.Expr.Name _ _) _) _ _ _); (k_dflt (first | (refine' nameX_L ?Fh9 ?vh9 ?_ ?ah9 ?bh9; (case Fh9 => k_asm); (case ah9 => rfl); (case bh9 => rfl); (case vh9 => rfl); k_whole) | (refine' nameX_K ?Fh9 ?Xh9 ?Th9 ?eh9 ?_ ?ah9 ?bh9; (case Fh9 => k_asm); (case Xh9 => k_asm); (case Th9 => k_asm); (case ah9 => rfl); (case bh9 => rfl); (case eh9 => k_is); k_whole) | (refine' nameX_B ?Fh9 ?Xh9 ?Th9 ?eh9 ?vh9 ?nh9 ?_ ?ah9 ?bh9; (case Fh9 => k_asm); (case Xh9 => k_asm); (case Th9 => k_asm); (case ah9 => rfl); (case bh9 => rfl); (case eh9 => k_is); (case vh9 => boot_fast); (case nh9 => decide); k_whole)))) | with_reducible ((with_reducible show wpAny _ _ (spliced _) _ _ _); (k_dflt (first | refine args_cons ?_ | (refine args_nil ?_; (try simp only [List.cons_append, List.nil_append]))))) | with_reducible ((with_reducible show wpAny _ _ (subscriptTail _ _ (Value.bytes (List.toArray _) _) (Value.int _ _)) _ _ _); (refine item_at (by omega) (by omega) (by omega) (by assumption) ?_)) | with_reducible ((with_reducible show wpAny _ _ (exec (PySem.Stmt.For _ (PySem.Expr.Tuple _ _ _) _ _ _) _) _ _ _); ((rename Mk 3 => mk'z); refine Stop.mk ?_)) | with_reducible (k_closed; first | with_reducible refine PySem.W.ite_pos (by with_unfolding_all decide) ?_ | with_reducible refine PySem.W.ite_neg (by with_unfolding_all decide) ?_) | walk1); (try dsimp only); (try ((with_reducible show wpAny _ _ _ _ _ ⟨_, _, _, _ + _, _⟩); refine anyToks ?_; intro _)); (repeat ((first | with_reducible rename (_ < _ ∧ _) => hhzz | with_reducible rename (_ ≠ _ ∧ _) => hhzz | with_reducible rename ((_ ≠ _ ∧ _) ∧ _) => hhzz); have := hhzz.1; have := hhzz.2; clear hhzz))) | (dsimp only; walk1) | (leave1; (try dsimp only)) | fail "no step"))
        rename Fr _ _ _ _ => F3
        rename News _ _ _ _ => N3
        rename Obj.IsDictOf (PySem.strKind _ _) _ _ => hd3
        refine ⟨_, _, _, _, rfl, F3, N3, off', rfl, _, _, _, rfl, hd3, ?_, ?_⟩
        · exact Nat.le_trans (stored_length_le kvs xs _) (by omega)
        · intro _
          rw [valueAt_stored]
          rcases i with _ | i
          · exact ⟨_, if_pos hxs⟩
          · obtain ⟨t', e⟩ := hK (by omega)
            refine ⟨t', ?_⟩
            have hx2 : xs = Str.ofString "utf8" := by rw [hxs]; exact if_neg (by omega)
            subst hx2
            rw [if_neg (by decide +kernel), e]
      · intro h tk m news hJ F N
        clear F2 N2 hd1
        obtain ⟨hm, o, kvs, n, rfl, hdo, hlen, hK⟩ := hJ
        have hlen0 : kvs.length ≤ 19 := hlen
        replace F := frSet F hm
        replace N := cb_drop N (fun p hp => .tail _ hp)
        have hlt0 := Heap.lt_size (N _ (.head _)).1
        dsimp only at hlt0
        ((try dsimp only); (try k_fold); repeat' (first | (k_unfold; (try dsimp only)) | ((first | with_reducible ((with_reducible show wpAny _ _ (call (Value.ref 81) _) _ _ _); refine' useV (fun b => c_cname b) ?kF ?kN ?kX ?kT ?kh ?kd ?ku ?_; walk_at "ARGS"; intro t'z h'z tk'z F'z N'z) | with_reducible ((with_reducible show wpAny _ _ (call (Value.ref 66) [Value.str (Str.ofString "utf-8") _]) _ _ _); refine' useV (fun b => c_lower_u b) ?kF ?kN ?kX ?kT ?kh ?kd ?ku ?_; walk_at "ARGS"; intro t'z h'z tk'z F'z N'z) | ((with_reducible show wpAny _ _ (call (Value.builtin "dict.get") _) _ _ _); ((rename valueAt _ _ = some _ => hvvzz); refine kdg_get2 (knd := PySem.strKind _ _) (by k_asm) (by k_mem) (by assumption) (by assumption) (strKind_is _ _ _ _) _ hvvzz ?_; (try dsimp only [Option.getD]))) | with_reducible ((with_reducible show wpAny _ _ (call (Value.ref 74) _) _ _ _); refine' useNames (fun b => c_names b) ?kF ?kN ?kX ?kT ?kh ?kd ?ku ?_; walk_at "ARGS"; intro D o'z kvs'z t'z h'z tk'z F'z N'z hd'z lo'z hv'z o1; (try (simp only [LCg.Off1, and_true] at o1))) | with_reducible ((with_reducible show wpAny _ _ (newTuple _) _ _ _); (k_dflt (refine' kup_newTuple ?Fh9 ?Nh9 ?_ ?zh9; (case Fh9 => k_asm); (case Nh9 => k_asm); (case zh9 => kmk_size)); intro D'z h'z F'z N'z l1zz; (try k_lt l1zz); (try k_sweep))) | with_reducible ((with_reducible show wpAny _ _ (setItem (Value.ref _) (Value.str _ _) _) _ _ _); (refine' kda_set (knd := PySem.strKind _ _) ?Fh9 ?Nh9 ?Uh9 ?dh9 (strKind_is _ _ _ _) ?zh9 ?_; (case Fh9 => k_asm); (case Nh9 => k_asm); (case Uh9 => k_updF); (case dh9 => assumption); (case zh9 => rw [sizeLine_eq]; omega); intro h'z o'z F'z N'z hd'z)) | with_reducible ((with_reducible show wpAny _ _ (call (Value.ref 243) _) _ _ _); refine' useV (fun b => c_part (by assumption) (by first | assumption | omega) (by assumption) b) ?kF ?kN ?kX ?kT ?kh ?kd ?ku ?_; walk_at "ARGS"; intro t'z h'z tk'z F'z N'z) | with_reducible ((with_reducible show wpAny _ _ (call (Value.ref 236) _) _ _ _); refine' useV0 (fun b => c_wsign (by assumption) b) ?kF ?kN ?kX ?kT ?kh ?kd ?ku ?_; walk_at "ARGS"; intro h'z tk'z F'z N'z) | with_reducible ((with_reducible show wpAny _ _ (eval (PySem.Expr.Name _ _) _) _ _ _); (k_dflt (first | (refine' nameX_L ?Fh9 ?vh9 ?_ ?ah9 ?bh9; (case Fh9 => k_asm); (case ah9 => rfl); (case bh9 => rfl); (case vh9 => rfl); k_whole) | (refine' nameX_K ?Fh9 ?Xh9 ?Th9 ?eh9 ?_ ?ah9 ?bh9; (case Fh9 => k_asm); (case Xh9 => k_asm); (case Th9 => k_asm); (case ah9 => rfl); (case bh9 => rfl); (case eh9 => k_is); k_whole) | (refine' nameX_B ?Fh9 ?Xh9 ?Th9 ?eh9 ?vh9 ?nh9 ?_ ?ah9 ?bh9; (case Fh9 => k_asm); (case Xh9 => k_asm); (case Th9 => k_asm); (case ah9 => rfl); (case bh9 => rfl); (case eh9 => k_is); (case vh9 => boot_fast); (case nh9 => decide); k_whole)))) | with_reducible ((with_reducible show wpAny _ _ (spliced _) _ _ _); (k_dflt (first | refine args_cons ?_ | (refine args_nil ?_; (try simp only [List.cons_append, List.nil_append]))))) | with_reducible ((with_reducible show wpAny _ _ (subscriptTail _ _ (Value.bytes (List.toArray _) _) (Value.int _ _)) _ _ _); (refine item_at (by omega) (by omega) (by omega) (by assumption) ?_)) | with_reducible ((with_reducible show wpAny _ _ (exec (PySem.Stmt.For _ (PySem.Expr.Tuple _ _ _) _ _ _) _) _ _ _); ((rename Mk 3 => mk'z); refine Stop.mk ?_)) | with_reducible (k_closed; first | with_reducible refine PySem.W.ite_pos (by with_unfolding_all decide) ?_ | with_reducible refine PySem.W.ite_neg (by with_unfolding_all decide) ?_) | walk1); (try dsimp only); (try ((with_reducible show wpAny _ _ _ _ _ ⟨_, _, _, _ + _, _⟩); refine anyToks ?_; intro _)); (repeat ((first | with_reducible rename (_ < _ ∧ _) => hhzz | with_reducible rename (_ ≠ _ ∧ _) => hhzz | with_reducible rename ((_ ≠ _ ∧ _) ∧ _) => hhzz); have := hhzz.1; have := hhzz.2; clear hhzz))) | (dsimp only; walk1) | (leave1; (try dsimp only)) | fail "no step"))
        obtain ⟨t', e⟩ := hK (by show 1 ≤ 2; decide)
        exact Done.ret (by k_asm) ⟨_, _, _, _, rfl, (N _ (.head _)).2.2, (N _ (.head _)).1, hdo, hlo, e⟩
theorem useNames {w : World} {n : Nat} {s : Shared} {c : Sem Value} {A : Around} {Q E : Value → Shared → Prop} {vw : Program} {lo : List Str} {mean : ExcName → Option Value} {mg mb : Str → Option Value}
    {h₀ : Heap} {L : Addr} {m : Str → Option Value} {news : List (Addr × Obj)} (C : Bs w vw lo mean mg mb s.heap → Cl w n s c (isNames w s.heap))
    (F : Fr h₀ L s.heap m) (N : News h₀ L s.heap news) (X : (hd.heap_39 w.params).In h₀) (T : Top vw lo mean mg mb h₀)
    (hh : A.handled = none) (hd : A.depth + n < recursionLimit) (hu : A.units + 8 * n < cLine)
    (h : ∀ D o kvs t h' tk, Fr h₀ L h' m → News h₀ L h' ((D, o) :: news) → o.IsDictOf (PySem.strKind Pg w) kvs → (D == sysModules) = false → valueAt kvs (Str.ofString "utf-8") = some (.str (Str.ofString "utf-8") t) → LCg.Off1 D news → Q (.ref D) { s with heap := h', toks := tk }) : wpAny (model Pg w) A c Q E s :=
  useCl C F N X T hh hd hu fun v h' tk k F' N' p => by obtain ⟨D, o, kvs, t, rfl, hD, e, h1, h2, h3⟩ := p; exact h D o kvs t h' tk F' (addNew F N k hD e) h1 h2 h3 (offNew N hD)
theorem c_lower_u {t : Tok} (b : Bs w vw lo mean mg mb s.heap) : Cl w 2 s (call (.ref 66) [.str (Str.ofString "utf-8") t]) (fun r _ => ∃ t', r = .str (Str.ofString "utf-8") t') := by
  have e1 : Str.ofString "utf-8" = st [117, 116, 102, 45, 56] := by decide +kernel
  have e2 : [117, 116, 102, 45, 56].map lowN = [117, 116, 102, 45, 56] := by decide +kernel
  have := c_lower_text (l := [117, 116, 102, 45, 56]) (t := t) (by decide +kernel) (by decide +kernel) b
  rw [e2] at this
  rw [e1]
  exact this

theorem c_cname {t : Tok} (b : Bs w vw lo mean mg mb s.heap) : Cl w 3 s (call (.ref 81) [.str (Str.ofString "utf-8") t]) (fun r _ => ∃ t', r = .str (Str.ofString "utf-8") t') := by
  refine' enter (binds := [(Str.ofString "text", .str (Str.ofString "utf-8") t)]) b ?k6 ?k7 ?k9 ?kB ?c5 ?c2 ?c3 ?c4 ?_
  ((case k6 => k_is); (case k7 => k_is); (case k9 => exact rfl); (case kB => exact locs rfl); (case c5 => decide); (case c2 => exact rfl); (case c3 => exact rfl); (case c4 => exact rfl))
  intro dp un fr gd h₁ tk hd hu F X T N
  ((try dsimp only); (try k_fold); repeat' (first | (k_unfold; (try dsimp only)) | ((first | with_reducible ((with_reducible show wpAny _ _ (call (Value.ref 81) _) _ _ _); refine' useV (fun b => c_cname b) ?kF ?kN ?kX ?kT ?kh ?kd ?ku ?_; walk_at "ARGS"; intro t'z h'z tk'z F'z N'z) | with_reducible ((with_reducible show wpAny _ _ (call (Value.ref 66) [Value.str (Str.ofString "utf-8") _]) _ _ _); refine' useV (fun b => c_lower_u b) ?kF ?kN ?kX ?kT ?kh ?kd ?ku ?_; walk_at "ARGS"; intro t'z h'z tk'z F'z N'z) | ((with_reducible show wpAny _ _ (call (Value.builtin "dict.get") _) _ _ _); ((rename valueAt _ _ = some _ => hvvzz); refine kdg_get2 (knd := PySem.strKind _ _) (by k_asm) (by k_mem) (by assumption) (by assumption) (strKind_is _ _ _ _) _ hvvzz ?_; (try dsimp only [Option.getD]))) | with_reducible ((with_reducible show wpAny _ _ (call (Value.ref 74) _) _ _ _); refine' useNames (fun b => c_names b) ?kF ?kN ?kX ?kT ?kh ?kd ?ku ?_; walk_at "ARGS"; intro D o'z kvs'z t'z h'z tk'z F'z N'z hd'z lo'z hv'z o1; (try (simp only [LCg.Off1, and_true] at o1))) | with_reducible ((with_reducible show wpAny _ _ (newTuple _) _ _ _); (k_dflt (refine' kup_newTuple ?Fh9 ?Nh9 ?_ ?zh9; (case Fh9 => k_asm); (case Nh9 => k_asm); (case zh9 => kmk_size)); intro D'z h'z F'z N'z l1zz; (try k_lt l1zz); (try k_sweep))) | with_reducible ((with_reducible show wpAny _ _ (setItem (Value.ref _) (Value.str _ _) _) _ _ _); (refine' kda_set (knd := PySem.strKind _ _) ?Fh9 ?Nh9 ?Uh9 ?dh9 (strKind_is _ _ _ _) ?zh9 ?_; (case Fh9 => k_asm); (case Nh9 => k_asm); (case Uh9 => k_updF); (case dh9 => assumption); (case zh9 => rw [sizeLine_eq]; omega); intro h'z o'z F'z N'z hd'z)) | with_reducible ((with_reducible show wpAny _ _ (call (Value.ref 243) _) _ _ _); refine' useV (fun b => c_part (by assumption) (by first | assumption | omega) (by assumption) b) ?kF ?kN ?kX ?kT ?kh ?kd ?ku ?_; walk_at "ARGS"; intro t'z h'z tk'z F'z N'z) | with_reducible ((with_reducible show wpAny _ _ (call (Value.ref 236) _) _ _ _); refine' useV0 (fun b => c_wsign (by assumption) b) ?kF ?kN ?kX ?kT ?kh ?kd ?ku ?_; walk_at "ARGS"; intro h'z tk'z F'z N'z) | with_reducible ((with_reducible show wpAny _ _ (eval (PySem.Expr.Name _ _) _) _ _ _); (k_dflt (first | (refine' nameX_L ?Fh9 ?vh9 ?_ ?ah9 ?bh9; (case Fh9 => k_asm); (case ah9 => rfl); (case bh9 => rfl); (case vh9 => rfl); k_whole) | (refine' nameX_K ?Fh9 ?Xh9 ?Th9 ?eh9 ?_ ?ah9 ?bh9; (case Fh9 => k_asm); (case Xh9 => k_asm); (case Th9 => k_asm); (case ah9 => rfl); (case bh9 => rfl); (case eh9 => k_is); k_whole) | (refine' nameX_B ?Fh9 ?Xh9 ?Th9 ?eh9 ?vh9 ?nh9 ?_ ?ah9 ?bh9; (case Fh9 => k_asm); (case Xh9 => k_asm); (case Th9 => k_asm); (case ah9 => rfl); (case bh9 => rfl); (case eh9 => k_is); (case vh9 => boot_fast); (case nh9 => decide); k_whole)))) | with_reducible ((with_reducible show wpAny _ _ (spliced _) _ _ _); (k_dflt (first | refine args_cons ?_ | (refine args_nil ?_; (try simp only [List.cons_append, List.nil_append]))))) | with_reducible ((with_reducible show wpAny _ _ (subscriptTail _ _ (Value.bytes (List.toArray _) _) (Value.int _ _)) _ _ _); (refine item_at (by omega) (by omega) (by omega) (by assumption) ?_)) | with_reducible ((with_reducible show wpAny _ _ (exec (PySem.Stmt.For _ (PySem.Expr.Tuple _ _ _) _ _ _) _) _ _ _); ((rename Mk 3 => mk'z); refine Stop.mk ?_)) | with_reducible (k_closed; first | with_reducible refine PySem.W.ite_pos (by with_unfolding_all decide) ?_ | with_reducible refine PySem.W.ite_neg (by with_unfolding_all decide) ?_) | walk1); (try dsimp only); (try ((with_reducible show wpAny _ _ _ _ _ ⟨_, _, _, _ + _, _⟩); refine anyToks ?_; intro _)); (repeat ((first | with_reducible rename (_ < _ ∧ _) => hhzz | with_reducible rename (_ ≠ _ ∧ _) => hhzz | with_reducible rename ((_ ≠ _ ∧ _) ∧ _) => hhzz); have := hhzz.1; have := hhzz.2; clear hhzz))) | (dsimp only; walk1) | (leave1; (try dsimp only)) | fail "no step"))
  exact Done.ret (by k_asm) ⟨_, rfl⟩

theorem c_apart {x : List UInt8} {i e : Int} {t t2 t3 : Tok} (hx : x.length ≤ 1000000) (he : e = x.length) (hi : i = 0 ∨ (0 < i ∧ i ≤ x.length ∧ ((x.getD (i - 1).toNat 0).toNat : Int) = 32)) (b : Bs w vw lo mean mg mb s.heap) :
    Cl w 1 s (call (.ref 255) [.bytes x.toArray t, .int i t2, .int e t3]) (fun z _ => z = .bool true) := by
  refine' enter (binds := [(Str.ofString "octets", .bytes x.toArray t), (Str.ofString "begin", .int i t2), (Str.ofString "end", .int e t3)]) b ?k6 ?k7 ?k9 ?kB ?c5 ?c2 ?c3 ?c4 ?_
  ((case k6 => k_is); (case k7 => k_is); (case k9 => exact rfl); (case kB => exact locs rfl); (case c5 => decide); (case c2 => exact rfl); (case c3 => exact rfl); (case c4 => exact rfl))
  intro dp un fr gd h₁ tk hd hu F X T N
  obtain ⟨ta, tb, tc, td, t228⟩ := tup228 X
  have hxs : e = (x.toArray.size : Int) := by simpa using he
  clear he
  subst hxs
  rcases hi with rfl | ⟨h1, h2, h3⟩
  · ((try dsimp only); (try k_fold); repeat' (first | (k_unfold; (try dsimp only)) | ((first | with_reducible ((with_reducible show wpAny _ _ (call (Value.ref 81) _) _ _ _); refine' useV (fun b => c_cname b) ?kF ?kN ?kX ?kT ?kh ?kd ?ku ?_; walk_at "ARGS"; intro t'z h'z tk'z F'z N'z) | with_reducible ((with_reducible show wpAny _ _ (call (Value.ref 66) [Value.str (Str.ofString "utf-8") _]) _ _ _); refine' useV (fun b => c_lower_u b) ?kF ?kN ?kX ?kT ?kh ?kd ?ku ?_; walk_at "ARGS"; intro t'z h'z tk'z F'z N'z) | ((with_reducible show wpAny _ _ (call (Value.builtin "dict.get") _) _ _ _); ((rename valueAt _ _ = some _ => hvvzz); refine kdg_get2 (knd := PySem.strKind _ _) (by k_asm) (by k_mem) (by assumption) (by assumption) (strKind_is _ _ _ _) _ hvvzz ?_; (try dsimp only [Option.getD]))) | with_reducible ((with_reducible show wpAny _ _ (call (Value.ref 74) _) _ _ _); refine' useNames (fun b => c_names b) ?kF ?kN ?kX ?kT ?kh ?kd ?ku ?_; walk_at "ARGS"; intro D o'z kvs'z t'z h'z tk'z F'z N'z hd'z lo'z hv'z o1; (try (simp only [LCg.Off1, and_true] at o1))) | with_reducible ((with_reducible show wpAny _ _ (newTuple _) _ _ _); (k_dflt (refine' kup_newTuple ?Fh9 ?Nh9 ?_ ?zh9; (case Fh9 => k_asm); (case Nh9 => k_asm); (case zh9 => kmk_size)); intro D'z h'z F'z N'z l1zz; (try k_lt l1zz); (try k_sweep))) | with_reducible ((with_reducible show wpAny _ _ (setItem (Value.ref _) (Value.str _ _) _) _ _ _); (refine' kda_set (knd := PySem.strKind _ _) ?Fh9 ?Nh9 ?Uh9 ?dh9 (strKind_is _ _ _ _) ?zh9 ?_; (case Fh9 => k_asm); (case Nh9 => k_asm); (case Uh9 => k_updF); (case dh9 => assumption); (case zh9 => rw [sizeLine_eq]; omega); intro h'z o'z F'z N'z hd'z)) | with_reducible ((with_reducible show wpAny _ _ (call (Value.ref 243) _) _ _ _); refine' useV (fun b => c_part (by assumption) (by first | assumption | omega) (by assumption) b) ?kF ?kN ?kX ?kT ?kh ?kd ?ku ?_; walk_at "ARGS"; intro t'z h'z tk'z F'z N'z) | with_reducible ((with_reducible show wpAny _ _ (call (Value.ref 236) _) _ _ _); refine' useV0 (fun b => c_wsign (by assumption) b) ?kF ?kN ?kX ?kT ?kh ?kd ?ku ?_; walk_at "ARGS"; intro h'z tk'z F'z N'z) | with_reducible ((with_reducible show wpAny _ _ (eval (PySem.Expr.Name _ _) _) _ _ _); (k_dflt (first | (refine' nameX_L ?Fh9 ?vh9 ?_ ?ah9 ?bh9; (case Fh9 => k_asm); (case ah9 => rfl); (case bh9 => rfl); (case vh9 => rfl); k_whole) | (refine' nameX_K ?Fh9 ?Xh9 ?Th9 ?eh9 ?_ ?ah9 ?bh9; (case Fh9 => k_asm); (case Xh9 => k_asm); (case Th9 => k_asm); (case ah9 => rfl); (case bh9 => rfl); (case eh9 => k_is); k_whole) | (refine' nameX_B ?Fh9 ?Xh9 ?Th9 ?eh9 ?vh9 ?nh9 ?_ ?ah9 ?bh9; (case Fh9 => k_asm); (case Xh9 => k_asm); (case Th9 => k_asm); (case ah9 => rfl); (case bh9 => rfl); (case eh9 => k_is); (case vh9 => boot_fast); (case nh9 => decide); k_whole)))) | with_reducible ((with_reducible show wpAny _ _ (spliced _) _ _ _); (k_dflt (first | refine args_cons ?_ | (refine args_nil ?_; (try simp only [List.cons_append, List.nil_append]))))) | with_reducible ((with_reducible show wpAny _ _ (subscriptTail _ _ (Value.bytes (List.toArray _) _) (Value.int _ _)) _ _ _); (refine item_at (by omega) (by omega) (by omega) (by assumption) ?_)) | with_reducible ((with_reducible show wpAny _ _ (exec (PySem.Stmt.For _ (PySem.Expr.Tuple _ _ _) _ _ _) _) _ _ _); ((rename Mk 3 => mk'z); refine Stop.mk ?_)) | with_reducible (k_closed; first | with_reducible refine PySem.W.ite_pos (by with_unfolding_all decide) ?_ | with_reducible refine PySem.W.ite_neg (by with_unfolding_all decide) ?_) | walk1); (try dsimp only); (try ((with_reducible show wpAny _ _ _ _ _ ⟨_, _, _, _ + _, _⟩); refine anyToks ?_; intro _)); (repeat ((first | with_reducible rename (_ < _ ∧ _) => hhzz | with_reducible rename (_ ≠ _ ∧ _) => hhzz | with_reducible rename ((_ ≠ _ ∧ _) ∧ _) => hhzz); have := hhzz.1; have := hhzz.2; clear hhzz))) | (dsimp only; walk1) | (leave1; (try dsimp only)) | fail "no step"))
    all_goals first | (exfalso; omega) | exact Done.ret (by k_asm) (congrArg Value.bool (by simp))
  · ((try dsimp only); (try k_fold); repeat' (first | (k_unfold; (try dsimp only)) | ((first | with_reducible ((with_reducible show wpAny _ _ (call (Value.ref 81) _) _ _ _); refine' useV (fun b => c_cname b) ?kF ?kN ?kX ?kT ?kh ?kd ?ku ?_; walk_at "ARGS"; intro t'z h'z tk'z F'z N'z) | with_reducible ((with_reducible show wpAny _ _ (call (Value.ref 66) [Value.str (Str.ofString "utf-8") _]) _ _ _); refine' useV (fun b => c_lower_u b) ?kF ?kN ?kX ?kT ?kh ?kd ?ku ?_; walk_at "ARGS"; intro t'z h'z tk'z F'z N'z) | ((with_reducible show wpAny _ _ (call (Value.builtin "dict.get") _) _ _ _); ((rename valueAt _ _ = some _ => hvvzz); refine kdg_get2 (knd := PySem.strKind _ _) (by k_asm) (by k_mem) (by assumption) (by assumption) (strKind_is _ _ _ _) _ hvvzz ?_; (try dsimp only [Option.getD]))) | with_reducible ((with_reducible show wpAny _ _ (call (Value.ref 74) _) _ _ _); refine' useNames (fun b => c_names b) ?kF ?kN ?kX ?kT ?kh ?kd ?ku ?_; walk_at "ARGS"; intro D o'z kvs'z t'z h'z tk'z F'z N'z hd'z lo'z hv'z o1; (try (simp only [LCg.Off1, and_true] at o1))) | with_reducible ((with_reducible show wpAny _ _ (newTuple _) _ _ _); (k_dflt (refine' kup_newTuple ?Fh9 ?Nh9 ?_ ?zh9; (case Fh9 => k_asm); (case Nh9 => k_asm); (case zh9 => kmk_size)); intro D'z h'z F'z N'z l1zz; (try k_lt l1zz); (try k_sweep))) | with_reducible ((with_reducible show wpAny _ _ (setItem (Value.ref _) (Value.str _ _) _) _ _ _); (refine' kda_set (knd := PySem.strKind _ _) ?Fh9 ?Nh9 ?Uh9 ?dh9 (strKind_is _ _ _ _) ?zh9 ?_; (case Fh9 => k_asm); (case Nh9 => k_asm); (case Uh9 => k_updF); (case dh9 => assumption); (case zh9 => rw [sizeLine_eq]; omega); intro h'z o'z F'z N'z hd'z)) | with_reducible ((with_reducible show wpAny _ _ (call (Value.ref 243) _) _ _ _); refine' useV (fun b => c_part (by assumption) (by first | assumption | omega) (by assumption) b) ?kF ?kN ?kX ?kT ?kh ?kd ?ku ?_; walk_at "ARGS"; intro t'z h'z tk'z F'z N'z) | with_reducible ((with_reducible show wpAny _ _ (call (Value.ref 236) _) _ _ _); refine' useV0 (fun b => c_wsign (by assumption) b) ?kF ?kN ?kX ?kT ?kh ?kd ?ku ?_; walk_at "ARGS"; intro h'z tk'z F'z N'z) | with_reducible ((with_reducible show wpAny _ _ (eval (PySem.Expr.Name _ _) _) _ _ _); (k_dflt (first | (refine' nameX_L ?Fh9 ?vh9 ?_ ?ah9 ?bh9; (case Fh9 => k_asm); (case ah9 => rfl); (case bh9 => rfl); (case vh9 => rfl); k_whole) | (refine' nameX_K ?Fh9 ?Xh9 ?Th9 ?eh9 ?_ ?ah9 ?bh9; (case Fh9 => k_asm); (case Xh9 => k_asm); (case Th9 => k_asm); (case ah9 => rfl); (case bh9 => rfl); (case eh9 => k_is); k_whole) | (refine' nameX_B ?Fh9 ?Xh9 ?Th9 ?eh9 ?vh9 ?nh9 ?_ ?ah9 ?bh9; (case Fh9 => k_asm); (case Xh9 => k_asm); (case Th9 => k_asm); (case ah9 => rfl); (case bh9 => rfl); (case eh9 => k_is); (case vh9 => boot_fast); (case nh9 => decide); k_whole)))) | with_reducible ((with_reducible show wpAny _ _ (spliced _) _ _ _); (k_dflt (first | refine args_cons ?_ | (refine args_nil ?_; (try simp only [List.cons_append, List.nil_append]))))) | with_reducible ((with_reducible show wpAny _ _ (subscriptTail _ _ (Value.bytes (List.toArray _) _) (Value.int _ _)) _ _ _); (refine item_at (by omega) (by omega) (by omega) (by assumption) ?_)) | with_reducible ((with_reducible show wpAny _ _ (exec (PySem.Stmt.For _ (PySem.Expr.Tuple _ _ _) _ _ _) _) _ _ _); ((rename Mk 3 => mk'z); refine Stop.mk ?_)) | with_reducible (k_closed; first | with_reducible refine PySem.W.ite_pos (by with_unfolding_all decide) ?_ | with_reducible refine PySem.W.ite_neg (by with_unfolding_all decide) ?_) | walk1); (try dsimp only); (try ((with_reducible show wpAny _ _ _ _ _ ⟨_, _, _, _ + _, _⟩); refine anyToks ?_; intro _)); (repeat ((first | with_reducible rename (_ < _ ∧ _) => hhzz | with_reducible rename (_ ≠ _ ∧ _) => hhzz | with_reducible rename ((_ ≠ _ ∧ _) ∧ _) => hhzz); have := hhzz.1; have := hhzz.2; clear hhzz))) | (dsimp only; walk1) | (leave1; (try dsimp only)) | fail "no step"))
    all_goals first | (exfalso; omega) | exact Done.ret (by k_asm) (congrArg Value.bool (by simp))


end

section
variable {w : World} {vw : Program} {lo : List Str} {mean : ExcName → Option Value} {mg mb : Str → Option Value} {s : Shared}

theorem c_plain_u {t : Tok} (b : Bs w vw lo mean mg mb s.heap) : Cl w 1 s (call (.ref 260) [.bytes #[117, 116, 102, 45, 56] t]) (fun r _ => ∃ t', r = .str (Str.ofString "utf-8") t') := by
  have e1 : Str.ofString "utf-8" = st ([117, 116, 102, 45, 56].map UInt8.toNat) := by decide +kernel
  rw [e1]
  exact c_plain (l := [117, 116, 102, 45, 56]) (by decide) b
theorem c_plain_q {t : Tok} (b : Bs w vw lo mean mg mb s.heap) : Cl w 1 s (call (.ref 260) [.bytes #[113] t]) (fun r _ => ∃ t', r = .str (Str.ofString "q") t') := by
  have e1 : Str.ofString "q" = st ([113].map UInt8.toNat) := by decide +kernel
  rw [e1]
  exact c_plain (l := [113]) (by decide) b

theorem tup_at {prog : Program} {A : Around} {E : Value → Shared → Prop} {value slice : PySem.Expr} {h₀ : Heap} {L l : Addr} {news : List (Addr × Obj)} {items : List Value} {n : Nat} {k : Int} {u : Tok} {v : Value} {Q : Value → Shared → Prop}
    (N : News h₀ L s.heap news) (hm : (l, tupO items n) ∈ news) (h0 : 0 ≤ k) (h1 : k < items.length) (hz : items.length ≤ 1000) (hx : items[k.toNat]? = some v) (h : Q v s)
    (hs : subscripted slice false (.ref l) (.int k u) = operate [.ref l, .int k u] (getItem (.ref l) (.int k u)) := by with_unfolding_all rfl) :
    wpAny (model prog w) A (subscriptTail value slice (.ref l) (.int k u)) Q E s := by
  have hj : seqIndex? k items.length = some k.toNat := by
    have h3 : ¬ k < 0 := by omega
    simp [seqIndex?, h3, h0, h1]
  exact item_tupleT ⟨_, (N _ hm).1, rfl, n, rfl⟩ (by omega) (by omega) hj hx h hs


theorem tup229 {h : Heap} (X : (hd.heap_39 w.params).In h) : ∃ a b, IsTup h 229 #[.str (Str.ofString "Q") a, .str (Str.ofString "B") b] := by
  refine ⟨_, _, _, X 229 _ (by k_is), rfl, _, rfl⟩
theorem c_wordat {x : List UInt8} {i : Int} {t t2 : Tok} (h : EWat x i) (hi : i = 0 ∨ (0 < i ∧ i ≤ x.length ∧ ((x.getD (i - 1).toNat 0).toNat : Int) = 32)) (b : Bs w vw lo mean mg mb s.heap) :
    Cl w 6 s (call (.ref 267) [.bytes x.toArray t, .int i t2]) (isTup2 (.str (st [228])) (.int (i + 16 + 2)) s.heap) := by
  refine' enter (binds := [(Str.ofString "octets", .bytes x.toArray t), (Str.ofString "at", .int i t2)]) b ?k6 ?k7 ?k9 ?kB ?c5 ?c2 ?c3 ?c4 ?_
  ((case k6 => k_is); (case k7 => k_is); (case k9 => exact rfl); (case kB => exact locs rfl); (case c5 => decide); (case c2 => exact rfl); (case c3 => exact rfl); (case c4 => exact rfl))
  intro dp un fr gd h₁ tk hd hu F X T N
  have hx := h.z
  obtain ⟨ta, tb, t229⟩ := tup229 X
  have hlen : i + 16 + 2 = (x.length : Int) := by have := h.len; omega
  have z1 : [61, 67, 51, 61, 65, 52].length ≤ 1000000 := by decide
  have z2 : ∀ c ∈ ([61, 67, 51, 61, 65, 52] : List UInt8), c.toNat ≠ 95 := by decide
  have z3 : Unq [61, 67, 51, 61, 65, 52] 0 [195, 164] := by
    refine ⟨by decide, by decide, ⟨67, 51, 12, 3, by decide, by decide, by decide, .inr (by decide), .inl (by decide), by decide⟩, by decide, by decide, ⟨65, 52, 10, 4, by decide, by decide, by decide, .inr (by decide), .inl (by decide), by decide⟩, ?_⟩
    show (0 : Int) + 3 + 3 = _
    decide
  have z4 : ([195, 164] : List UInt8).length ≤ 1000000 := by decide
  have z5 : Dec [195, 164] 0 [228] := ⟨2, .inr (.inl ⟨164, by decide, rfl, by decide, by decide, by decide, by decide, by decide⟩), by show (0 : Int) + 2 = _; decide⟩
  ((try dsimp only); (try k_fold); repeat' (first | (k_unfold; (try dsimp only)) | ((first | with_reducible ((with_reducible show wpAny _ _ (subscriptTail (PySem.Expr.Name _ _) (PySem.Expr.Constant _ _ _) (Value.ref _) (Value.int _ _)) _ _ _); k_dflt (refine tup_at (by k_asm) (by k_mem) (by decide) (by (simp only [List.length_cons, List.length_nil]; decide)) (by (simp only [List.length_cons, List.length_nil]; decide)) (by rfl) ?_)) | with_reducible ((with_reducible show wpAny _ _ (call (Value.ref 260) _) _ _ _); (first | refine' useV (fun b => c_plain_u b) ?kF ?kN ?kX ?kT ?kh ?kd ?ku ?_ | refine' useV (fun b => c_plain_q b) ?kF ?kN ?kX ?kT ?kh ?kd ?ku ?_); walk_at "ARGS"; intro t'z h'z tk'z F'z N'z) | with_reducible ((with_reducible show wpAny _ _ (call (Value.ref 248) _) _ _ _); refine' useT4 (fun b => c_wparts (by assumption) b) ?kF ?kN ?kX ?kT ?kh ?kd ?ku ?_; walk_at "ARGS"; intro D n'z t1 t2 t3 t4 h'z tk'z F'z N'z o1; (try (simp only [LCg.Off1, and_true] at o1))) | with_reducible ((with_reducible show wpAny _ _ (call (Value.ref 255) _) _ _ _); refine' useV0 (fun b => c_apart (by assumption) (by assumption) (by assumption) b) ?kF ?kN ?kX ?kT ?kh ?kd ?ku ?_; walk_at "ARGS"; intro h'z tk'z F'z N'z) | with_reducible ((with_reducible show wpAny _ _ (call (Value.ref 81) _) _ _ _); refine' useV (fun b => c_cname b) ?kF ?kN ?kX ?kT ?kh ?kd ?ku ?_; walk_at "ARGS"; intro t'z h'z tk'z F'z N'z) | with_reducible ((with_reducible show wpAny _ _ (call (Value.ref 66) [Value.str (Str.ofString "utf-8") _]) _ _ _); refine' useV (fun b => c_lower_u b) ?kF ?kN ?kX ?kT ?kh ?kd ?ku ?_; walk_at "ARGS"; intro t'z h'z tk'z F'z N'z) | with_reducible ((with_reducible show wpAny _ _ (call (Value.ref 74) _) _ _ _); refine' useNames (fun b => c_names b) ?kF ?kN ?kX ?kT ?kh ?kd ?ku ?_; walk_at "ARGS"; intro D o'z kvs'z t'z h'z tk'z F'z N'z hd'z lo'z hv'z o1; (try (simp only [LCg.Off1, and_true] at o1))) | with_reducible ((with_reducible show wpAny _ _ (newTuple _) _ _ _); (k_dflt (refine' kup_newTuple ?Fh9 ?Nh9 ?_ ?zh9; (case Fh9 => k_asm); (case Nh9 => k_asm); (case zh9 => kmk_size)); intro D'z h'z F'z N'z l1zz; (try k_lt l1zz); (try k_sweep))) | with_reducible ((with_reducible show wpAny _ _ (subscriptTail _ _ (Value.ref _) (Value.int _ _)) _ _ _); k_dflt (first | refine lit_item (by k_asm) (by k_mem) (by decide) (by decide) (by rfl) ?_ | refine lit_back (by k_asm) (by k_mem) (by simp only [Array.size_push]; omega) (by rfl) ?_)) | with_reducible ((with_reducible show wpAny _ _ (subscriptTail (PySem.Expr.Name _ _) (PySem.Expr.Constant _ _ _) (Value.ref _) (Value.int _ _)) _ _ _); k_dflt (first | refine lit_item (by k_asm) (by k_mem) (by decide) (by decide) (by rfl) ?_ | refine lit_back (by k_asm) (by k_mem) (by simp only [Array.size_push]; omega) (by rfl) ?_)) | with_reducible ((with_reducible show wpAny _ _ (call (Value.ref 243) _) _ _ _); refine' useV (fun b => c_part (by assumption) (by first | assumption | omega) (by assumption) b) ?kF ?kN ?kX ?kT ?kh ?kd ?ku ?_; walk_at "ARGS"; intro t'z h'z tk'z F'z N'z) | ((with_reducible show wpAny _ _ (call (Value.ref 227) _) _ _ _); refine' useV (fun b => c_wq (by assumption) (by assumption) (by assumption) b) ?kF ?kN ?kX ?kT ?kh ?kd ?ku ?_; walk_at "ARGS"; intro t'z h'z tk'z F'z N'z) | ((with_reducible show wpAny _ _ (call (Value.ref 222) _) _ _ _); refine' useV (fun b => c_unquoted (by assumption) (by assumption) b) ?kF ?kN ?kX ?kT ?kh ?kd ?ku ?_; walk_at "ARGS"; intro t'z h'z tk'z F'z N'z) | ((with_reducible show wpAny _ _ (call (Value.ref 215) _) _ _ _); refine' useV (fun b => c_quoted (by assumption) (by assumption) (by assumption) b) ?kF ?kN ?kX ?kT ?kh ?kd ?ku ?_; walk_at "ARGS"; intro t'z h'z tk'z F'z N'z) | ((with_reducible show wpAny _ _ (call (Value.ref 208) _) _ _ _); refine' useV (fun b => c_hex (by assumption) b) ?kF ?kN ?kX ?kT ?kh ?kd ?ku ?_; walk_at "ARGS"; intro t'z h'z tk'z F'z N'z) | with_reducible ((with_reducible show wpAny _ _ (call (Value.ref 116) _) _ _ _); refine' useV (fun b => c_text_u (by assumption) (by assumption) b) ?kF ?kN ?kX ?kT ?kh ?kd ?ku ?_; walk_at "ARGS"; intro t'z h'z tk'z F'z N'z) | with_reducible ((with_reducible show wpAny _ _ (call (Value.ref 109) _) _ _ _); refine' useT2 (fun b => c_sign_l (by assumption) (by assumption) (by assumption) (by assumption) b) ?kF ?kN ?kX ?kT ?kh ?kd ?ku ?_; walk_at "ARGS"; intro D n'z t1 t2 h'z tk'z F'z N'z o1; (try (simp only [LCg.Off1, and_true] at o1))) | with_reducible ((with_reducible show wpAny _ _ (call (Value.ref 109) _) _ _ _); refine' useT2 (fun b => c_sign_u (by assumption) (by assumption) (by assumption) b) ?kF ?kN ?kX ?kT ?kh ?kd ?ku ?_; walk_at "ARGS"; intro D n'z t1 t2 h'z tk'z F'z N'z o1; (try (simp only [LCg.Off1, and_true] at o1))) | with_reducible ((with_reducible show wpAny _ _ (call (Value.ref 102) _) _ _ _); refine' useT2 (fun b => c_utf8 (by assumption) (by assumption) (by assumption) b) ?kF ?kN ?kX ?kT ?kh ?kd ?ku ?_; walk_at "ARGS"; intro D n'z t1 t2 h'z tk'z F'z N'z o1; (try (simp only [LCg.Off1, and_true] at o1))) | with_reducible ((with_reducible show wpAny _ _ (eval (PySem.Expr.Name _ _) _) _ _ _); (k_dflt (first | (refine' nameX_L ?Fh9 ?vh9 ?_ ?ah9 ?bh9; (case Fh9 => k_asm); (case ah9 => rfl); (case bh9 => rfl); (case vh9 => rfl); k_whole) | (refine' nameX_K ?Fh9 ?Xh9 ?Th9 ?eh9 ?_ ?ah9 ?bh9; (case Fh9 => k_asm); (case Xh9 => k_asm); (case Th9 => k_asm); (case ah9 => rfl); (case bh9 => rfl); (case eh9 => k_is); k_whole) | (refine' nameX_B ?Fh9 ?Xh9 ?Th9 ?eh9 ?vh9 ?nh9 ?_ ?ah9 ?bh9; (case Fh9 => k_asm); (case Xh9 => k_asm); (case Th9 => k_asm); (case ah9 => rfl); (case bh9 => rfl); (case eh9 => k_is); (case vh9 => boot_fast); (case nh9 => decide); k_whole)))) | with_reducible ((with_reducible show wpAny _ _ (spliced _) _ _ _); (k_dflt (first | refine args_cons ?_ | (refine args_nil ?_; (try simp only [List.cons_append, List.nil_append]))))) | with_reducible (k_closed; first | with_reducible refine PySem.W.ite_pos (by with_unfolding_all decide) ?_ | with_reducible refine PySem.W.ite_neg (by with_unfolding_all decide) ?_) | walk1); (try dsimp only); (try ((with_reducible show wpAny _ _ _ _ _ ⟨_, _, _, _ + _, _⟩); refine anyToks ?_; intro _)); (repeat ((first | with_reducible rename (_ < _ ∧ _) => hhzz | with_reducible rename (_ ≠ _ ∧ _) => hhzz | with_reducible rename ((_ ≠ _ ∧ _) ∧ _) => hhzz); have := hhzz.1; have := hhzz.2; clear hhzz))) | (dsimp only; walk1) | (leave1; (try dsimp only)) | fail "no step"))
  exact Done.tup2 (by k_asm) (by k_asm)
end

section
variable {w : World} {vw : Program} {lo : List Str} {mean : ExcName → Option Value} {mg mb : Str → Option Value} {s : Shared}

structure PcI (s : Shared) (L : Addr) (x : List UInt8) (vs : Array Value) (extra : List (Addr × Obj)) (beg i : Int) (s' : Shared) : Prop where
  ex : ∃ (h : Heap) (tk : Nat) (m₀ : Str → Option Value) (D : Addr) (n : Nat) (t1 t2 t3 : Tok), s' = { s with heap := h, toks := tk } ∧
    Fr s.heap L h (fun y => if y = Str.ofString "octets" then some (.bytes x.toArray t1) else if y = Str.ofString "pieces" then some (.ref D) else if y = Str.ofString "begun" then some (.int beg t2) else if y = Str.ofString "at" then some (.int i t3) else m₀ y) ∧
    News s.heap L h ((D, PySem.W.listOf vs n) :: extra)

noncomputable def isP1 (x : List UInt8) (H : Heap) (r : Value) (h : Heap) : Prop := ∃ D T n n1 t, r = .ref D ∧ H.get? D = none ∧ H.get? T = none ∧ h.get? D = some (PySem.W.listOf #[.ref T] n) ∧ h.get? T = some (tupO [.bool false, .bytes x.toArray t] n1)
noncomputable def isP3 (x y : List UInt8) (H : Heap) (r : Value) (h : Heap) : Prop := ∃ D T1 T2 T3 n n1 n2 n3 t1 t2 t3, r = .ref D ∧ H.get? D = none ∧ H.get? T1 = none ∧ H.get? T2 = none ∧ H.get? T3 = none ∧ h.get? D = some (PySem.W.listOf #[.ref T1, .ref T2, .ref T3] n) ∧
  h.get? T1 = some (tupO [.bool false, .bytes x.toArray t1] n1) ∧ h.get? T2 = some (tupO [.bool true, .str (st [228]) t2] n2) ∧ h.get? T3 = some (tupO [.bool false, .bytes y.toArray t3] n3)

theorem news3 {h₀ h : Heap} {L : Addr} {l : List (Addr × Obj)} {p q r : Addr × Obj} (N : News h₀ L h l) (hp : p ∈ l) (hq : q ∈ l) (hr : r ∈ l) : News h₀ L h [p, q, r] := by
  intro z hz
  rcases List.mem_cons.mp hz with rfl | hz
  · exact N _ hp
  · rcases List.mem_cons.mp hz with rfl | hz
    · exact N _ hq
    · rw [List.mem_singleton.mp hz]; exact N _ hr
theorem cutB_all (x : List UInt8) : cutB x (some 0) none = x := by
  have := cutB_from (x := x) (i := 0) (Nat.zero_le _)
  simpa using this
theorem u8getD_mem (a : List UInt8) (j : Nat) (h : j < a.length) : a.getD j 0 ∈ a := by
  simp only [List.getD_eq_getElem?_getD]
  rw [List.getElem?_eq_getElem h]
  exact List.getElem_mem h
theorem getD_no61 {x : List UInt8} (h : 61 ∉ x) {i : Nat} (hi : i < x.length) : (((x.getD i 0).toNat : Nat) : Int) ≠ 61 := by
  intro e
  have : x.getD i 0 = 61 := UInt8.toNat_inj.mp (by show _ = 61; omega)
  exact h (this ▸ u8getD_mem x i hi)

theorem c_pieces1 {x : List UInt8} {t : Tok} (hx : x.length ≤ 1000000) (h61 : 61 ∉ x) (b : Bs w vw lo mean mg mb s.heap) :
    Cl w 7 s (call (.ref 274) [.bytes x.toArray t]) (isP1 x s.heap) := by
  refine' enter (binds := [(Str.ofString "octets", .bytes x.toArray t)]) b ?k6 ?k7 ?k9 ?kB ?c5 ?c2 ?c3 ?c4 ?_
  ((case k6 => k_is); (case k7 => k_is); (case k9 => exact rfl); (case kB => exact locs rfl); (case c5 => decide); (case c2 => exact rfl); (case c3 => exact rfl); (case c4 => exact rfl))
  intro dp un fr gd h₁ tk hd hu F X T N
  have mk2 := Mk.on 2
  ((try dsimp only); (try k_fold); repeat' (first | (k_unfold; (try dsimp only)) | ((first | with_reducible ((with_reducible show wpAny _ _ (call (Value.ref 267) _) _ _ _); refine' useT2 (fun b => c_wordat (by assumption) (by assumption) b) ?kF ?kN ?kX ?kT ?kh ?kd ?ku ?_; walk_at "ARGS"; intro D n'z t1 t2 h'z tk'z F'z N'z o1; (try (simp only [LCg.Off1, and_true] at o1))) | with_reducible ((with_reducible show wpAny _ _ (subscriptTail (PySem.Expr.Name _ _) (PySem.Expr.Constant _ _ _) (Value.ref _) (Value.int _ _)) _ _ _); k_dflt (refine tup_at (by k_asm) (by k_mem) (by decide) (by (simp only [List.length_cons, List.length_nil]; decide)) (by (simp only [List.length_cons, List.length_nil]; decide)) (by rfl) ?_)) | with_reducible ((with_reducible show wpAny _ _ (call (Value.ref 260) _) _ _ _); (first | refine' useV (fun b => c_plain_u b) ?kF ?kN ?kX ?kT ?kh ?kd ?ku ?_ | refine' useV (fun b => c_plain_q b) ?kF ?kN ?kX ?kT ?kh ?kd ?ku ?_); walk_at "ARGS"; intro t'z h'z tk'z F'z N'z) | with_reducible ((with_reducible show wpAny _ _ (newTuple _) _ _ _); (k_dflt (refine' kup_newTuple ?Fh9 ?Nh9 ?_ ?zh9; (case Fh9 => k_asm); (case Nh9 => k_asm); (case zh9 => kmk_size)); intro D'z h'z F'z N'z l1zz; (try k_lt l1zz); (try k_sweep))) | with_reducible ((with_reducible show wpAny _ _ (subscriptTail _ (Expr.Slice _ _ none _) (Value.bytes (List.toArray _) _) (Value.ref _)) _ _ _); (with_reducible rename Fr _ _ _ _ => F'z); (with_reducible rename News _ _ _ _ => N'z); (refine bcut (s := ⟨_, _, _, _, _⟩) F'z N'z (by constructor) (by constructor) (by first | assumption | omega) (by first | assumption | exact rfl) ?_); intro _ _ _ _ _) | with_reducible ((with_reducible show wpAny _ _ (eval (PySem.Expr.Name _ _) _) _ _ _); (k_dflt (first | (refine' nameX_L ?Fh9 ?vh9 ?_ ?ah9 ?bh9; (case Fh9 => k_asm); (case ah9 => rfl); (case bh9 => rfl); (case vh9 => rfl); k_whole) | (refine' nameX_K ?Fh9 ?Xh9 ?Th9 ?eh9 ?_ ?ah9 ?bh9; (case Fh9 => k_asm); (case Xh9 => k_asm); (case Th9 => k_asm); (case ah9 => rfl); (case bh9 => rfl); (case eh9 => k_is); k_whole) | (refine' nameX_B ?Fh9 ?Xh9 ?Th9 ?eh9 ?vh9 ?nh9 ?_ ?ah9 ?bh9; (case Fh9 => k_asm); (case Xh9 => k_asm); (case Th9 => k_asm); (case ah9 => rfl); (case bh9 => rfl); (case eh9 => k_is); (case vh9 => boot_fast); (case nh9 => decide); k_whole)))) | with_reducible ((with_reducible show wpAny _ _ (spliced _) _ _ _); (k_dflt (first | refine args_cons ?_ | (refine args_nil ?_; (try simp only [List.cons_append, List.nil_append]))))) | with_reducible ((with_reducible show wpAny _ _ (subscriptTail _ _ (Value.bytes (List.toArray _) _) (Value.int _ _)) _ _ _); (refine item_at (by omega) (by omega) (by omega) (by assumption) ?_)) | with_reducible ((with_reducible show wpAny _ _ (exec (PySem.Stmt.While (PySem.Expr.Compare _ _ _ _) _ _ _) _) _ _ _); ((rename Mk 2 => mk'z); refine Stop.mk ?_)) | with_reducible (k_closed; first | with_reducible refine PySem.W.ite_pos (by with_unfolding_all decide) ?_ | with_reducible refine PySem.W.ite_neg (by with_unfolding_all decide) ?_) | walk1); (try dsimp only); (try ((with_reducible show wpAny _ _ _ _ _ ⟨_, _, _, _ + _, _⟩); refine anyToks ?_; intro _)); (repeat ((first | with_reducible rename (_ < _ ∧ _) => hhzz | with_reducible rename (_ ≠ _ ∧ _) => hhzz | with_reducible rename ((_ ≠ _ ∧ _) ∧ _) => hhzz); have := hhzz.1; have := hhzz.2; clear hhzz))) | (dsimp only; walk1) | (leave1; (try dsimp only)) | fail "no step"))
  rename Mk 2 => mk2; clear mk2
  refine Stop.out ?_
  rename Fr _ _ _ _ => F1
  rename News _ _ _ _ => N1
  refine while_J (fun (i : Nat) s' => i ≤ x.length ∧ PcI s s.heap.objs.size x #[] [] 0 i s') (fun i => x.length - i) 0 ?_ ?_
  · exact ⟨Nat.zero_le _, ⟨_, _, _, _, _, _, _, _, rfl, frSet (frSet (frSet (frSet F1 rfl) rfl) rfl) rfl, N1⟩⟩
  · rintro i s' ⟨hi, ⟨h, tk, m₀, D, n, t1, t2, t3, rfl, F, N⟩⟩
    clear F1 N1
    have hxs : x.toArray.size = x.length := by simp
    have hc0 := cutB_all x
    by_cases hlt : i < x.length
    · obtain ⟨v, hv⟩ : ∃ v, ((x.getD (i : Int).toNat 0).toNat : Int) = v := ⟨_, rfl⟩
      have hv61 : v ≠ 61 := by rw [← hv]; exact getD_no61 h61 hlt
      ((try dsimp only); (try k_fold); repeat' (first | (k_unfold; (try dsimp only)) | ((first | with_reducible ((with_reducible show wpAny _ _ (call (Value.ref 267) _) _ _ _); refine' useT2 (fun b => c_wordat (by assumption) (by assumption) b) ?kF ?kN ?kX ?kT ?kh ?kd ?ku ?_; walk_at "ARGS"; intro D n'z t1 t2 h'z tk'z F'z N'z o1; (try (simp only [LCg.Off1, and_true] at o1))) | with_reducible ((with_reducible show wpAny _ _ (subscriptTail (PySem.Expr.Name _ _) (PySem.Expr.Constant _ _ _) (Value.ref _) (Value.int _ _)) _ _ _); k_dflt (refine tup_at (by k_asm) (by k_mem) (by decide) (by (simp only [List.length_cons, List.length_nil]; decide)) (by (simp only [List.length_cons, List.length_nil]; decide)) (by rfl) ?_)) | with_reducible ((with_reducible show wpAny _ _ (call (Value.ref 260) _) _ _ _); (first | refine' useV (fun b => c_plain_u b) ?kF ?kN ?kX ?kT ?kh ?kd ?ku ?_ | refine' useV (fun b => c_plain_q b) ?kF ?kN ?kX ?kT ?kh ?kd ?ku ?_); walk_at "ARGS"; intro t'z h'z tk'z F'z N'z) | with_reducible ((with_reducible show wpAny _ _ (newTuple _) _ _ _); (k_dflt (refine' kup_newTuple ?Fh9 ?Nh9 ?_ ?zh9; (case Fh9 => k_asm); (case Nh9 => k_asm); (case zh9 => kmk_size)); intro D'z h'z F'z N'z l1zz; (try k_lt l1zz); (try k_sweep))) | with_reducible ((with_reducible show wpAny _ _ (subscriptTail _ (Expr.Slice _ _ none _) (Value.bytes (List.toArray _) _) (Value.ref _)) _ _ _); (with_reducible rename Fr _ _ _ _ => F'z); (with_reducible rename News _ _ _ _ => N'z); (refine bcut (s := ⟨_, _, _, _, _⟩) F'z N'z (by constructor) (by constructor) (by first | assumption | omega) (by first | assumption | exact rfl) ?_); intro _ _ _ _ _) | with_reducible ((with_reducible show wpAny _ _ (eval (PySem.Expr.Name _ _) _) _ _ _); (k_dflt (first | (refine' nameX_L ?Fh9 ?vh9 ?_ ?ah9 ?bh9; (case Fh9 => k_asm); (case ah9 => rfl); (case bh9 => rfl); (case vh9 => rfl); k_whole) | (refine' nameX_K ?Fh9 ?Xh9 ?Th9 ?eh9 ?_ ?ah9 ?bh9; (case Fh9 => k_asm); (case Xh9 => k_asm); (case Th9 => k_asm); (case ah9 => rfl); (case bh9 => rfl); (case eh9 => k_is); k_whole) | (refine' nameX_B ?Fh9 ?Xh9 ?Th9 ?eh9 ?vh9 ?nh9 ?_ ?ah9 ?bh9; (case Fh9 => k_asm); (case Xh9 => k_asm); (case Th9 => k_asm); (case ah9 => rfl); (case bh9 => rfl); (case eh9 => k_is); (case vh9 => boot_fast); (case nh9 => decide); k_whole)))) | with_reducible ((with_reducible show wpAny _ _ (spliced _) _ _ _); (k_dflt (first | refine args_cons ?_ | (refine args_nil ?_; (try simp only [List.cons_append, List.nil_append]))))) | with_reducible ((with_reducible show wpAny _ _ (subscriptTail _ _ (Value.bytes (List.toArray _) _) (Value.int _ _)) _ _ _); (refine item_at (by omega) (by omega) (by omega) (by assumption) ?_)) | with_reducible ((with_reducible show wpAny _ _ (exec (PySem.Stmt.While (PySem.Expr.Compare _ _ _ _) _ _ _) _) _ _ _); ((rename Mk 2 => mk'z); refine Stop.mk ?_)) | with_reducible (k_closed; first | with_reducible refine PySem.W.ite_pos (by with_unfolding_all decide) ?_ | with_reducible refine PySem.W.ite_neg (by with_unfolding_all decide) ?_) | walk1); (try dsimp only); (try ((with_reducible show wpAny _ _ _ _ _ ⟨_, _, _, _ + _, _⟩); refine anyToks ?_; intro _)); (repeat ((first | with_reducible rename (_ < _ ∧ _) => hhzz | with_reducible rename (_ ≠ _ ∧ _) => hhzz | with_reducible rename ((_ ≠ _ ∧ _) ∧ _) => hhzz); have := hhzz.1; have := hhzz.2; clear hhzz))) | (dsimp only; walk1) | (leave1; (try dsimp only)) | fail "no step"))
      all_goals try (exfalso; omega)
      rename Fr _ _ _ _ => F2
      rename News _ _ _ _ => N2
      exact ⟨i + 1, by show x.length - (i + 1) < x.length - i; omega, by omega, ⟨_, _, _, _, _, _, _, _, rfl, frSet (frSet (frSet (frSet F2 rfl) rfl) rfl) rfl, N2⟩⟩
    · ((try dsimp only); (try k_fold); repeat' (first | (k_unfold; (try dsimp only)) | ((first | with_reducible ((with_reducible show wpAny _ _ (call (Value.ref 267) _) _ _ _); refine' useT2 (fun b => c_wordat (by assumption) (by assumption) b) ?kF ?kN ?kX ?kT ?kh ?kd ?ku ?_; walk_at "ARGS"; intro D n'z t1 t2 h'z tk'z F'z N'z o1; (try (simp only [LCg.Off1, and_true] at o1))) | with_reducible ((with_reducible show wpAny _ _ (subscriptTail (PySem.Expr.Name _ _) (PySem.Expr.Constant _ _ _) (Value.ref _) (Value.int _ _)) _ _ _); k_dflt (refine tup_at (by k_asm) (by k_mem) (by decide) (by (simp only [List.length_cons, List.length_nil]; decide)) (by (simp only [List.length_cons, List.length_nil]; decide)) (by rfl) ?_)) | with_reducible ((with_reducible show wpAny _ _ (call (Value.ref 260) _) _ _ _); (first | refine' useV (fun b => c_plain_u b) ?kF ?kN ?kX ?kT ?kh ?kd ?ku ?_ | refine' useV (fun b => c_plain_q b) ?kF ?kN ?kX ?kT ?kh ?kd ?ku ?_); walk_at "ARGS"; intro t'z h'z tk'z F'z N'z) | with_reducible ((with_reducible show wpAny _ _ (newTuple _) _ _ _); (k_dflt (refine' kup_newTuple ?Fh9 ?Nh9 ?_ ?zh9; (case Fh9 => k_asm); (case Nh9 => k_asm); (case zh9 => kmk_size)); intro D'z h'z F'z N'z l1zz; (try k_lt l1zz); (try k_sweep))) | with_reducible ((with_reducible show wpAny _ _ (subscriptTail _ (Expr.Slice _ _ none _) (Value.bytes (List.toArray _) _) (Value.ref _)) _ _ _); (with_reducible rename Fr _ _ _ _ => F'z); (with_reducible rename News _ _ _ _ => N'z); (refine bcut (s := ⟨_, _, _, _, _⟩) F'z N'z (by constructor) (by constructor) (by first | assumption | omega) (by first | assumption | exact rfl) ?_); intro _ _ _ _ _) | with_reducible ((with_reducible show wpAny _ _ (eval (PySem.Expr.Name _ _) _) _ _ _); (k_dflt (first | (refine' nameX_L ?Fh9 ?vh9 ?_ ?ah9 ?bh9; (case Fh9 => k_asm); (case ah9 => rfl); (case bh9 => rfl); (case vh9 => rfl); k_whole) | (refine' nameX_K ?Fh9 ?Xh9 ?Th9 ?eh9 ?_ ?ah9 ?bh9; (case Fh9 => k_asm); (case Xh9 => k_asm); (case Th9 => k_asm); (case ah9 => rfl); (case bh9 => rfl); (case eh9 => k_is); k_whole) | (refine' nameX_B ?Fh9 ?Xh9 ?Th9 ?eh9 ?vh9 ?nh9 ?_ ?ah9 ?bh9; (case Fh9 => k_asm); (case Xh9 => k_asm); (case Th9 => k_asm); (case ah9 => rfl); (case bh9 => rfl); (case eh9 => k_is); (case vh9 => boot_fast); (case nh9 => decide); k_whole)))) | with_reducible ((with_reducible show wpAny _ _ (spliced _) _ _ _); (k_dflt (first | refine args_cons ?_ | (refine args_nil ?_; (try simp only [List.cons_append, List.nil_append]))))) | with_reducible ((with_reducible show wpAny _ _ (subscriptTail _ _ (Value.bytes (List.toArray _) _) (Value.int _ _)) _ _ _); (refine item_at (by omega) (by omega) (by omega) (by assumption) ?_)) | with_reducible ((with_reducible show wpAny _ _ (exec (PySem.Stmt.While (PySem.Expr.Compare _ _ _ _) _ _ _) _) _ _ _); ((rename Mk 2 => mk'z); refine Stop.mk ?_)) | with_reducible (k_closed; first | with_reducible refine PySem.W.ite_pos (by with_unfolding_all decide) ?_ | with_reducible refine PySem.W.ite_neg (by with_unfolding_all decide) ?_) | walk1); (try dsimp only); (try ((with_reducible show wpAny _ _ _ _ _ ⟨_, _, _, _ + _, _⟩); refine anyToks ?_; intro _)); (repeat ((first | with_reducible rename (_ < _ ∧ _) => hhzz | with_reducible rename (_ ≠ _ ∧ _) => hhzz | with_reducible rename ((_ ≠ _ ∧ _) ∧ _) => hhzz); have := hhzz.1; have := hhzz.2; clear hhzz))) | (dsimp only; walk1) | (leave1; (try dsimp only)) | fail "no step"))
      rename Fr _ _ _ _ => F2
      rename News _ _ _ _ => N2
      exact Done.ret F2 ⟨_, _, _, _, _, rfl, (N2 _ (.head _)).2.2, (N2 _ (.tail _ (.tail _ (.head _)))).2.2, (N2 _ (.head _)).1, (N2 _ (.tail _ (.tail _ (.head _)))).1⟩

theorem c_pieces3 {x P : List UInt8} {k : Nat} {t : Tok} (hE : EWat x (k : Int)) (hlow : ∀ j, j < k → (((x.getD j 0).toNat : Nat) : Int) ≠ 61) (hat : (((x.getD k 0).toNat : Nat) : Int) = 61) (hcut : cutB x (some 0) (some (k : Int)) = P)
    (hb : (k : Int) = 0 ∨ (0 < (k : Int) ∧ (k : Int) ≤ x.length ∧ ((x.getD ((k : Int) - 1).toNat 0).toNat : Int) = 32)) (b : Bs w vw lo mean mg mb s.heap) :
    Cl w 7 s (call (.ref 274) [.bytes x.toArray t]) (isP3 P [] s.heap) := by
  refine' enter (binds := [(Str.ofString "octets", .bytes x.toArray t)]) b ?k6 ?k7 ?k9 ?kB ?c5 ?c2 ?c3 ?c4 ?_
  ((case k6 => k_is); (case k7 => k_is); (case k9 => exact rfl); (case kB => exact locs rfl); (case c5 => decide); (case c2 => exact rfl); (case c3 => exact rfl); (case c4 => exact rfl))
  intro dp un fr gd h₁ tk hd hu F X T N
  have hx := hE.z
  have hlen := hE.len
  have mk2 := Mk.on 2
  ((try dsimp only); (try k_fold); repeat' (first | (k_unfold; (try dsimp only)) | ((first | with_reducible ((with_reducible show wpAny _ _ (call (Value.ref 267) _) _ _ _); refine' useT2 (fun b => c_wordat (by assumption) (by assumption) b) ?kF ?kN ?kX ?kT ?kh ?kd ?ku ?_; walk_at "ARGS"; intro D n'z t1 t2 h'z tk'z F'z N'z o1; (try (simp only [LCg.Off1, and_true] at o1))) | with_reducible ((with_reducible show wpAny _ _ (subscriptTail (PySem.Expr.Name _ _) (PySem.Expr.Constant _ _ _) (Value.ref _) (Value.int _ _)) _ _ _); k_dflt (refine tup_at (by k_asm) (by k_mem) (by decide) (by (simp only [List.length_cons, List.length_nil]; decide)) (by (simp only [List.length_cons, List.length_nil]; decide)) (by rfl) ?_)) | with_reducible ((with_reducible show wpAny _ _ (call (Value.ref 260) _) _ _ _); (first | refine' useV (fun b => c_plain_u b) ?kF ?kN ?kX ?kT ?kh ?kd ?ku ?_ | refine' useV (fun b => c_plain_q b) ?kF ?kN ?kX ?kT ?kh ?kd ?ku ?_); walk_at "ARGS"; intro t'z h'z tk'z F'z N'z) | with_reducible ((with_reducible show wpAny _ _ (newTuple _) _ _ _); (k_dflt (refine' kup_newTuple ?Fh9 ?Nh9 ?_ ?zh9; (case Fh9 => k_asm); (case Nh9 => k_asm); (case zh9 => kmk_size)); intro D'z h'z F'z N'z l1zz; (try k_lt l1zz); (try k_sweep))) | with_reducible ((with_reducible show wpAny _ _ (subscriptTail _ (Expr.Slice _ _ none _) (Value.bytes (List.toArray _) _) (Value.ref _)) _ _ _); (with_reducible rename Fr _ _ _ _ => F'z); (with_reducible rename News _ _ _ _ => N'z); (refine bcut (s := ⟨_, _, _, _, _⟩) F'z N'z (by constructor) (by constructor) (by first | assumption | omega) (by first | assumption | exact rfl) ?_); intro _ _ _ _ _) | with_reducible ((with_reducible show wpAny _ _ (eval (PySem.Expr.Name _ _) _) _ _ _); (k_dflt (first | (refine' nameX_L ?Fh9 ?vh9 ?_ ?ah9 ?bh9; (case Fh9 => k_asm); (case ah9 => rfl); (case bh9 => rfl); (case vh9 => rfl); k_whole) | (refine' nameX_K ?Fh9 ?Xh9 ?Th9 ?eh9 ?_ ?ah9 ?bh9; (case Fh9 => k_asm); (case Xh9 => k_asm); (case Th9 => k_asm); (case ah9 => rfl); (case bh9 => rfl); (case eh9 => k_is); k_whole) | (refine' nameX_B ?Fh9 ?Xh9 ?Th9 ?eh9 ?vh9 ?nh9 ?_ ?ah9 ?bh9; (case Fh9 => k_asm); (case Xh9 => k_asm); (case Th9 => k_asm); (case ah9 => rfl); (case bh9 => rfl); (case eh9 => k_is); (case vh9 => boot_fast); (case nh9 => decide); k_whole)))) | with_reducible ((with_reducible show wpAny _ _ (spliced _) _ _ _); (k_dflt (first | refine args_cons ?_ | (refine args_nil ?_; (try simp only [List.cons_append, List.nil_append]))))) | with_reducible ((with_reducible show wpAny _ _ (subscriptTail _ _ (Value.bytes (List.toArray _) _) (Value.int _ _)) _ _ _); (refine item_at (by omega) (by omega) (by omega) (by assumption) ?_)) | with_reducible ((with_reducible show wpAny _ _ (exec (PySem.Stmt.While (PySem.Expr.Compare _ _ _ _) _ _ _) _) _ _ _); ((rename Mk 2 => mk'z); refine Stop.mk ?_)) | with_reducible (k_closed; first | with_reducible refine PySem.W.ite_pos (by with_unfolding_all decide) ?_ | with_reducible refine PySem.W.ite_neg (by with_unfolding_all decide) ?_) | walk1); (try dsimp only); (try ((with_reducible show wpAny _ _ _ _ _ ⟨_, _, _, _ + _, _⟩); refine anyToks ?_; intro _)); (repeat ((first | with_reducible rename (_ < _ ∧ _) => hhzz | with_reducible rename (_ ≠ _ ∧ _) => hhzz | with_reducible rename ((_ ≠ _ ∧ _) ∧ _) => hhzz); have := hhzz.1; have := hhzz.2; clear hhzz))) | (dsimp only; walk1) | (leave1; (try dsimp only)) | fail "no step"))
  rename Mk 2 => mk2; clear mk2
  refine Stop.out ?_
  rename Fr _ _ _ _ => F1
  rename News _ _ _ _ => N1
  have hc0 : cutB x (some ((k : Int) + 16 + 2)) none = [] := by
    rw [show (k : Int) + 16 + 2 = ((x.length : Nat) : Int) from by omega, cutB_from (Nat.le_refl _), List.drop_length]
  refine while_J (fun (c : Option Nat) s' => match c with
    | some i => i ≤ k ∧ PcI s s.heap.objs.size x #[] [] 0 i s'
    | none => ∃ T1 T2 n1 n2 t1 t2, PcI s s.heap.objs.size x #[.ref T1, .ref T2] [(T2, tupO [.bool true, .str (st [228]) t2] n2), (T1, tupO [.bool false, .bytes P.toArray t1] n1)] ((k : Int) + 16 + 2) ((k : Int) + 16 + 2) s') (fun c => match c with | some i => k - i + 1 | none => 0) (some 0) ?_ ?_
  · exact ⟨Nat.zero_le _, ⟨_, _, _, _, _, _, _, _, rfl, frSet (frSet (frSet (frSet F1 rfl) rfl) rfl) rfl, N1⟩⟩
  · intro c s' hI
    clear F1 N1
    have hxs : x.toArray.size = x.length := by simp
    cases c with
    | some i =>
      obtain ⟨hi, ⟨h, tk, m₀, D, n, t1, t2, t3, rfl, F, N⟩⟩ := hI
      by_cases hlt : i < k
      · obtain ⟨v, hv⟩ : ∃ v, ((x.getD (i : Int).toNat 0).toNat : Int) = v := ⟨_, rfl⟩
        have hv61 : v ≠ 61 := by rw [← hv]; exact hlow i hlt
        clear hE
        ((try dsimp only); (try k_fold); repeat' (first | (k_unfold; (try dsimp only)) | ((first | with_reducible ((with_reducible show wpAny _ _ (call (Value.ref 267) _) _ _ _); refine' useT2 (fun b => c_wordat (by assumption) (by assumption) b) ?kF ?kN ?kX ?kT ?kh ?kd ?ku ?_; walk_at "ARGS"; intro D n'z t1 t2 h'z tk'z F'z N'z o1; (try (simp only [LCg.Off1, and_true] at o1))) | with_reducible ((with_reducible show wpAny _ _ (subscriptTail (PySem.Expr.Name _ _) (PySem.Expr.Constant _ _ _) (Value.ref _) (Value.int _ _)) _ _ _); k_dflt (refine tup_at (by k_asm) (by k_mem) (by decide) (by (simp only [List.length_cons, List.length_nil]; decide)) (by (simp only [List.length_cons, List.length_nil]; decide)) (by rfl) ?_)) | with_reducible ((with_reducible show wpAny _ _ (call (Value.ref 260) _) _ _ _); (first | refine' useV (fun b => c_plain_u b) ?kF ?kN ?kX ?kT ?kh ?kd ?ku ?_ | refine' useV (fun b => c_plain_q b) ?kF ?kN ?kX ?kT ?kh ?kd ?ku ?_); walk_at "ARGS"; intro t'z h'z tk'z F'z N'z) | with_reducible ((with_reducible show wpAny _ _ (newTuple _) _ _ _); (k_dflt (refine' kup_newTuple ?Fh9 ?Nh9 ?_ ?zh9; (case Fh9 => k_asm); (case Nh9 => k_asm); (case zh9 => kmk_size)); intro D'z h'z F'z N'z l1zz; (try k_lt l1zz); (try k_sweep))) | with_reducible ((with_reducible show wpAny _ _ (subscriptTail _ (Expr.Slice _ _ none _) (Value.bytes (List.toArray _) _) (Value.ref _)) _ _ _); (with_reducible rename Fr _ _ _ _ => F'z); (with_reducible rename News _ _ _ _ => N'z); (refine bcut (s := ⟨_, _, _, _, _⟩) F'z N'z (by constructor) (by constructor) (by first | assumption | omega) (by first | assumption | exact rfl) ?_); intro _ _ _ _ _) | with_reducible ((with_reducible show wpAny _ _ (eval (PySem.Expr.Name _ _) _) _ _ _); (k_dflt (first | (refine' nameX_L ?Fh9 ?vh9 ?_ ?ah9 ?bh9; (case Fh9 => k_asm); (case ah9 => rfl); (case bh9 => rfl); (case vh9 => rfl); k_whole) | (refine' nameX_K ?Fh9 ?Xh9 ?Th9 ?eh9 ?_ ?ah9 ?bh9; (case Fh9 => k_asm); (case Xh9 => k_asm); (case Th9 => k_asm); (case ah9 => rfl); (case bh9 => rfl); (case eh9 => k_is); k_whole) | (refine' nameX_B ?Fh9 ?Xh9 ?Th9 ?eh9 ?vh9 ?nh9 ?_ ?ah9 ?bh9; (case Fh9 => k_asm); (case Xh9 => k_asm); (case Th9 => k_asm); (case ah9 => rfl); (case bh9 => rfl); (case eh9 => k_is); (case vh9 => boot_fast); (case nh9 => decide); k_whole)))) | with_reducible ((with_reducible show wpAny _ _ (spliced _) _ _ _); (k_dflt (first | refine args_cons ?_ | (refine args_nil ?_; (try simp only [List.cons_append, List.nil_append]))))) | with_reducible ((with_reducible show wpAny _ _ (subscriptTail _ _ (Value.bytes (List.toArray _) _) (Value.int _ _)) _ _ _); (refine item_at (by omega) (by omega) (by omega) (by assumption) ?_)) | with_reducible ((with_reducible show wpAny _ _ (exec (PySem.Stmt.While (PySem.Expr.Compare _ _ _ _) _ _ _) _) _ _ _); ((rename Mk 2 => mk'z); refine Stop.mk ?_)) | with_reducible (k_closed; first | with_reducible refine PySem.W.ite_pos (by with_unfolding_all decide) ?_ | with_reducible refine PySem.W.ite_neg (by with_unfolding_all decide) ?_) | walk1); (try dsimp only); (try ((with_reducible show wpAny _ _ _ _ _ ⟨_, _, _, _ + _, _⟩); refine anyToks ?_; intro _)); (repeat ((first | with_reducible rename (_ < _ ∧ _) => hhzz | with_reducible rename (_ ≠ _ ∧ _) => hhzz | with_reducible rename ((_ ≠ _ ∧ _) ∧ _) => hhzz); have := hhzz.1; have := hhzz.2; clear hhzz))) | (dsimp only; walk1) | (leave1; (try dsimp only)) | fail "no step"))
        all_goals try (exfalso; omega)
        rename Fr _ _ _ _ => F2
        rename News _ _ _ _ => N2
        exact ⟨some (i + 1), by show k - (i + 1) + 1 < k - i + 1; omega, by show i + 1 ≤ k; omega, ⟨_, _, _, _, _, _, _, _, rfl, frSet (frSet (frSet (frSet F2 rfl) rfl) rfl) rfl, N2⟩⟩
      · have hik : i = k := by omega
        subst hik
        have hv : ((x.getD (i : Int).toNat 0).toNat : Int) = 61 := hat
        ((try dsimp only); (try k_fold); repeat' (first | (k_unfold; (try dsimp only)) | ((first | with_reducible ((with_reducible show wpAny _ _ (call (Value.ref 267) _) _ _ _); refine' useT2 (fun b => c_wordat (by assumption) (by assumption) b) ?kF ?kN ?kX ?kT ?kh ?kd ?ku ?_; walk_at "ARGS"; intro D n'z t1 t2 h'z tk'z F'z N'z o1; (try (simp only [LCg.Off1, and_true] at o1))) | with_reducible ((with_reducible show wpAny _ _ (subscriptTail (PySem.Expr.Name _ _) (PySem.Expr.Constant _ _ _) (Value.ref _) (Value.int _ _)) _ _ _); k_dflt (refine tup_at (by k_asm) (by k_mem) (by decide) (by (simp only [List.length_cons, List.length_nil]; decide)) (by (simp only [List.length_cons, List.length_nil]; decide)) (by rfl) ?_)) | with_reducible ((with_reducible show wpAny _ _ (call (Value.ref 260) _) _ _ _); (first | refine' useV (fun b => c_plain_u b) ?kF ?kN ?kX ?kT ?kh ?kd ?ku ?_ | refine' useV (fun b => c_plain_q b) ?kF ?kN ?kX ?kT ?kh ?kd ?ku ?_); walk_at "ARGS"; intro t'z h'z tk'z F'z N'z) | with_reducible ((with_reducible show wpAny _ _ (newTuple _) _ _ _); (k_dflt (refine' kup_newTuple ?Fh9 ?Nh9 ?_ ?zh9; (case Fh9 => k_asm); (case Nh9 => k_asm); (case zh9 => kmk_size)); intro D'z h'z F'z N'z l1zz; (try k_lt l1zz); (try k_sweep))) | with_reducible ((with_reducible show wpAny _ _ (subscriptTail _ (Expr.Slice _ _ none _) (Value.bytes (List.toArray _) _) (Value.ref _)) _ _ _); (with_reducible rename Fr _ _ _ _ => F'z); (with_reducible rename News _ _ _ _ => N'z); (refine bcut (s := ⟨_, _, _, _, _⟩) F'z N'z (by constructor) (by constructor) (by first | assumption | omega) (by first | assumption | exact rfl) ?_); intro _ _ _ _ _) | with_reducible ((with_reducible show wpAny _ _ (eval (PySem.Expr.Name _ _) _) _ _ _); (k_dflt (first | (refine' nameX_L ?Fh9 ?vh9 ?_ ?ah9 ?bh9; (case Fh9 => k_asm); (case ah9 => rfl); (case bh9 => rfl); (case vh9 => rfl); k_whole) | (refine' nameX_K ?Fh9 ?Xh9 ?Th9 ?eh9 ?_ ?ah9 ?bh9; (case Fh9 => k_asm); (case Xh9 => k_asm); (case Th9 => k_asm); (case ah9 => rfl); (case bh9 => rfl); (case eh9 => k_is); k_whole) | (refine' nameX_B ?Fh9 ?Xh9 ?Th9 ?eh9 ?vh9 ?nh9 ?_ ?ah9 ?bh9; (case Fh9 => k_asm); (case Xh9 => k_asm); (case Th9 => k_asm); (case ah9 => rfl); (case bh9 => rfl); (case eh9 => k_is); (case vh9 => boot_fast); (case nh9 => decide); k_whole)))) | with_reducible ((with_reducible show wpAny _ _ (spliced _) _ _ _); (k_dflt (first | refine args_cons ?_ | (refine args_nil ?_; (try simp only [List.cons_append, List.nil_append]))))) | with_reducible ((with_reducible show wpAny _ _ (subscriptTail _ _ (Value.bytes (List.toArray _) _) (Value.int _ _)) _ _ _); (refine item_at (by omega) (by omega) (by omega) (by assumption) ?_)) | with_reducible ((with_reducible show wpAny _ _ (exec (PySem.Stmt.While (PySem.Expr.Compare _ _ _ _) _ _ _) _) _ _ _); ((rename Mk 2 => mk'z); refine Stop.mk ?_)) | with_reducible (k_closed; first | with_reducible refine PySem.W.ite_pos (by with_unfolding_all decide) ?_ | with_reducible refine PySem.W.ite_neg (by with_unfolding_all decide) ?_) | walk1); (try dsimp only); (try ((with_reducible show wpAny _ _ _ _ _ ⟨_, _, _, _ + _, _⟩); refine anyToks ?_; intro _)); (repeat ((first | with_reducible rename (_ < _ ∧ _) => hhzz | with_reducible rename (_ ≠ _ ∧ _) => hhzz | with_reducible rename ((_ ≠ _ ∧ _) ∧ _) => hhzz); have := hhzz.1; have := hhzz.2; clear hhzz))) | (dsimp only; walk1) | (leave1; (try dsimp only)) | fail "no step"))
        rename Fr _ _ _ _ => F2
        rename News _ _ _ _ => N2
        exact ⟨none, by show 0 < i - i + 1; omega, _, _, _, _, _, _, ⟨_, _, _, _, _, _, _, _, rfl, frSet (frSet (frSet (frSet F2 rfl) rfl) rfl) rfl, news3 N2 (.tail _ (.tail _ (.tail _ (.head _)))) (.head _) (.tail _ (.head _))⟩⟩
    | none =>
      obtain ⟨T1, T2, n1, n2, ta, tb, ⟨h, tk, m₀, D, n, t1, t2, t3, rfl, F, N⟩⟩ := hI
      ((try dsimp only); (try k_fold); repeat' (first | (k_unfold; (try dsimp only)) | ((first | with_reducible ((with_reducible show wpAny _ _ (call (Value.ref 267) _) _ _ _); refine' useT2 (fun b => c_wordat (by assumption) (by assumption) b) ?kF ?kN ?kX ?kT ?kh ?kd ?ku ?_; walk_at "ARGS"; intro D n'z t1 t2 h'z tk'z F'z N'z o1; (try (simp only [LCg.Off1, and_true] at o1))) | with_reducible ((with_reducible show wpAny _ _ (subscriptTail (PySem.Expr.Name _ _) (PySem.Expr.Constant _ _ _) (Value.ref _) (Value.int _ _)) _ _ _); k_dflt (refine tup_at (by k_asm) (by k_mem) (by decide) (by (simp only [List.length_cons, List.length_nil]; decide)) (by (simp only [List.length_cons, List.length_nil]; decide)) (by rfl) ?_)) | with_reducible ((with_reducible show wpAny _ _ (call (Value.ref 260) _) _ _ _); (first | refine' useV (fun b => c_plain_u b) ?kF ?kN ?kX ?kT ?kh ?kd ?ku ?_ | refine' useV (fun b => c_plain_q b) ?kF ?kN ?kX ?kT ?kh ?kd ?ku ?_); walk_at "ARGS"; intro t'z h'z tk'z F'z N'z) | with_reducible ((with_reducible show wpAny _ _ (newTuple _) _ _ _); (k_dflt (refine' kup_newTuple ?Fh9 ?Nh9 ?_ ?zh9; (case Fh9 => k_asm); (case Nh9 => k_asm); (case zh9 => kmk_size)); intro D'z h'z F'z N'z l1zz; (try k_lt l1zz); (try k_sweep))) | with_reducible ((with_reducible show wpAny _ _ (subscriptTail _ (Expr.Slice _ _ none _) (Value.bytes (List.toArray _) _) (Value.ref _)) _ _ _); (with_reducible rename Fr _ _ _ _ => F'z); (with_reducible rename News _ _ _ _ => N'z); (refine bcut (s := ⟨_, _, _, _, _⟩) F'z N'z (by constructor) (by constructor) (by first | assumption | omega) (by first | assumption | exact rfl) ?_); intro _ _ _ _ _) | with_reducible ((with_reducible show wpAny _ _ (eval (PySem.Expr.Name _ _) _) _ _ _); (k_dflt (first | (refine' nameX_L ?Fh9 ?vh9 ?_ ?ah9 ?bh9; (case Fh9 => k_asm); (case ah9 => rfl); (case bh9 => rfl); (case vh9 => rfl); k_whole) | (refine' nameX_K ?Fh9 ?Xh9 ?Th9 ?eh9 ?_ ?ah9 ?bh9; (case Fh9 => k_asm); (case Xh9 => k_asm); (case Th9 => k_asm); (case ah9 => rfl); (case bh9 => rfl); (case eh9 => k_is); k_whole) | (refine' nameX_B ?Fh9 ?Xh9 ?Th9 ?eh9 ?vh9 ?nh9 ?_ ?ah9 ?bh9; (case Fh9 => k_asm); (case Xh9 => k_asm); (case Th9 => k_asm); (case ah9 => rfl); (case bh9 => rfl); (case eh9 => k_is); (case vh9 => boot_fast); (case nh9 => decide); k_whole)))) | with_reducible ((with_reducible show wpAny _ _ (spliced _) _ _ _); (k_dflt (first | refine args_cons ?_ | (refine args_nil ?_; (try simp only [List.cons_append, List.nil_append]))))) | with_reducible ((with_reducible show wpAny _ _ (subscriptTail _ _ (Value.bytes (List.toArray _) _) (Value.int _ _)) _ _ _); (refine item_at (by omega) (by omega) (by omega) (by assumption) ?_)) | with_reducible ((with_reducible show wpAny _ _ (exec (PySem.Stmt.While (PySem.Expr.Compare _ _ _ _) _ _ _) _) _ _ _); ((rename Mk 2 => mk'z); refine Stop.mk ?_)) | with_reducible (k_closed; first | with_reducible refine PySem.W.ite_pos (by with_unfolding_all decide) ?_ | with_reducible refine PySem.W.ite_neg (by with_unfolding_all decide) ?_) | walk1); (try dsimp only); (try ((with_reducible show wpAny _ _ _ _ _ ⟨_, _, _, _ + _, _⟩); refine anyToks ?_; intro _)); (repeat ((first | with_reducible rename (_ < _ ∧ _) => hhzz | with_reducible rename (_ ≠ _ ∧ _) => hhzz | with_reducible rename ((_ ≠ _ ∧ _) ∧ _) => hhzz); have := hhzz.1; have := hhzz.2; clear hhzz))) | (dsimp only; walk1) | (leave1; (try dsimp only)) | fail "no step"))
      rename Fr _ _ _ _ => F2
      rename News _ _ _ _ => N2
      exact Done.ret F2 ⟨_, _, _, _, _, _, _, _, _, _, _, rfl, (N2 _ (.head _)).2.2, (N2 _ (.tail _ (.tail _ (.tail _ (.tail _ (.tail _ (.head _))))))).2.2, (N2 _ (.tail _ (.tail _ (.tail _ (.tail _ (.head _)))))).2.2, (N2 _ (.tail _ (.tail _ (.head _)))).2.2, (N2 _ (.head _)).1, (N2 _ (.tail _ (.tail _ (.tail _ (.tail _ (.tail _ (.head _))))))).1, (N2 _ (.tail _ (.tail _ (.tail _ (.tail _ (.head _)))))).1, (N2 _ (.tail _ (.tail _ (.head _)))).1⟩
end

theorem ofStr0 : Str.ofString "" = st [] := by decide +kernel
theorem join1 (a : List Nat) : Txt.join (Str.ofString "") [st a] = st a := by rw [join_eq]; rfl
theorem join3 (a b c : List Nat) : Txt.join (Str.ofString "") [st a, st b, st c] = st (a ++ (b ++ c)) := by
  rw [join_eq, ofStr0]
  show st a ++ st [] ++ (st b ++ st [] ++ st c) = _
  rw [st_append, st_append, st_append, st_append, List.append_nil, List.append_nil]
theorem addAt {h₀ h h' : Heap} {L D : Addr} {m : Str → Option Value} {o : Obj} {l : List (Addr × Obj)} (F : Fr h₀ L h m) (N : News h₀ L h' l) (hD : h.get? D = none) (e : h'.get? D = some o) : News h₀ L h' ((D, o) :: l) := by
  intro p hp
  rcases List.mem_cons.mp hp with rfl | hp
  · refine ⟨e, ?_, ?_⟩
    · rintro rfl
      obtain ⟨oL, _, _, hL, _⟩ := F.ns
      rw [hL] at hD; cases hD
    · cases q : h₀.get? D with
      | none => rfl
      | some o' => have := F.keep _ _ q; rw [hD] at this; cases this
  · exact N p hp
section
variable {w : World} {vw : Program} {lo : List Str} {mean : ExcName → Option Value} {mg mb : Str → Option Value} {s : Shared}
theorem useP1 {n : Nat} {c : Sem Value} {A : Around} {Q E : Value → Shared → Prop} {h₀ : Heap} {L : Addr} {m : Str → Option Value} {news : List (Addr × Obj)} {x : List UInt8} (C : Bs w vw lo mean mg mb s.heap → Cl w n s c (isP1 x s.heap))
    (F : Fr h₀ L s.heap m) (N : News h₀ L s.heap news) (X : (hd.heap_39 w.params).In h₀) (T : Top vw lo mean mg mb h₀)
    (hh : A.handled = none) (hd : A.depth + n < recursionLimit) (hu : A.units + 8 * n < cLine)
    (h : ∀ D T n n1 t h' tk, Fr h₀ L h' m → News h₀ L h' ((D, PySem.W.listOf #[.ref T] n) :: (T, tupO [.bool false, .bytes x.toArray t] n1) :: news) → Q (.ref D) { s with heap := h', toks := tk }) : wpAny (model Pg w) A c Q E s :=
  useCl C F N X T hh hd hu fun v h' tk k F' N' p => by obtain ⟨D, T, n, n1, t, rfl, d1, d2, e1, e2⟩ := p; exact h D T n n1 t h' tk F' (addAt F (addAt F N' d2 e2) d1 e1)
theorem useP3 {n : Nat} {c : Sem Value} {A : Around} {Q E : Value → Shared → Prop} {h₀ : Heap} {L : Addr} {m : Str → Option Value} {news : List (Addr × Obj)} {x y : List UInt8} (C : Bs w vw lo mean mg mb s.heap → Cl w n s c (isP3 x y s.heap))
    (F : Fr h₀ L s.heap m) (N : News h₀ L s.heap news) (X : (hd.heap_39 w.params).In h₀) (T : Top vw lo mean mg mb h₀)
    (hh : A.handled = none) (hd : A.depth + n < recursionLimit) (hu : A.units + 8 * n < cLine)
    (h : ∀ D T1 T2 T3 n n1 n2 n3 t1 t2 t3 h' tk, Fr h₀ L h' m → News h₀ L h' ((D, PySem.W.listOf #[.ref T1, .ref T2, .ref T3] n) :: (T1, tupO [.bool false, .bytes x.toArray t1] n1) :: (T2, tupO [.bool true, .str (st [228]) t2] n2) :: (T3, tupO [.bool false, .bytes y.toArray t3] n3) :: news) → Q (.ref D) { s with heap := h', toks := tk }) : wpAny (model Pg w) A c Q E s :=
  useCl C F N X T hh hd hu fun v h' tk k F' N' p => by obtain ⟨D, T1, T2, T3, n, n1, n2, n3, t1, t2, t3, rfl, d1, d2, d3, d4, e1, e2, e3, e4⟩ := p; exact h D T1 T2 T3 n n1 n2 n3 t1 t2 t3 h' tk F' (addAt F (addAt F (addAt F (addAt F N' d4 e4) d3 e3) d2 e2) d1 e1)

theorem c_dwords1 {x : List UInt8} {l : List Nat} {t : Tok} (hx : x.length ≤ 1000000) (h61 : 61 ∉ x) (hdec : Dec x 0 l) (b : Bs w vw lo mean mg mb s.heap) :
    Cl w 8 s (call (.ref 286) [.bytes x.toArray t]) (fun r _ => ∃ t, r = .str (st l) t) := by
  refine' enter (binds := [(Str.ofString "octets", .bytes x.toArray t)]) b ?k6 ?k7 ?k9 ?kB ?c5 ?c2 ?c3 ?c4 ?_
  ((case k6 => k_is); (case k7 => k_is); (case k9 => exact rfl); (case kB => exact locs rfl); (case c5 => decide); (case c2 => exact rfl); (case c3 => exact rfl); (case c4 => exact rfl))
  intro dp un fr gd h₁ tk hd hu F X T N
  ((try dsimp only); (try k_fold); repeat' (first | (k_unfold; (try dsimp only)) | ((first | with_reducible ((with_reducible show wpAny _ _ (call (Value.ref 274) _) _ _ _); refine' useP3 (fun b => c_pieces3 (by assumption) (by assumption) (by assumption) (by assumption) (by assumption) b) ?kF ?kN ?kX ?kT ?kh ?kd ?ku ?_; walk_at "ARGS"; intro D T1 T2 T3 n'z n1 n2 n3 t1 t2 t3 h'z tk'z F'z N'z) | with_reducible ((with_reducible show wpAny _ _ (call (Value.ref 274) _) _ _ _); refine' useP1 (fun b => c_pieces1 (by assumption) (by assumption) b) ?kF ?kN ?kX ?kT ?kh ?kd ?ku ?_; walk_at "ARGS"; intro D T n'z n1 t'z h'z tk'z F'z N'z) | with_reducible ((with_reducible show wpAny _ _ (call (Value.ref 267) _) _ _ _); refine' useT2 (fun b => c_wordat (by assumption) (by assumption) b) ?kF ?kN ?kX ?kT ?kh ?kd ?ku ?_; walk_at "ARGS"; intro D n'z t1 t2 h'z tk'z F'z N'z o1; (try (simp only [LCg.Off1, and_true] at o1))) | with_reducible ((with_reducible show wpAny _ _ (call (Value.ref 260) _) _ _ _); (first | refine' useV (fun b => c_plain_u b) ?kF ?kN ?kX ?kT ?kh ?kd ?ku ?_ | refine' useV (fun b => c_plain_q b) ?kF ?kN ?kX ?kT ?kh ?kd ?ku ?_); walk_at "ARGS"; intro t'z h'z tk'z F'z N'z) | with_reducible ((with_reducible show wpAny _ _ (subscriptTail (PySem.Expr.Name _ _) (PySem.Expr.Name _ _) (Value.ref _) (Value.int _ _)) _ _ _); k_dflt (first | refine lit_item (by k_asm) (by k_mem) (by decide) (by decide) (by rfl) ?_ | refine lit_back (by k_asm) (by k_mem) (by simp only [Array.size_push]; omega) (by rfl) ?_)) | with_reducible ((with_reducible show wpAny _ _ (call (Value.ref 130) _) _ _ _); refine' useV (fun b => c_guess (by assumption) (by assumption) b) ?kF ?kN ?kX ?kT ?kh ?kd ?ku ?_; walk_at "ARGS"; intro t'z h'z tk'z F'z N'z) | with_reducible ((with_reducible show wpAny _ _ (call (Value.ref 66) _) _ _ _); refine' useV (fun b => c_lower_text (by assumption) (by assumption) b) ?kF ?kN ?kX ?kT ?kh ?kd ?ku ?_; walk_at "ARGS"; intro t'z h'z tk'z F'z N'z) | with_reducible ((with_reducible show wpAny _ _ (call (Value.ref 116) _) _ _ _); refine' useV (fun b => c_text_l (by assumption) (by assumption) b) ?kF ?kN ?kX ?kT ?kh ?kd ?ku ?_; walk_at "ARGS"; intro t'z h'z tk'z F'z N'z) | with_reducible ((with_reducible show wpAny _ _ (eval (PySem.Expr.Name _ _) _) _ _ _); (k_dflt (first | (refine' nameX_L ?Fh9 ?vh9 ?_ ?ah9 ?bh9; (case Fh9 => k_asm); (case ah9 => rfl); (case bh9 => rfl); (case vh9 => rfl); k_whole) | (refine' nameX_K ?Fh9 ?Xh9 ?Th9 ?eh9 ?_ ?ah9 ?bh9; (case Fh9 => k_asm); (case Xh9 => k_asm); (case Th9 => k_asm); (case ah9 => rfl); (case bh9 => rfl); (case eh9 => k_is); k_whole) | (refine' nameX_B ?Fh9 ?Xh9 ?Th9 ?eh9 ?vh9 ?nh9 ?_ ?ah9 ?bh9; (case Fh9 => k_asm); (case Xh9 => k_asm); (case Th9 => k_asm); (case ah9 => rfl); (case bh9 => rfl); (case eh9 => k_is); (case vh9 => boot_fast); (case nh9 => decide); k_whole)))) | with_reducible ((with_reducible show wpAny _ _ (spliced _) _ _ _); (k_dflt (first | refine args_cons ?_ | (refine args_nil ?_; (try simp only [List.cons_append, List.nil_append]))))) | with_reducible (k_closed; first | with_reducible refine PySem.W.ite_pos (by with_unfolding_all decide) ?_ | with_reducible refine PySem.W.ite_neg (by with_unfolding_all decide) ?_) | walk1); (try dsimp only); (try ((with_reducible show wpAny _ _ _ _ _ ⟨_, _, _, _ + _, _⟩); refine anyToks ?_; intro _)); (repeat ((first | with_reducible rename (_ < _ ∧ _) => hhzz | with_reducible rename (_ ≠ _ ∧ _) => hhzz | with_reducible rename ((_ ≠ _ ∧ _) ∧ _) => hhzz); have := hhzz.1; have := hhzz.2; clear hhzz))) | (dsimp only; walk1) | (leave1; (try dsimp only)) | fail "no step"))
  have hl := hdec.len
  refine join_list (ys := [st l]) (News.isList (by k_asm) (.head _)) (.cons _ _ .nil) ?_ ?_
  · simp only [List.map_cons, List.map_nil, List.sum_cons, List.sum_nil, List.length_cons, List.length_nil, st_len, ofStr0]; omega
  intro t' k'
  rw [join1]
  exact Done.ret (by k_asm) ⟨_, rfl⟩
theorem c_dwords3 {x P : List UInt8} {l : List Nat} {k : Nat} {t : Tok} (hE : EWat x (k : Int)) (hlow : ∀ j, j < k → (((x.getD j 0).toNat : Nat) : Int) ≠ 61) (hat : (((x.getD k 0).toNat : Nat) : Int) = 61) (hcut : cutB x (some 0) (some (k : Int)) = P)
    (hb : (k : Int) = 0 ∨ (0 < (k : Int) ∧ (k : Int) ≤ x.length ∧ ((x.getD ((k : Int) - 1).toNat 0).toNat : Int) = 32)) (hx : P.length ≤ 1000000) (hdec : Dec P 0 l) (b : Bs w vw lo mean mg mb s.heap) :
    Cl w 8 s (call (.ref 286) [.bytes x.toArray t]) (fun r _ => ∃ t, r = .str (st (l ++ [228])) t) := by
  refine' enter (binds := [(Str.ofString "octets", .bytes x.toArray t)]) b ?k6 ?k7 ?k9 ?kB ?c5 ?c2 ?c3 ?c4 ?_
  ((case k6 => k_is); (case k7 => k_is); (case k9 => exact rfl); (case kB => exact locs rfl); (case c5 => decide); (case c2 => exact rfl); (case c3 => exact rfl); (case c4 => exact rfl))
  intro dp un fr gd h₁ tk hd hu F X T N
  have hz : ([] : List UInt8).length ≤ 1000000 := by decide
  have hz2 : Dec [] 0 [] := rfl
  ((try dsimp only); (try k_fold); repeat' (first | (k_unfold; (try dsimp only)) | ((first | with_reducible ((with_reducible show wpAny _ _ (call (Value.ref 274) _) _ _ _); refine' useP3 (fun b => c_pieces3 (by assumption) (by assumption) (by assumption) (by assumption) (by assumption) b) ?kF ?kN ?kX ?kT ?kh ?kd ?ku ?_; walk_at "ARGS"; intro D T1 T2 T3 n'z n1 n2 n3 t1 t2 t3 h'z tk'z F'z N'z) | with_reducible ((with_reducible show wpAny _ _ (call (Value.ref 274) _) _ _ _); refine' useP1 (fun b => c_pieces1 (by assumption) (by assumption) b) ?kF ?kN ?kX ?kT ?kh ?kd ?ku ?_; walk_at "ARGS"; intro D T n'z n1 t'z h'z tk'z F'z N'z) | with_reducible ((with_reducible show wpAny _ _ (call (Value.ref 267) _) _ _ _); refine' useT2 (fun b => c_wordat (by assumption) (by assumption) b) ?kF ?kN ?kX ?kT ?kh ?kd ?ku ?_; walk_at "ARGS"; intro D n'z t1 t2 h'z tk'z F'z N'z o1; (try (simp only [LCg.Off1, and_true] at o1))) | with_reducible ((with_reducible show wpAny _ _ (call (Value.ref 260) _) _ _ _); (first | refine' useV (fun b => c_plain_u b) ?kF ?kN ?kX ?kT ?kh ?kd ?ku ?_ | refine' useV (fun b => c_plain_q b) ?kF ?kN ?kX ?kT ?kh ?kd ?ku ?_); walk_at "ARGS"; intro t'z h'z tk'z F'z N'z) | with_reducible ((with_reducible show wpAny _ _ (subscriptTail (PySem.Expr.Name _ _) (PySem.Expr.Name _ _) (Value.ref _) (Value.int _ _)) _ _ _); k_dflt (first | refine lit_item (by k_asm) (by k_mem) (by decide) (by decide) (by rfl) ?_ | refine lit_back (by k_asm) (by k_mem) (by simp only [Array.size_push]; omega) (by rfl) ?_)) | with_reducible ((with_reducible show wpAny _ _ (call (Value.ref 130) _) _ _ _); refine' useV (fun b => c_guess (by assumption) (by assumption) b) ?kF ?kN ?kX ?kT ?kh ?kd ?ku ?_; walk_at "ARGS"; intro t'z h'z tk'z F'z N'z) | with_reducible ((with_reducible show wpAny _ _ (call (Value.ref 66) _) _ _ _); refine' useV (fun b => c_lower_text (by assumption) (by assumption) b) ?kF ?kN ?kX ?kT ?kh ?kd ?ku ?_; walk_at "ARGS"; intro t'z h'z tk'z F'z N'z) | with_reducible ((with_reducible show wpAny _ _ (call (Value.ref 116) _) _ _ _); refine' useV (fun b => c_text_l (by assumption) (by assumption) b) ?kF ?kN ?kX ?kT ?kh ?kd ?ku ?_; walk_at "ARGS"; intro t'z h'z tk'z F'z N'z) | with_reducible ((with_reducible show wpAny _ _ (eval (PySem.Expr.Name _ _) _) _ _ _); (k_dflt (first | (refine' nameX_L ?Fh9 ?vh9 ?_ ?ah9 ?bh9; (case Fh9 => k_asm); (case ah9 => rfl); (case bh9 => rfl); (case vh9 => rfl); k_whole) | (refine' nameX_K ?Fh9 ?Xh9 ?Th9 ?eh9 ?_ ?ah9 ?bh9; (case Fh9 => k_asm); (case Xh9 => k_asm); (case Th9 => k_asm); (case ah9 => rfl); (case bh9 => rfl); (case eh9 => k_is); k_whole) | (refine' nameX_B ?Fh9 ?Xh9 ?Th9 ?eh9 ?vh9 ?nh9 ?_ ?ah9 ?bh9; (case Fh9 => k_asm); (case Xh9 => k_asm); (case Th9 => k_asm); (case ah9 => rfl); (case bh9 => rfl); (case eh9 => k_is); (case vh9 => boot_fast); (case nh9 => decide); k_whole)))) | with_reducible ((with_reducible show wpAny _ _ (spliced _) _ _ _); (k_dflt (first | refine args_cons ?_ | (refine args_nil ?_; (try simp only [List.cons_append, List.nil_append]))))) | with_reducible (k_closed; first | with_reducible refine PySem.W.ite_pos (by with_unfolding_all decide) ?_ | with_reducible refine PySem.W.ite_neg (by with_unfolding_all decide) ?_) | walk1); (try dsimp only); (try ((with_reducible show wpAny _ _ _ _ _ ⟨_, _, _, _ + _, _⟩); refine anyToks ?_; intro _)); (repeat ((first | with_reducible rename (_ < _ ∧ _) => hhzz | with_reducible rename (_ ≠ _ ∧ _) => hhzz | with_reducible rename ((_ ≠ _ ∧ _) ∧ _) => hhzz); have := hhzz.1; have := hhzz.2; clear hhzz))) | (dsimp only; walk1) | (leave1; (try dsimp only)) | fail "no step"))
  have hl := hdec.len
  refine join_list (ys := [st l, st [228], st []]) (News.isList (by k_asm) (.head _)) (.cons _ _ (.cons _ _ (.cons _ _ .nil))) ?_ ?_
  · simp only [List.map_cons, List.map_nil, List.sum_cons, List.sum_nil, List.length_cons, List.length_nil, st_len, ofStr0]; omega
  intro t' k'
  rw [join3, List.append_nil]
  exact Done.ret (by k_asm) ⟨_, rfl⟩
end

noncomputable def Alph (c : Nat) : Prop := c < 128 ∨ c = 196 ∨ c = 228 ∨ c = 233 ∨ c = 8364
instance (c : Nat) : Decidable (Alph c) := inferInstanceAs (Decidable (_ ∨ _))
noncomputable def upN (c : Nat) : Nat := if 97 ≤ c ∧ c ≤ 122 then c - 32 else c
theorem alph_all {P : Nat → Prop} (h0 : ∀ c < 128, P c) (h1 : P 196) (h2 : P 228) (h3 : P 233) (h4 : P 8364) : ∀ c, Alph c → P c := by
  rintro c (h | rfl | rfl | rfl | rfl)
  · exact h0 c h
  all_goals assumption
theorem Alph.le {c : Nat} (h : Alph c) : c ≤ 8364 := by unfold Alph at h; omega
theorem in_big {c : Nat} (h : Alph c) : (!(Builtin.Str.occurrences (Str.ofString "ABCDEFGHIJKLMNOPQRSTUVWXYZ") (st [c]) 0 (Str.ofString "ABCDEFGHIJKLMNOPQRSTUVWXYZ").length 1).isEmpty) = decide (65 ≤ c ∧ c ≤ 90) :=
  alph_all (P := fun c => (!(Builtin.Str.occurrences (Str.ofString "ABCDEFGHIJKLMNOPQRSTUVWXYZ") (st [c]) 0 (Str.ofString "ABCDEFGHIJKLMNOPQRSTUVWXYZ").length 1).isEmpty) = decide (65 ≤ c ∧ c ≤ 90)) (by decide +kernel) (by decide +kernel) (by decide +kernel) (by decide +kernel) (by decide +kernel) c h
theorem in_little {c : Nat} (h : Alph c) : (!(Builtin.Str.occurrences (Str.ofString "abcdefghijklmnopqrstuvwxyz") (st [c]) 0 (Str.ofString "abcdefghijklmnopqrstuvwxyz").length 1).isEmpty) = decide (97 ≤ c ∧ c ≤ 122) :=
  alph_all (P := fun c => (!(Builtin.Str.occurrences (Str.ofString "abcdefghijklmnopqrstuvwxyz") (st [c]) 0 (Str.ofString "abcdefghijklmnopqrstuvwxyz").length 1).isEmpty) = decide (97 ≤ c ∧ c ≤ 122)) (by decide +kernel) (by decide +kernel) (by decide +kernel) (by decide +kernel) (by decide +kernel) c h
section
variable {w : World} {vw : Program} {lo : List Str} {mean : ExcName → Option Value} {mg mb : Str → Option Value} {s : Shared}

theorem c_small {l : List Nat} {t : Tok} (hc : ∀ c ∈ l, Alph c) (hl : l.length ≤ 1000000) (b : Bs w vw lo mean mg mb s.heap) : Cl w 2 s (call (.ref 342) [.str (st l) t]) (fun r _ => ∃ t', r = .str (st (l.map lowN)) t') := by
  refine' enter (binds := [(Str.ofString "text", .str (st l) t)]) b ?k6 ?k7 ?k9 ?kB ?c5 ?c2 ?c3 ?c4 ?_
  ((case k6 => k_is); (case k7 => k_is); (case k9 => exact rfl); (case kB => exact locs rfl); (case c5 => decide); (case c2 => exact rfl); (case c3 => exact rfl); (case c4 => exact rfl))
  intro dp un fr gd h₁ tk hd hu F X T N
  have mk1 := Mk.on 1
  ((try dsimp only); (try k_fold); repeat' (first | (k_unfold; (try dsimp only)) | ((first | with_reducible ((with_reducible show wpAny _ _ (call (Value.builtin _) [Value.ref _, Value.ref _]) _ _ _); k_dflt (refine' kl_extend ?Fh9 ?Nh9 ?bh9 ?eh9 ?neh9 ?Uh9 ?dh9 ?zh9 ?yh9 ?_; (case Fh9 => k_asm); (case Nh9 => k_asm); (case bh9 => k_mem); (case Uh9 => k_upd); (case eh9 => exact rfl); (case neh9 => exact Nat.succ_ne_zero _); (case dh9 => exact ext_no (by simp only [List.size_toArray, List.length_cons, List.length_nil]; omega)); (case zh9 => (rw [sizeLine_eq, Array.length_toList]; omega)); (case yh9 => (rw [sizeLine_eq]; simp only [List.size_toArray, List.length_cons, List.length_nil]; omega))); intro h'z F'z N'z; (try k_sweep)) | ((with_reducible show wpAny _ _ (call (Value.type "bytes") [Value.ref _]) _ _ _); refine' mkB ?kF ?kN ?kh ?klh9 ?kih9 ?knh9 ?_; (case kF => k_asm); (case kN => k_asm); (case kh => rfl); (case klh9 => exact News.isList (by k_asm) (.head _)); (case kih9 => assumption); (case knh9 => omega); intro h'z t'z k'z F'z N'z) | with_reducible ((with_reducible show wpAny _ _ (call (Value.builtin _) [Value.ref _, _]) _ _ _); k_dflt (refine' append_K ?k1h9 ?k2h9 ?k3h9 ?_ ?zh9; (case k1h9 => k_asm); (case k2h9 => k_asm); (case k3h9 => k_upd); (case zh9 => (rw [sizeLine_eq]; omega)); k_whole); intro h'z F'z N'z; (try k_sweep)) | with_reducible ((with_reducible show wpAny _ _ (eval (PySem.Expr.Name _ _) _) _ _ _); (k_dflt (first | (refine' nameX_L ?Fh9 ?vh9 ?_ ?ah9 ?bh9; (case Fh9 => k_asm); (case ah9 => rfl); (case bh9 => rfl); (case vh9 => rfl); k_whole) | (refine' nameX_K ?Fh9 ?Xh9 ?Th9 ?eh9 ?_ ?ah9 ?bh9; (case Fh9 => k_asm); (case Xh9 => k_asm); (case Th9 => k_asm); (case ah9 => rfl); (case bh9 => rfl); (case eh9 => k_is); k_whole) | (refine' nameX_B ?Fh9 ?Xh9 ?Th9 ?eh9 ?vh9 ?nh9 ?_ ?ah9 ?bh9; (case Fh9 => k_asm); (case Xh9 => k_asm); (case Th9 => k_asm); (case ah9 => rfl); (case bh9 => rfl); (case eh9 => k_is); (case vh9 => boot_fast); (case nh9 => decide); k_whole)))) | with_reducible ((with_reducible show wpAny _ _ (spliced _) _ _ _); (k_dflt (first | refine args_cons ?_ | (refine args_nil ?_; (try simp only [List.cons_append, List.nil_append]))))) | with_reducible ((with_reducible show wpAny _ _ (exec (PySem.Stmt.For _ (PySem.Expr.Name _ _) _ _ _) _) _ _ _); ((rename Mk 3 => mk'z); refine Stop.mk ?_)) | with_reducible ((with_reducible show wpAny _ _ (eval (PySem.Expr.ListComp _ _ _ _) _) _ _ _); ((rename Mk 1 => mk'z); refine Stop.mk ?_)) | walk1); (try dsimp only); (try ((with_reducible show wpAny _ _ _ _ _ ⟨_, _, _, _ + _, _⟩); refine anyToks ?_; intro _)); (repeat ((first | with_reducible rename (_ < _ ∧ _) => hhzz | with_reducible rename (_ ≠ _ ∧ _) => hhzz | with_reducible rename ((_ ≠ _ ∧ _) ∧ _) => hhzz); have := hhzz.1; have := hhzz.2; clear hhzz))) | (dsimp only; walk1) | (leave1; (try dsimp only)) | fail "no step"))
  refine Stop.out ?_
  refine lc_str l (fun c v => ∃ t, v = .str (st [lowN c]) t) (by with_unfolding_all rfl) (by decide) rfl (by decide) rfl rfl ?_
  refine ld F rfl ?_
  refine Stop.out ⟨t, rfl, by rw [sizeLine_eq]; omega, ?_, ?_⟩
  · intro C a u s₃ m₃ E' ha hC hn hm hk
    have b₃ := b.keeps (Kp.trans F.keep hk)
    have hA := hc a ha
    refine Ev.keeps (H := s₃.heap) (P := fun v => ∃ t, v = .str (st [lowN a]) t) ?_ (Kp.refl _)
    refine Ev.ifc (c := decide (65 ≤ a ∧ a ≤ 90)) (P1 := fun v => v = .str (st [a]) u) (P2 := fun v => ∃ t, v = .str (Str.ofString "ABCDEFGHIJKLMNOPQRSTUVWXYZ") t) (Ev.loc hn hm rfl rfl) Ev.str ?_ ?_ ?_
    · rintro v u' rfl ⟨t', rfl⟩
      exact Ev.inS.imp fun z e => by rw [e, in_big hA]
    · intro hcc
      have hcc' := of_decide_eq_true hcc
      have hlow : lowN a = a + 32 := if_pos hcc'
      rw [hlow]
      refine Ev.callB (P := fun v => ∃ t, v = .int ((a + 32 : Nat) : Int) t) (Ev.blt b₃ (by k_is) (by boot_fast) rfl rfl rfl rfl) ?_ ?_
      · refine Ev.bin (P1 := fun v => ∃ t, v = .int (a : Int) t) (P2 := fun v => ∃ t, v = .int 32 t) ?_ Ev.int ?_
        · refine Ev.callB (Ev.blt b₃ (by k_is) (by boot_fast) rfl rfl rfl rfl) (Ev.loc hn hm rfl rfl) ?_
          rintro v rfl
          exact Ev.ord
        · rintro v u' ⟨t', rfl⟩ ⟨t'', rfl⟩
          exact Ev.addI.imp fun z h => by obtain ⟨q, rfl⟩ := h; exact ⟨q, by push_cast; rfl⟩
      · rintro v ⟨t', rfl⟩
        have := hA.le
        exact (Ev.chr (by omega) (by omega)).imp fun v h => by rw [Int.toNat_natCast] at h; exact h
    · intro hcc
      have hcc' := of_decide_eq_false hcc
      have hlow : lowN a = a := if_neg hcc'
      rw [hlow]
      exact (Ev.loc hn hm rfl rfl).imp fun v h => ⟨_, h⟩
  intro D h' tk' nn ys hk hD hobj hp
  have F' := F.keeps hk
  have N' := addNew F N hk hD hobj
  ((try dsimp only); (try k_fold); repeat' (first | (k_unfold; (try dsimp only)) | ((first | with_reducible ((with_reducible show wpAny _ _ (call (Value.builtin _) [Value.ref _, Value.ref _]) _ _ _); k_dflt (refine' kl_extend ?Fh9 ?Nh9 ?bh9 ?eh9 ?neh9 ?Uh9 ?dh9 ?zh9 ?yh9 ?_; (case Fh9 => k_asm); (case Nh9 => k_asm); (case bh9 => k_mem); (case Uh9 => k_upd); (case eh9 => exact rfl); (case neh9 => exact Nat.succ_ne_zero _); (case dh9 => exact ext_no (by simp only [List.size_toArray, List.length_cons, List.length_nil]; omega)); (case zh9 => (rw [sizeLine_eq, Array.length_toList]; omega)); (case yh9 => (rw [sizeLine_eq]; simp only [List.size_toArray, List.length_cons, List.length_nil]; omega))); intro h'z F'z N'z; (try k_sweep)) | ((with_reducible show wpAny _ _ (call (Value.type "bytes") [Value.ref _]) _ _ _); refine' mkB ?kF ?kN ?kh ?klh9 ?kih9 ?knh9 ?_; (case kF => k_asm); (case kN => k_asm); (case kh => rfl); (case klh9 => exact News.isList (by k_asm) (.head _)); (case kih9 => assumption); (case knh9 => omega); intro h'z t'z k'z F'z N'z) | with_reducible ((with_reducible show wpAny _ _ (call (Value.builtin _) [Value.ref _, _]) _ _ _); k_dflt (refine' append_K ?k1h9 ?k2h9 ?k3h9 ?_ ?zh9; (case k1h9 => k_asm); (case k2h9 => k_asm); (case k3h9 => k_upd); (case zh9 => (rw [sizeLine_eq]; omega)); k_whole); intro h'z F'z N'z; (try k_sweep)) | with_reducible ((with_reducible show wpAny _ _ (eval (PySem.Expr.Name _ _) _) _ _ _); (k_dflt (first | (refine' nameX_L ?Fh9 ?vh9 ?_ ?ah9 ?bh9; (case Fh9 => k_asm); (case ah9 => rfl); (case bh9 => rfl); (case vh9 => rfl); k_whole) | (refine' nameX_K ?Fh9 ?Xh9 ?Th9 ?eh9 ?_ ?ah9 ?bh9; (case Fh9 => k_asm); (case Xh9 => k_asm); (case Th9 => k_asm); (case ah9 => rfl); (case bh9 => rfl); (case eh9 => k_is); k_whole) | (refine' nameX_B ?Fh9 ?Xh9 ?Th9 ?eh9 ?vh9 ?nh9 ?_ ?ah9 ?bh9; (case Fh9 => k_asm); (case Xh9 => k_asm); (case Th9 => k_asm); (case ah9 => rfl); (case bh9 => rfl); (case eh9 => k_is); (case vh9 => boot_fast); (case nh9 => decide); k_whole)))) | with_reducible ((with_reducible show wpAny _ _ (spliced _) _ _ _); (k_dflt (first | refine args_cons ?_ | (refine args_nil ?_; (try simp only [List.cons_append, List.nil_append]))))) | with_reducible ((with_reducible show wpAny _ _ (exec (PySem.Stmt.For _ (PySem.Expr.Name _ _) _ _ _) _) _ _ _); ((rename Mk 3 => mk'z); refine Stop.mk ?_)) | with_reducible ((with_reducible show wpAny _ _ (eval (PySem.Expr.ListComp _ _ _ _) _) _ _ _); ((rename Mk 1 => mk'z); refine Stop.mk ?_)) | walk1); (try dsimp only); (try ((with_reducible show wpAny _ _ _ _ _ ⟨_, _, _, _ + _, _⟩); refine anyToks ?_; intro _)); (repeat ((first | with_reducible rename (_ < _ ∧ _) => hhzz | with_reducible rename (_ ≠ _ ∧ _) => hhzz | with_reducible rename ((_ ≠ _ ∧ _) ∧ _) => hhzz); have := hhzz.1; have := hhzz.2; clear hhzz))) | (dsimp only; walk1) | (leave1; (try dsimp only)) | fail "no step"))
  refine join_list (News.isList N' (.head _)) (paired_strs hp) ?_ ?_
  · rw [sum_ones, show (Str.ofString "").length = 0 from by decide +kernel]; omega
  intro t' k'
  have e : Txt.join (Str.ofString "") (l.map fun c => st [lowN c]) = st (l.map lowN) := join_map lowN l
  rw [e]
  exact Done.ret F' ⟨_, rfl⟩

theorem ext_no {b : Bool} {n : Nat} (h : n ≤ 1000000) : ¬ (b && Builtin.List.listTooLong n) = true := by
  have : Builtin.List.listTooLong n = false := by
    unfold Builtin.List.listTooLong
    rw [decide_eq_false_iff_not, sizeLine_eq]; omega
  rw [this, Bool.and_false]; exact Bool.false_ne_true

noncomputable def wide (c : Nat) : List UInt8 :=
  if c < 128 then [c.toUInt8] else if c < 2048 then [(192 + c / 64).toUInt8, (128 + c % 64).toUInt8] else [(224 + c / 4096).toUInt8, (128 + c / 64 % 64).toUInt8, (128 + c % 64).toUInt8]
noncomputable def wideL (l : List Nat) : List UInt8 := l.flatMap wide
theorem u8Z_append (a b : List UInt8) : u8Z (a ++ b) = u8Z a ++ u8Z b := List.map_append
theorem intsAre_append : ∀ {vs ws : List Value} {a b : List Int}, IntsAre vs a → IntsAre ws b → IntsAre (vs ++ ws) (a ++ b)
  | _, _, _, _, .nil, h => h
  | _, _, _, _, .cons _ _ r, h => .cons _ _ (intsAre_append r h)
theorem u8nat {c : Nat} (h : c < 256) : c.toUInt8.toNat = c := by
  show (UInt8.ofNat c).toNat = c
  rw [UInt8.toNat_ofNat']; omega
theorem wide1 {c : Nat} (h : c < 128) : u8Z (wide c) = [(c : Int)] := by
  unfold wide u8Z
  rw [if_pos h]
  simp only [List.map_cons, List.map_nil]
  rw [u8nat (by omega)]
theorem wide2 {c : Nat} (h : ¬ c < 128) (h2 : c < 2048) : u8Z (wide c) = [192 + (c : Int).fdiv 64, 128 + (c : Int).fmod 64] := by
  unfold wide u8Z
  rw [if_neg h, if_pos h2]
  simp only [List.map_cons, List.map_nil]
  rw [u8nat (by omega), u8nat (by omega), Int.fdiv_eq_ediv_of_nonneg _ (by decide), Int.fmod_eq_emod_of_nonneg _ (by decide)]
  push_cast; rfl
theorem wide3 {c : Nat} (h : ¬ c < 2048) (h2 : c ≤ 8364) : u8Z (wide c) = [224 + (c : Int).fdiv 4096, 128 + ((c : Int).fdiv 64).fmod 64, 128 + (c : Int).fmod 64] := by
  unfold wide u8Z
  rw [if_neg (by omega), if_neg h]
  simp only [List.map_cons, List.map_nil]
  rw [u8nat (by omega), u8nat (by omega), u8nat (by omega), Int.fdiv_eq_ediv_of_nonneg _ (by decide), Int.fdiv_eq_ediv_of_nonneg _ (by decide), Int.fmod_eq_emod_of_nonneg _ (by decide), Int.fmod_eq_emod_of_nonneg _ (by decide)]
  push_cast; rfl
theorem wide_len (c : Nat) : (wide c).length ≤ 3 := by unfold wide; split; · simp
                                                       · split <;> simp
theorem wideL_len : ∀ (l : List Nat), (wideL l).length ≤ 3 * l.length
  | [] => by simp [wideL]
  | c :: l => by
    have := wideL_len l
    have := wide_len c
    simp only [wideL, List.flatMap_cons, List.length_append, List.length_cons] at *
    omega
noncomputable def WdJ (D : Addr) (l : List Nat) (i : Nat) (m : Str → Option Value) (news : List (Addr × Obj)) : Prop :=
  m (Str.ofString "found") = some (.ref D) ∧ ∃ (vs : Array Value) (n : Nat), news = [(D, PySem.W.listOf vs n)] ∧ IntsAre vs.toList (u8Z (wideL (l.take i)))

theorem c_wide {l : List Nat} {t : Tok} (hc : ∀ c ∈ l, Alph c) (hl : l.length ≤ 100000) (b : Bs w vw lo mean mg mb s.heap) : Cl w 1 s (call (.ref 337) [.str (st l) t]) (fun r _ => ∃ t', r = .bytes (wideL l).toArray t') := by
  refine' enter (binds := [(Str.ofString "text", .str (st l) t)]) b ?k6 ?k7 ?k9 ?kB ?c5 ?c2 ?c3 ?c4 ?_
  ((case k6 => k_is); (case k7 => k_is); (case k9 => exact rfl); (case kB => exact locs rfl); (case c5 => decide); (case c2 => exact rfl); (case c3 => exact rfl); (case c4 => exact rfl))
  intro dp un fr gd h₁ tk hd hu F X T N
  have mk3 := Mk.on 3
  ((try dsimp only); (try k_fold); repeat' (first | (k_unfold; (try dsimp only)) | ((first | with_reducible ((with_reducible show wpAny _ _ (call (Value.builtin _) [Value.ref _, Value.ref _]) _ _ _); k_dflt (refine' kl_extend ?Fh9 ?Nh9 ?bh9 ?eh9 ?neh9 ?Uh9 ?dh9 ?zh9 ?yh9 ?_; (case Fh9 => k_asm); (case Nh9 => k_asm); (case bh9 => k_mem); (case Uh9 => k_upd); (case eh9 => exact rfl); (case neh9 => exact Nat.succ_ne_zero _); (case dh9 => exact ext_no (by simp only [List.size_toArray, List.length_cons, List.length_nil]; omega)); (case zh9 => (rw [sizeLine_eq, Array.length_toList]; omega)); (case yh9 => (rw [sizeLine_eq]; simp only [List.size_toArray, List.length_cons, List.length_nil]; omega))); intro h'z F'z N'z; (try k_sweep)) | ((with_reducible show wpAny _ _ (call (Value.type "bytes") [Value.ref _]) _ _ _); refine' mkB ?kF ?kN ?kh ?klh9 ?kih9 ?knh9 ?_; (case kF => k_asm); (case kN => k_asm); (case kh => rfl); (case klh9 => exact News.isList (by k_asm) (.head _)); (case kih9 => assumption); (case knh9 => omega); intro h'z t'z k'z F'z N'z) | with_reducible ((with_reducible show wpAny _ _ (call (Value.builtin _) [Value.ref _, _]) _ _ _); k_dflt (refine' append_K ?k1h9 ?k2h9 ?k3h9 ?_ ?zh9; (case k1h9 => k_asm); (case k2h9 => k_asm); (case k3h9 => k_upd); (case zh9 => (rw [sizeLine_eq]; omega)); k_whole); intro h'z F'z N'z; (try k_sweep)) | with_reducible ((with_reducible show wpAny _ _ (eval (PySem.Expr.Name _ _) _) _ _ _); (k_dflt (first | (refine' nameX_L ?Fh9 ?vh9 ?_ ?ah9 ?bh9; (case Fh9 => k_asm); (case ah9 => rfl); (case bh9 => rfl); (case vh9 => rfl); k_whole) | (refine' nameX_K ?Fh9 ?Xh9 ?Th9 ?eh9 ?_ ?ah9 ?bh9; (case Fh9 => k_asm); (case Xh9 => k_asm); (case Th9 => k_asm); (case ah9 => rfl); (case bh9 => rfl); (case eh9 => k_is); k_whole) | (refine' nameX_B ?Fh9 ?Xh9 ?Th9 ?eh9 ?vh9 ?nh9 ?_ ?ah9 ?bh9; (case Fh9 => k_asm); (case Xh9 => k_asm); (case Th9 => k_asm); (case ah9 => rfl); (case bh9 => rfl); (case eh9 => k_is); (case vh9 => boot_fast); (case nh9 => decide); k_whole)))) | with_reducible ((with_reducible show wpAny _ _ (spliced _) _ _ _); (k_dflt (first | refine args_cons ?_ | (refine args_nil ?_; (try simp only [List.cons_append, List.nil_append]))))) | with_reducible ((with_reducible show wpAny _ _ (exec (PySem.Stmt.For _ (PySem.Expr.Name _ _) _ _ _) _) _ _ _); ((rename Mk 3 => mk'z); refine Stop.mk ?_)) | with_reducible ((with_reducible show wpAny _ _ (eval (PySem.Expr.ListComp _ _ _ _) _) _ _ _); ((rename Mk 1 => mk'z); refine Stop.mk ?_)) | walk1); (try dsimp only); (try ((with_reducible show wpAny _ _ _ _ _ ⟨_, _, _, _ + _, _⟩); refine anyToks ?_; intro _)); (repeat ((first | with_reducible rename (_ < _ ∧ _) => hhzz | with_reducible rename (_ ≠ _ ∧ _) => hhzz | with_reducible rename ((_ ≠ _ ∧ _) ∧ _) => hhzz); have := hhzz.1; have := hhzz.2; clear hhzz))) | (dsimp only; walk1) | (leave1; (try dsimp only)) | fail "no step"))
  rename Mk 3 => mk3; clear mk3
  refine Stop.out ?_
  refine for_str (F₀ := by k_asm) rfl ?_
  ((try dsimp only); (try k_fold); repeat' (first | (k_unfold; (try dsimp only)) | ((first | with_reducible ((with_reducible show wpAny _ _ (call (Value.builtin _) [Value.ref _, Value.ref _]) _ _ _); k_dflt (refine' kl_extend ?Fh9 ?Nh9 ?bh9 ?eh9 ?neh9 ?Uh9 ?dh9 ?zh9 ?yh9 ?_; (case Fh9 => k_asm); (case Nh9 => k_asm); (case bh9 => k_mem); (case Uh9 => k_upd); (case eh9 => exact rfl); (case neh9 => exact Nat.succ_ne_zero _); (case dh9 => exact ext_no (by simp only [List.size_toArray, List.length_cons, List.length_nil]; omega)); (case zh9 => (rw [sizeLine_eq, Array.length_toList]; omega)); (case yh9 => (rw [sizeLine_eq]; simp only [List.size_toArray, List.length_cons, List.length_nil]; omega))); intro h'z F'z N'z; (try k_sweep)) | ((with_reducible show wpAny _ _ (call (Value.type "bytes") [Value.ref _]) _ _ _); refine' mkB ?kF ?kN ?kh ?klh9 ?kih9 ?knh9 ?_; (case kF => k_asm); (case kN => k_asm); (case kh => rfl); (case klh9 => exact News.isList (by k_asm) (.head _)); (case kih9 => assumption); (case knh9 => omega); intro h'z t'z k'z F'z N'z) | with_reducible ((with_reducible show wpAny _ _ (call (Value.builtin _) [Value.ref _, _]) _ _ _); k_dflt (refine' append_K ?k1h9 ?k2h9 ?k3h9 ?_ ?zh9; (case k1h9 => k_asm); (case k2h9 => k_asm); (case k3h9 => k_upd); (case zh9 => (rw [sizeLine_eq]; omega)); k_whole); intro h'z F'z N'z; (try k_sweep)) | with_reducible ((with_reducible show wpAny _ _ (eval (PySem.Expr.Name _ _) _) _ _ _); (k_dflt (first | (refine' nameX_L ?Fh9 ?vh9 ?_ ?ah9 ?bh9; (case Fh9 => k_asm); (case ah9 => rfl); (case bh9 => rfl); (case vh9 => rfl); k_whole) | (refine' nameX_K ?Fh9 ?Xh9 ?Th9 ?eh9 ?_ ?ah9 ?bh9; (case Fh9 => k_asm); (case Xh9 => k_asm); (case Th9 => k_asm); (case ah9 => rfl); (case bh9 => rfl); (case eh9 => k_is); k_whole) | (refine' nameX_B ?Fh9 ?Xh9 ?Th9 ?eh9 ?vh9 ?nh9 ?_ ?ah9 ?bh9; (case Fh9 => k_asm); (case Xh9 => k_asm); (case Th9 => k_asm); (case ah9 => rfl); (case bh9 => rfl); (case eh9 => k_is); (case vh9 => boot_fast); (case nh9 => decide); k_whole)))) | with_reducible ((with_reducible show wpAny _ _ (spliced _) _ _ _); (k_dflt (first | refine args_cons ?_ | (refine args_nil ?_; (try simp only [List.cons_append, List.nil_append]))))) | with_reducible ((with_reducible show wpAny _ _ (exec (PySem.Stmt.For _ (PySem.Expr.Name _ _) _ _ _) _) _ _ _); ((rename Mk 3 => mk'z); refine Stop.mk ?_)) | with_reducible ((with_reducible show wpAny _ _ (eval (PySem.Expr.ListComp _ _ _ _) _) _ _ _); ((rename Mk 1 => mk'z); refine Stop.mk ?_)) | walk1); (try dsimp only); (try ((with_reducible show wpAny _ _ _ _ _ ⟨_, _, _, _ + _, _⟩); refine anyToks ?_; intro _)); (repeat ((first | with_reducible rename (_ < _ ∧ _) => hhzz | with_reducible rename (_ ≠ _ ∧ _) => hhzz | with_reducible rename ((_ ≠ _ ∧ _) ∧ _) => hhzz); have := hhzz.1; have := hhzz.2; clear hhzz))) | (dsimp only; walk1) | (leave1; (try dsimp only)) | fail "no step"))
  rename Fr _ _ _ _ => F2
  rename News _ _ _ _ => N2
  refine Stop.out ⟨l, _, _, _, WdJ _ l, rfl, F2, N2, ⟨rfl, _, _, rfl, .nil⟩, ?_, ?_⟩
  · intro i c tc I oI h tk m news hic hJ F N off
    clear F2 N2
    obtain ⟨hm, vs, n, rfl, hv⟩ := hJ
    replace F := frSet F hm
    have off' := off
    simp only [LCg.Off1, and_true] at off
    have hA := hc c (List.mem_of_getElem? hic)
    have hle := hA.le
    have hil : i < l.length := by
      rcases Nat.lt_or_ge i l.length with h | h
      · exact h
      · rw [List.getElem?_eq_none h] at hic; cases hic
    have hvn : vs.size ≤ 3 * i := by
      have e1 := intsAre_len hv
      have e2 := wideL_len (l.take i)
      simp only [u8Z, List.length_map, Array.length_toList, List.length_take] at e1 e2
      omega
    have htake : wideL (l.take (i + 1)) = wideL (l.take i) ++ wide c := by
      rw [List.take_add_one, hic]; simp [wideL]
    ((try dsimp only); (try k_fold); repeat' (first | (k_unfold; (try dsimp only)) | ((first | with_reducible ((with_reducible show wpAny _ _ (call (Value.builtin _) [Value.ref _, Value.ref _]) _ _ _); k_dflt (refine' kl_extend ?Fh9 ?Nh9 ?bh9 ?eh9 ?neh9 ?Uh9 ?dh9 ?zh9 ?yh9 ?_; (case Fh9 => k_asm); (case Nh9 => k_asm); (case bh9 => k_mem); (case Uh9 => k_upd); (case eh9 => exact rfl); (case neh9 => exact Nat.succ_ne_zero _); (case dh9 => exact ext_no (by simp only [List.size_toArray, List.length_cons, List.length_nil]; omega)); (case zh9 => (rw [sizeLine_eq, Array.length_toList]; omega)); (case yh9 => (rw [sizeLine_eq]; simp only [List.size_toArray, List.length_cons, List.length_nil]; omega))); intro h'z F'z N'z; (try k_sweep)) | ((with_reducible show wpAny _ _ (call (Value.type "bytes") [Value.ref _]) _ _ _); refine' mkB ?kF ?kN ?kh ?klh9 ?kih9 ?knh9 ?_; (case kF => k_asm); (case kN => k_asm); (case kh => rfl); (case klh9 => exact News.isList (by k_asm) (.head _)); (case kih9 => assumption); (case knh9 => omega); intro h'z t'z k'z F'z N'z) | with_reducible ((with_reducible show wpAny _ _ (call (Value.builtin _) [Value.ref _, _]) _ _ _); k_dflt (refine' append_K ?k1h9 ?k2h9 ?k3h9 ?_ ?zh9; (case k1h9 => k_asm); (case k2h9 => k_asm); (case k3h9 => k_upd); (case zh9 => (rw [sizeLine_eq]; omega)); k_whole); intro h'z F'z N'z; (try k_sweep)) | with_reducible ((with_reducible show wpAny _ _ (eval (PySem.Expr.Name _ _) _) _ _ _); (k_dflt (first | (refine' nameX_L ?Fh9 ?vh9 ?_ ?ah9 ?bh9; (case Fh9 => k_asm); (case ah9 => rfl); (case bh9 => rfl); (case vh9 => rfl); k_whole) | (refine' nameX_K ?Fh9 ?Xh9 ?Th9 ?eh9 ?_ ?ah9 ?bh9; (case Fh9 => k_asm); (case Xh9 => k_asm); (case Th9 => k_asm); (case ah9 => rfl); (case bh9 => rfl); (case eh9 => k_is); k_whole) | (refine' nameX_B ?Fh9 ?Xh9 ?Th9 ?eh9 ?vh9 ?nh9 ?_ ?ah9 ?bh9; (case Fh9 => k_asm); (case Xh9 => k_asm); (case Th9 => k_asm); (case ah9 => rfl); (case bh9 => rfl); (case eh9 => k_is); (case vh9 => boot_fast); (case nh9 => decide); k_whole)))) | with_reducible ((with_reducible show wpAny _ _ (spliced _) _ _ _); (k_dflt (first | refine args_cons ?_ | (refine args_nil ?_; (try simp only [List.cons_append, List.nil_append]))))) | with_reducible ((with_reducible show wpAny _ _ (exec (PySem.Stmt.For _ (PySem.Expr.Name _ _) _ _ _) _) _ _ _); ((rename Mk 3 => mk'z); refine Stop.mk ?_)) | with_reducible ((with_reducible show wpAny _ _ (eval (PySem.Expr.ListComp _ _ _ _) _) _ _ _); ((rename Mk 1 => mk'z); refine Stop.mk ?_)) | walk1); (try dsimp only); (try ((with_reducible show wpAny _ _ _ _ _ ⟨_, _, _, _ + _, _⟩); refine anyToks ?_; intro _)); (repeat ((first | with_reducible rename (_ < _ ∧ _) => hhzz | with_reducible rename (_ ≠ _ ∧ _) => hhzz | with_reducible rename ((_ ≠ _ ∧ _) ∧ _) => hhzz); have := hhzz.1; have := hhzz.2; clear hhzz))) | (dsimp only; walk1) | (leave1; (try dsimp only)) | fail "no step"))
    all_goals rename Fr _ _ _ _ => F3
    all_goals rename News _ _ _ _ => N3
    · refine ⟨_, _, _, [(_, _)], rfl, F3, N3, ⟨off, trivial⟩, rfl, _, _, rfl, ?_⟩
      rename ((c : Int) < 128) => h1
      rw [htake, u8Z_append, wide1 (by omega), Array.toList_push]
      exact intsAre_append hv (.cons _ _ .nil)
    · refine ⟨_, _, _, [(_, _)], rfl, F3, cb_drop N3 (fun p hp => .tail _ hp), ⟨off, trivial⟩, rfl, _, _, rfl, ?_⟩
      rename (¬ (c : Int) < 128) => h1
      rename ((c : Int) < 2048) => h2
      rw [htake, u8Z_append, wide2 (by omega) (by omega)]
      exact intsAre_append hv (.cons _ _ (.cons _ _ .nil))
    · refine ⟨_, _, _, [(_, _)], rfl, F3, cb_drop N3 (fun p hp => .tail _ hp), ⟨off, trivial⟩, rfl, _, _, rfl, ?_⟩
      rename (¬ (c : Int) < 2048) => h2
      rw [htake, u8Z_append, wide3 (by omega) (by omega)]
      exact intsAre_append hv (.cons _ _ (.cons _ _ (.cons _ _ .nil)))
  · intro h tk m news hJ F N
    clear F2 N2
    obtain ⟨hm, vs, n, rfl, hv⟩ := hJ
    replace F := frSet F hm
    have hz : (wideL l).length ≤ 1000000 := by have := wideL_len l; omega
    rw [List.take_length] at hv
    ((try dsimp only); (try k_fold); repeat' (first | (k_unfold; (try dsimp only)) | ((first | with_reducible ((with_reducible show wpAny _ _ (call (Value.builtin _) [Value.ref _, Value.ref _]) _ _ _); k_dflt (refine' kl_extend ?Fh9 ?Nh9 ?bh9 ?eh9 ?neh9 ?Uh9 ?dh9 ?zh9 ?yh9 ?_; (case Fh9 => k_asm); (case Nh9 => k_asm); (case bh9 => k_mem); (case Uh9 => k_upd); (case eh9 => exact rfl); (case neh9 => exact Nat.succ_ne_zero _); (case dh9 => exact ext_no (by simp only [List.size_toArray, List.length_cons, List.length_nil]; omega)); (case zh9 => (rw [sizeLine_eq, Array.length_toList]; omega)); (case yh9 => (rw [sizeLine_eq]; simp only [List.size_toArray, List.length_cons, List.length_nil]; omega))); intro h'z F'z N'z; (try k_sweep)) | ((with_reducible show wpAny _ _ (call (Value.type "bytes") [Value.ref _]) _ _ _); refine' mkB ?kF ?kN ?kh ?klh9 ?kih9 ?knh9 ?_; (case kF => k_asm); (case kN => k_asm); (case kh => rfl); (case klh9 => exact News.isList (by k_asm) (.head _)); (case kih9 => assumption); (case knh9 => omega); intro h'z t'z k'z F'z N'z) | with_reducible ((with_reducible show wpAny _ _ (call (Value.builtin _) [Value.ref _, _]) _ _ _); k_dflt (refine' append_K ?k1h9 ?k2h9 ?k3h9 ?_ ?zh9; (case k1h9 => k_asm); (case k2h9 => k_asm); (case k3h9 => k_upd); (case zh9 => (rw [sizeLine_eq]; omega)); k_whole); intro h'z F'z N'z; (try k_sweep)) | with_reducible ((with_reducible show wpAny _ _ (eval (PySem.Expr.Name _ _) _) _ _ _); (k_dflt (first | (refine' nameX_L ?Fh9 ?vh9 ?_ ?ah9 ?bh9; (case Fh9 => k_asm); (case ah9 => rfl); (case bh9 => rfl); (case vh9 => rfl); k_whole) | (refine' nameX_K ?Fh9 ?Xh9 ?Th9 ?eh9 ?_ ?ah9 ?bh9; (case Fh9 => k_asm); (case Xh9 => k_asm); (case Th9 => k_asm); (case ah9 => rfl); (case bh9 => rfl); (case eh9 => k_is); k_whole) | (refine' nameX_B ?Fh9 ?Xh9 ?Th9 ?eh9 ?vh9 ?nh9 ?_ ?ah9 ?bh9; (case Fh9 => k_asm); (case Xh9 => k_asm); (case Th9 => k_asm); (case ah9 => rfl); (case bh9 => rfl); (case eh9 => k_is); (case vh9 => boot_fast); (case nh9 => decide); k_whole)))) | with_reducible ((with_reducible show wpAny _ _ (spliced _) _ _ _); (k_dflt (first | refine args_cons ?_ | (refine args_nil ?_; (try simp only [List.cons_append, List.nil_append]))))) | with_reducible ((with_reducible show wpAny _ _ (exec (PySem.Stmt.For _ (PySem.Expr.Name _ _) _ _ _) _) _ _ _); ((rename Mk 3 => mk'z); refine Stop.mk ?_)) | with_reducible ((with_reducible show wpAny _ _ (eval (PySem.Expr.ListComp _ _ _ _) _) _ _ _); ((rename Mk 1 => mk'z); refine Stop.mk ?_)) | walk1); (try dsimp only); (try ((with_reducible show wpAny _ _ _ _ _ ⟨_, _, _, _ + _, _⟩); refine anyToks ?_; intro _)); (repeat ((first | with_reducible rename (_ < _ ∧ _) => hhzz | with_reducible rename (_ ≠ _ ∧ _) => hhzz | with_reducible rename ((_ ≠ _ ∧ _) ∧ _) => hhzz); have := hhzz.1; have := hhzz.2; clear hhzz))) | (dsimp only; walk1) | (leave1; (try dsimp only)) | fail "no step"))
    exact Done.ret (by k_asm) ⟨_, rfl⟩
end

/-- all but B -/
noncomputable def Ms (w : World) (vw : Program) (lo : List Str) (mean : ExcName → Option Value) (mg mb : Str → Option Value) (B : Addr) (h : Heap) : Prop := Bs w vw lo mean mg mb (hideAll h [B])
noncomputable def ClM (w : World) (n : Nat) (s : Shared) (B : Addr) (c : Sem Value) (P : Value → Heap → Prop) : Prop :=
  ∀ (A : Around) (Q E : Value → Shared → Prop), A.handled = none → A.depth + n < recursionLimit → A.units + 8 * n < cLine →
    (∀ v h' tk, Kp (hideAll s.heap [B]) h' → P v h' → Q v { s with heap := h', toks := tk }) → wpAny (model Pg w) A c Q E s
noncomputable def DoneM (s : Shared) (B : Addr) (P : Value → Heap → Prop) (fl : Flow) (s' : Shared) : Prop :=
  ∃ v h' tk, (fl = .ret v ∨ (fl = .next ∧ v = .none)) ∧ s' = { s with heap := h', toks := tk } ∧ Kp (hideAll s.heap [B]) h' ∧ P v h'
theorem DoneM.ret {s : Shared} {B : Addr} {P : Value → Heap → Prop} {v : Value} {h' : Heap} {tk : Nat} {L : Addr} {m : Str → Option Value} (F : Fr (hideAll s.heap [B]) L h' m) (p : P v h') :
    DoneM s B P (.ret v) { s with heap := h', toks := tk } := ⟨v, h', tk, .inl rfl, rfl, F.keep, p⟩

theorem enterM {w : World} {vw : Program} {lo : List Str} {mean : ExcName → Option Value} {mg mb : Str → Option Value} {n : Nat} {s : Shared} {B : Addr} {oB : Obj} {f : Addr} {args : List Value} {P : Value → Heap → Prop}
    {name qual : Str} {params : Arguments} {body : List Stmt} {scope : Scope} {dV kV doc pm cdv ct oc : Value} {an od : Option Addr} {osl : Array (Option Value)} {binds : List (Str × Value)}
    (b : Ms w vw lo mean mg mb B s.heap) (hB : s.heap.get? B = some oB)
    (ho : (hd.heap_39 w.params).lookup f = some ⟨oc, od, .func (fnOf name qual params body scope dV kV doc pm an cdv ct), osl⟩) (hcd : codeIn (hd.heap_39 w.params) cdv qual = true)
    (hbind : bindArgs (fnOf name qual params body scope dV kV doc pm an cdv ct) ⟨args, []⟩ = pure binds) (hloc : ∀ y ∈ binds, scope.names.lookup y.1 = some .local)
    (hcell : ∀ x ∈ scope.names, x.2 ≠ .cell) (hco : scope.isCoroutine = false) (hgen : scope.isGenerator = false) (hk : scope.kind = .function)
    (h : ∀ dp un fr gd h₁ tk L, L = s.heap.objs.size → dp + n < recursionLimit → un + 8 * n < cLine → Fr (hideAll s.heap [B]) L h₁ (fun y => binds.reverse.lookup y) → (hd.heap_39 w.params).In (hideAll s.heap [B]) → Top vw lo mean mg mb (hideAll s.heap [B]) → News (hideAll s.heap [B]) L h₁ [(B, oB)] →
      wpAny (model Pg w) ⟨none, dp, fr, gd, un⟩ (execs body (envOf qual scope L f cdv)) (DoneM s B P) (fun _ _ => False) { s with heap := h₁, toks := tk }) :
    ClM w (n + 1) s B (call (.ref f) args) P := by
  intro A Q E hh hd hu hQ
  obtain ⟨hnd, dp, fr, gd, un⟩ := A
  subst hh
  have X : (Mine.hd.heap_39 w.params).In s.heap := b.X.keeps fun _ _ e => of_hideAll _ e
  have T : Top vw lo mean mg mb s.heap := b.T.keeps fun _ _ e => of_hideAll _ e
  refine wpAny_call (codeAny_call_def (fd := fnOf name qual params body scope dV kV doc pm an cdv ct) (body := body) (binds := binds) (by dsimp only at hd ⊢; omega) (X _ _ ho) rfl T.nolimit (codeRec_of X hcd) rfl (BindsTo.of_eq hbind) hcell hloc (fun h₁ hns hk₁ => ?_) hco hgen hk)
  have F : Fr (hideAll s.heap [B]) s.heap.objs.size h₁ (fun y => binds.reverse.lookup y) := ⟨hns, fun b o e => hk₁ b o (of_hideAll _ e), Nat.le_of_eq (hideAll_size _ _)⟩
  have N : News (hideAll s.heap [B]) s.heap.objs.size h₁ [(B, oB)] := fun p hp => by
    rw [List.mem_singleton.mp hp]
    exact ⟨hk₁ _ _ hB, Nat.ne_of_lt (Heap.lt_size hB), hideAll_none _ (.head _)⟩
  dsimp only at hd hu
  have := h (dp + 1) (un + 3) (fr.map (callEnv (fnOf name qual params body scope dV kV doc pm an cdv ct) s.heap.objs.size f :: ·)) gd h₁ (s.toks + binds.length) s.heap.objs.size rfl (by omega) (by omega) F b.X b.T N
  refine wpAny_mono this (fun fl s' hd => ?_) fun _ _ x => x.elim
  obtain ⟨v, h', tk, e, rfl, k, p⟩ := hd
  rcases e with rfl | ⟨rfl, rfl⟩
  · exact hQ _ h' tk k p
  · exact hQ _ h' tk k p

noncomputable abbrev bagO (S : Addr) (p q : Int) (t1 t2 : Tok) (n : Nat) : Obj := PySem.W.listOf #[.ref S, .int p t1, .int q t2] n
noncomputable def isTake (B S : Addr) (many : Int) (v : Value) (h : Heap) : Prop := ∃ r t p q t1 t2 n, v = .int r t ∧ 0 ≤ r ∧ r < many ∧ 0 ≤ p ∧ h.get? B = some (bagO S p q t1 t2 n)
section
variable {w : World} {vw : Program} {lo : List Str} {mean : ExcName → Option Value} {mg mb : Str → Option Value} {s : Shared}
theorem fmod_nn {a b : Int} (h : 0 < b) : 0 ≤ a.fmod b := by rw [Int.fmod_eq_emod_of_nonneg _ (by omega)]; exact Int.emod_nonneg _ (by omega)
theorem fmod_lt {a b : Int} (h : 0 < b) : a.fmod b < b := by rw [Int.fmod_eq_emod_of_nonneg _ (by omega)]; exact Int.emod_lt_of_pos _ h
theorem c_take {B S : Addr} {p q many : Int} {t1 t2 t3 : Tok} {n : Nat} {vs : List Value} {ns : List Int} (hp : 0 ≤ p) (hm : 0 < many) (hB : s.heap.get? B = some (bagO S p q t1 t2 n)) (hS : (hideAll s.heap [B]).IsList S vs.toArray) (hi : IntsAre vs ns) (hz : ns.length ≤ 1000000) (b : Ms w vw lo mean mg mb B s.heap) :
    ClM w 1 s B (call (.ref 330) [.ref B, .int many t3]) (isTake B S many) := by
  refine' enterM (binds := [(Str.ofString "bag", .ref B), (Str.ofString "many", .int many t3)]) b hB ?k6 ?k7 ?k9 ?kB ?c5 ?c2 ?c3 ?c4 ?_
  ((case k6 => k_is); (case k7 => k_is); (case k9 => exact rfl); (case kB => exact locs rfl); (case c5 => decide); (case c2 => exact rfl); (case c3 => exact rfl); (case c4 => exact rfl))
  intro dp un fr gd h₁ tk L hL hd hu F X T N
  ((try dsimp only); (try k_fold); repeat' (first | (k_unfold; (try dsimp only)) | ((first | with_reducible ((with_reducible show wpAny _ _ (eval (PySem.Expr.Name _ _) _) _ _ _); (k_dflt (first | (refine' nameX_L ?Fh9 ?vh9 ?_ ?ah9 ?bh9; (case Fh9 => k_asm); (case ah9 => rfl); (case bh9 => rfl); (case vh9 => rfl); k_whole) | (refine' nameX_K ?Fh9 ?Xh9 ?Th9 ?eh9 ?_ ?ah9 ?bh9; (case Fh9 => k_asm); (case Xh9 => k_asm); (case Th9 => k_asm); (case ah9 => rfl); (case bh9 => rfl); (case eh9 => k_is); k_whole) | (refine' nameX_B ?Fh9 ?Xh9 ?Th9 ?eh9 ?vh9 ?nh9 ?_ ?ah9 ?bh9; (case Fh9 => k_asm); (case Xh9 => k_asm); (case Th9 => k_asm); (case ah9 => rfl); (case bh9 => rfl); (case eh9 => k_is); (case vh9 => boot_fast); (case nh9 => decide); k_whole)))) | with_reducible ((with_reducible show wpAny _ _ (spliced _) _ _ _); (k_dflt (first | refine args_cons ?_ | (refine args_nil ?_; (try simp only [List.cons_append, List.nil_append]))))) | walk1); (try dsimp only); (try ((with_reducible show wpAny _ _ _ _ _ ⟨_, _, _, _ + _, _⟩); refine anyToks ?_; intro _)); (repeat ((first | with_reducible rename (_ < _ ∧ _) => hhzz | with_reducible rename (_ ≠ _ ∧ _) => hhzz | with_reducible rename ((_ ≠ _ ∧ _) ∧ _) => hhzz); have := hhzz.1; have := hhzz.2; clear hhzz))) | (dsimp only; walk1) | (leave1; (try dsimp only)) | fail "no step"))
  · rename News _ _ _ _ => N2
    exact DoneM.ret (by k_asm) ⟨_, _, _, _, _, _, _, rfl, fmod_nn hm, fmod_lt hm, by omega, (N2 _ (.head _)).1⟩
  · rename News _ _ _ _ => N2
    exact DoneM.ret (by k_asm) ⟨_, _, _, _, _, _, _, rfl, fmod_nn hm, fmod_lt hm, by omega, (N2 _ (.head _)).1⟩

theorem useTake {A : Around} {Q E : Value → Shared → Prop} {h₀ : Heap} {L : Addr} {m : Str → Option Value} {news : List (Addr × Obj)} {B S : Addr} {p q many : Int} {t1 t2 t3 : Tok} {n : Nat} {vs : List Value} {ns : List Int} {g : Obj → List (Addr × Obj)}
    (F : Fr h₀ L s.heap m) (N : News h₀ L s.heap news) (U : UpdF B (bagO S p q t1 t2 n) news g) (X : (hd.heap_39 w.params).In h₀) (T : Top vw lo mean mg mb h₀)
    (hS : s.heap.IsList S vs.toArray) (hSB : S ≠ B) (hi : IntsAre vs ns) (hz : ns.length ≤ 1000000) (hp : 0 ≤ p) (hm : 0 < many)
    (hh : A.handled = none) (hd : A.depth + 1 < recursionLimit) (hu : A.units + 8 * 1 < cLine)
    (h : ∀ r t p' q' t1' t2' n' h' tk, Fr h₀ L h' m → News h₀ L h' (g (bagO S p' q' t1' t2' n')) → 0 ≤ r → r < many → 0 ≤ p' → Q (.int r t) { s with heap := h', toks := tk }) : wpAny (model Pg w) A (call (.ref 330) [.ref B, .int many t3]) Q E s := by
  obtain ⟨pre, post, rfl, hg, a, c⟩ := U.split
  have hB := N (B, bagO S p q t1 t2 n) (List.mem_append_right _ (.head _))
  have st : h₀.StaysIn (hideAll s.heap [B]) := fun b o e => hideAll_get _ (F.keep b o e) fun hm => by
    rw [List.mem_singleton.mp hm, hB.2.2] at e; cases e
  have hS' : (hideAll s.heap [B]).IsList S vs.toArray := by
    obtain ⟨o, e, r⟩ := hS
    exact ⟨o, hideAll_get _ e fun hm => hSB (List.mem_singleton.mp hm), r⟩
  refine c_take hp hm hB.1 hS' hi hz (⟨X.keeps st, T.keeps st⟩ : Ms w vw lo mean mg mb B s.heap) A Q E hh hd hu fun v h' tk k pp => ?_
  obtain ⟨r, t, p', q', t1', t2', n', rfl, h1, h2, h3, hB'⟩ := pp
  have keep : ∀ b o, b ≠ B → s.heap.get? b = some o → h'.get? b = some o := fun b o hb e => k b o (hideAll_get _ e fun hm => hb (List.mem_singleton.mp hm))
  refine h r t p' q' t1' t2' n' h' tk ⟨F.ns.at' fun o e => keep L o (Ne.symm hB.2.1) e, fun b o e => k b o (st b o e), F.above⟩ ?_ h1 h2 h3
  rw [hg]
  intro x hx
  rcases List.mem_append.mp hx with hx | hx
  · have z := N x (List.mem_append_left _ hx)
    exact ⟨keep _ _ (a x hx) z.1, z.2⟩
  · rcases List.mem_cons.mp hx with rfl | hx
    · exact ⟨hB', hB.2⟩
    · have z := N x (List.mem_append_right _ (.tail _ hx))
      exact ⟨keep _ _ (c x hx) z.1, z.2⟩
end

section
variable {w : World} {vw : Program} {lo : List Str} {mean : ExcName → Option Value} {mg mb : Str → Option Value} {s : Shared}
noncomputable def lawNames : List (List UInt8) := [[83, 117, 98, 106, 101, 99, 116], [83, 85, 66, 74, 69, 67, 84], [88, 45, 84, 101, 97], [116, 111], [70, 114, 111, 109]]
noncomputable def lawWords : List (List Nat) := [[84, 101, 97], [102, 111, 114], [116, 119, 111], [99, 97, 102, 233], [8364, 53], [84, 79], [120, 45, 116, 101, 97, 58]]
theorem tup322 {w : World} {h : Heap} (X : (hd.heap_39 w.params).In h) : ∃ items : Array Value, items.size = 5 ∧ h.IsTuple 322 items ∧ ∀ v ∈ items.toList, ∃ nm t, v = .bytes (List.toArray nm) t ∧ nm ∈ lawNames := by
  refine ⟨#[.bytes #[83, 117, 98, 106, 101, 99, 116] 637, .bytes #[83, 85, 66, 74, 69, 67, 84] 638, .bytes #[88, 45, 84, 101, 97] 639, .bytes #[116, 111] 640, .bytes #[70, 114, 111, 109] 641], rfl, ⟨_, X 322 _ (by k_is), rfl, _, rfl⟩, ?_⟩
  intro v hv
  simp only [List.mem_cons, List.not_mem_nil, or_false] at hv
  rcases hv with rfl | rfl | rfl | rfl | rfl
  all_goals exact ⟨_, _, rfl, by decide⟩
theorem tup323 {w : World} {h : Heap} (X : (hd.heap_39 w.params).In h) : ∃ items : Array Value, items.size = 7 ∧ h.IsTuple 323 items ∧ ∀ v ∈ items.toList, ∃ wd t, v = .str (st wd) t ∧ wd ∈ lawWords := by
  refine ⟨#[.str (Str.ofString "Tea") 643, .str (Str.ofString "for") 644, .str (Str.ofString "two") 645, .str (Str.ofString "café") 646, .str (Str.ofString "€5") 647, .str (Str.ofString "TO") 648, .str (Str.ofString "x-tea:") 649], rfl, ⟨_, X 323 _ (by k_is), rfl, _, rfl⟩, ?_⟩
  intro v hv
  simp only [List.mem_cons, List.not_mem_nil, or_false] at hv
  rcases hv with rfl | rfl | rfl | rfl | rfl | rfl | rfl
  · exact ⟨[84, 101, 97], _, congrArg (Value.str · _) (by decide +kernel), by decide⟩
  · exact ⟨[102, 111, 114], _, congrArg (Value.str · _) (by decide +kernel), by decide⟩
  · exact ⟨[116, 119, 111], _, congrArg (Value.str · _) (by decide +kernel), by decide⟩
  · exact ⟨[99, 97, 102, 233], _, congrArg (Value.str · _) (by decide +kernel), by decide⟩
  · exact ⟨[8364, 53], _, congrArg (Value.str · _) (by decide +kernel), by decide⟩
  · exact ⟨[84, 79], _, congrArg (Value.str · _) (by decide +kernel), by decide⟩
  · exact ⟨[120, 45, 116, 101, 97, 58], _, congrArg (Value.str · _) (by decide +kernel), by decide⟩

theorem tup_pick {prog : Program} {A : Around} {E : Value → Shared → Prop} {value slice : PySem.Expr} {a : Addr} {items : Array Value} {r : Int} {u : Tok} {Q : Value → Shared → Prop} (hT : s.heap.IsTuple a items) (h0 : 0 ≤ r) (h1 : r < items.size) (hz : items.size ≤ 1000000) (h : ∀ v ∈ items.toList, Q v s)
    (hs : subscripted slice false (.ref a) (.int r u) = operate [.ref a, .int r u] (getItem (.ref a) (.int r u)) := by with_unfolding_all rfl) :
    wpAny (model prog w) A (subscriptTail value slice (.ref a) (.int r u)) Q E s := by
  have hlt : r.toNat < items.toList.length := by rw [Array.length_toList]; omega
  refine item_tupleT (l := items.toList) (j := r.toNat) (x := items.toList[r.toNat]) (by rw [Array.toArray_toList]; exact hT) (by omega) (by omega) ?_ (List.getElem?_eq_getElem hlt) (h _ (List.getElem_mem hlt)) hs
  have h2 : r < (items.toList.length : Int) := by rw [Array.length_toList]; exact h1
  have h3 : ¬ r < 0 := by omega
  simp [seqIndex?, h3, h0, h1]
theorem pick_name {prog : Program} {A : Around} {E : Value → Shared → Prop} {value slice : PySem.Expr} {r : Int} {u : Tok} {Q : Value → Shared → Prop} {h₀ : Heap} {L : Addr} {m : Str → Option Value} (X : (hd.heap_39 w.params).In h₀) (F : Fr h₀ L s.heap m) (h0 : 0 ≤ r) (h1 : r < 5) (h : ∀ nm t, nm ∈ lawNames → Q (.bytes (List.toArray nm) t) s)
    (hs : subscripted slice false (.ref 322) (.int r u) = operate [.ref 322, .int r u] (getItem (.ref 322) (.int r u)) := by with_unfolding_all rfl) :
    wpAny (model prog w) A (subscriptTail value slice (.ref 322) (.int r u)) Q E s := by
  obtain ⟨items, hz, hT, hv⟩ := tup322 (X.keeps F.keep)
  exact tup_pick hT h0 (by omega) (by omega) (fun v hm => by obtain ⟨nm, t, rfl, e⟩ := hv v hm; exact h nm t e) hs
theorem pick_word {prog : Program} {A : Around} {E : Value → Shared → Prop} {value slice : PySem.Expr} {r : Int} {u : Tok} {Q : Value → Shared → Prop} {h₀ : Heap} {L : Addr} {m : Str → Option Value} (X : (hd.heap_39 w.params).In h₀) (F : Fr h₀ L s.heap m) (h0 : 0 ≤ r) (h1 : r < 7) (h : ∀ wd t, wd ∈ lawWords → Q (.str (st wd) t) s)
    (hs : subscripted slice false (.ref 323) (.int r u) = operate [.ref 323, .int r u] (getItem (.ref 323) (.int r u)) := by with_unfolding_all rfl) :
    wpAny (model prog w) A (subscriptTail value slice (.ref 323) (.int r u)) Q E s := by
  obtain ⟨items, hz, hT, hv⟩ := tup323 (X.keeps F.keep)
  exact tup_pick hT h0 (by omega) (by omega) (fun v hm => by obtain ⟨nm, t, rfl, e⟩ := hv v hm; exact h nm t e) hs
noncomputable def GapOf (r : Int) (g : List UInt8) : Prop := (r = 2 ∧ g = [10, 9]) ∨ (r ≠ 2 ∧ (g = [32] ∨ g = [13, 10, 32]))
theorem pick_gap {prog : Program} {A : Around} {E : Value → Shared → Prop} {value slice : PySem.Expr} {a : Addr} {r : Int} {u t1 t2 t3 t4 : Tok} {n : Nat} {Q : Value → Shared → Prop} {h₀ : Heap} {L : Addr} {news : List (Addr × Obj)} (N : News h₀ L s.heap news) (hm : (a, tupO [.bytes #[32] t1, .bytes #[13, 10, 32] t2, .bytes #[10, 9] t3, .bytes #[32] t4] n) ∈ news) (h0 : 0 ≤ r) (h1 : r < 4) (h : ∀ g t, GapOf r g → Q (.bytes (List.toArray g) t) s)
    (hs : subscripted slice false (.ref a) (.int r u) = operate [.ref a, .int r u] (getItem (.ref a) (.int r u)) := by with_unfolding_all rfl) :
    wpAny (model prog w) A (subscriptTail value slice (.ref a) (.int r u)) Q E s := by
  have hT : IsTup s.heap a #[.bytes #[32] t1, .bytes #[13, 10, 32] t2, .bytes #[10, 9] t3, .bytes #[32] t4] := ⟨_, (N _ hm).1, rfl, n, rfl⟩
  have hj : seqIndex? r 4 = some r.toNat := by
    have h2 : r < ((4 : Nat) : Int) := h1
    have h3 : ¬ r < 0 := by omega
    simp [seqIndex?, h3, h0, h1]
  obtain ⟨k, rfl⟩ := Int.eq_ofNat_of_zero_le h0
  have hk : k < 4 := by omega
  rcases k with _ | _ | _ | _ | k
  · exact item_tupleT hT (by decide) (by decide) hj rfl (h [32] _ (.inr ⟨by decide, .inl rfl⟩)) hs
  · exact item_tupleT hT (by decide) (by decide) hj rfl (h [13, 10, 32] _ (.inr ⟨by decide, .inr rfl⟩)) hs
  · exact item_tupleT hT (by decide) (by decide) hj rfl (h [10, 9] _ (.inl ⟨by decide, rfl⟩)) hs
  · exact item_tupleT hT (by decide) (by decide) hj rfl (h [32] _ (.inr ⟨by decide, .inl rfl⟩)) hs
  · omega
theorem ofS0 : Str.ofString "" = st [] := by decide +kernel
theorem ofS9 : Str.ofString "\t" = st [9] := by decide +kernel
theorem ofS32 : Str.ofString " " = st [32] := by decide +kernel
theorem ofSae : Str.ofString "ä" = st [228] := by decide +kernel
noncomputable def isFieldL (P : Params) (x dx : Addr) (nm rw : List UInt8) (fl : Flow) (s s' : Shared) : Prop :=
  ∃ h' tk, (fl = .next ∨ fl = .ret .none) ∧ s' = { s with heap := h', toks := tk } ∧ Kp (hideAll s.heap [x, dx]) h' ∧
    ∃ k1 k2 t1 t2 n, h'.get? x = some (instObj 159 dx) ∧ h'.get? dx = some (dictOf [⟨PyData.keyHash P (Str.ofString "name"), .str (Str.ofString "name") k1, .bytes nm.toArray t1⟩, ⟨PyData.keyHash P (Str.ofString "raw"), .str (Str.ofString "raw") k2, .bytes rw.toArray t2⟩] n)

theorem code_init {A : Around} {R : Result → Shared → Prop} {x dx : Addr} {nm rw : List UInt8} {t1 t2 : Tok} (hh : A.handled = none) (hd : A.depth + 1 < recursionLimit) (hu : A.units + 8 < cLine)
    (hx : s.heap.get? x = some (instObj 159 dx)) (hdx : s.heap.get? dx = some (dictOf [] 0)) (hne : @Ne Nat x dx) (b : Bs w vw lo mean mg mb (hideAll s.heap [x, dx]))
    (h : ∀ h' tk, Kp (hideAll s.heap [x, dx]) h' → (∃ k1 k2 t1 t2 n, h'.get? x = some (instObj 159 dx) ∧ h'.get? dx = some (dictOf [⟨PyData.keyHash w.params (Str.ofString "name"), .str (Str.ofString "name") k1, .bytes nm.toArray t1⟩, ⟨PyData.keyHash w.params (Str.ofString "raw"), .str (Str.ofString "raw") k2, .bytes rw.toArray t2⟩] n)) → R (.ok (.ret .none)) { s with heap := h', toks := tk }) :
    codeAny (model Pg w) A (.call (.ref 144) ⟨[.ref x, .bytes nm.toArray t1, .bytes rw.toArray t2], []⟩) R s := by
  obtain ⟨hnd, dp, fr, gd, un⟩ := A
  subst hh
  have X' : (Mine.hd.heap_39 w.params).In s.heap := b.X.keeps fun _ _ e => of_hideAll _ e
  have T' : Top vw lo mean mg mb s.heap := b.T.keeps fun _ _ e => of_hideAll _ e
  refine codeAny_call_def (binds := [(Str.ofString "self", .ref x), (Str.ofString "name", .bytes nm.toArray t1), (Str.ofString "raw", .bytes rw.toArray t2)]) (by dsimp only at hd ⊢; omega) (X' 144 _ (by k_is)) rfl T'.nolimit (codeRec_of X' (by k_is)) rfl (BindsTo.of_eq rfl) (by decide) (locs rfl) (fun h₁ hns hk₁ => ?_) rfl rfl rfl
  have F : Fr (hideAll s.heap [x, dx]) s.heap.objs.size h₁ (fun y => [(Str.ofString "self", .ref x), (Str.ofString "name", .bytes nm.toArray t1), (Str.ofString "raw", .bytes rw.toArray t2)].reverse.lookup y) := ⟨hns, fun b o e => hk₁ b o (of_hideAll _ e), Nat.le_of_eq (hideAll_size _ _)⟩
  have N : News (hideAll s.heap [x, dx]) s.heap.objs.size h₁ [(x, instObj 159 dx), (dx, dictOf [] 0)] := fun p hp => by
    rcases List.mem_cons.mp hp with rfl | hp
    · exact ⟨hk₁ _ _ hx, Nat.ne_of_lt (Heap.lt_size hx), hideAll_none _ (.head _)⟩
    · rw [List.mem_singleton.mp hp]
      exact ⟨hk₁ _ _ hdx, Nat.ne_of_lt (Heap.lt_size hdx), hideAll_none _ (.tail _ (.head _))⟩
  have X := b.X
  have T := b.T
  dsimp only at hd hu
  refine wpAny_mono (Q := fun fl s' => isFieldL w.params x dx nm rw fl s s') (E := fun _ _ => False) ?_ ?_ (fun _ _ x => x.elim)
  · show wpAny (model Pg w) ⟨none, dp + 1, _, gd, un + 3⟩ _ _ _ _
    clear h b X' T' hx hdx hns hk₁
    generalize hL : s.heap.objs.size = L at F N ⊢
    ((try dsimp only); (try k_fold); repeat' (first | (k_unfold; (try dsimp only)) | ((first | with_reducible ((with_reducible show wpAny _ _ (eval (PySem.Expr.Name _ _) _) _ _ _); (k_dflt (first | (refine' nameX_L ?Fh9 ?vh9 ?_ ?ah9 ?bh9; (case Fh9 => k_asm); (case ah9 => rfl); (case bh9 => rfl); (case vh9 => rfl); k_whole) | (refine' nameX_K ?Fh9 ?Xh9 ?Th9 ?eh9 ?_ ?ah9 ?bh9; (case Fh9 => k_asm); (case Xh9 => k_asm); (case Th9 => k_asm); (case ah9 => rfl); (case bh9 => rfl); (case eh9 => k_is); k_whole) | (refine' nameX_B ?Fh9 ?Xh9 ?Th9 ?eh9 ?vh9 ?nh9 ?_ ?ah9 ?bh9; (case Fh9 => k_asm); (case Xh9 => k_asm); (case Th9 => k_asm); (case ah9 => rfl); (case bh9 => rfl); (case eh9 => k_is); (case vh9 => boot_fast); (case nh9 => decide); k_whole)))) | walk1); (try dsimp only); (try ((with_reducible show wpAny _ _ _ _ _ ⟨_, _, _, _ + _, _⟩); refine anyToks ?_; intro _)); (repeat ((first | with_reducible rename (_ < _ ∧ _) => hhzz | with_reducible rename (_ ≠ _ ∧ _) => hhzz | with_reducible rename ((_ ≠ _ ∧ _) ∧ _) => hhzz); have := hhzz.1; have := hhzz.2; clear hhzz))) | (dsimp only; walk1) | (leave1; (try dsimp only)) | fail "no step"))
    rename Fr _ _ _ _ => F2
    rename News _ _ _ _ => N2
    exact ⟨_, _, .inl rfl, rfl, F2.keep, _, _, _, _, _, (N2 _ (.head _)).1, (N2 _ (.tail _ (.head _))).1⟩
  · rintro fl s' ⟨h', tk, e, rfl, k, p⟩
    rcases e with rfl | rfl
    · exact h h' tk k p
    · exact h h' tk k p
theorem useField {A : Around} {Q E : Value → Shared → Prop} {h₀ : Heap} {L : Addr} {m : Str → Option Value} {news : List (Addr × Obj)} {nm rw : List UInt8} {t1 t2 : Tok}
    (F : Fr h₀ L s.heap m) (N : News h₀ L s.heap news) (X : (hd.heap_39 w.params).In h₀) (T : Top vw lo mean mg mb h₀)
    (hh : A.handled = none) (hd : A.depth + 2 < recursionLimit) (hu : A.units + 16 < cLine)
    (h : ∀ x dx k1 k2 t1 t2 n h' tk, Fr h₀ L h' m → News h₀ L h' ((x, instObj 159 dx) :: (dx, dictOf [⟨PyData.keyHash w.params (Str.ofString "name"), .str (Str.ofString "name") k1, .bytes nm.toArray t1⟩, ⟨PyData.keyHash w.params (Str.ofString "raw"), .str (Str.ofString "raw") k2, .bytes rw.toArray t2⟩] n) :: news) → LCg.Off1 x news → LCg.Off1 dx news → @Ne Nat x dx → Q (.ref x) { s with heap := h', toks := tk }) :
    wpAny (model Pg w) A (call (.ref 159) [.bytes nm.toArray t1, .bytes rw.toArray t2]) Q E s := by
  refine call_cls F X N (by k_is) (by k_is) (by k_is) fun x dx h₁ F₁ N₁ l1 l2 => ?_
  have hxd : @Ne Nat x dx := Nat.ne_of_gt l2
  have hu1 : ∀ args, Code.cUnits (.builtin "type.__call__" args) ≤ 1 := fun args => by
    show 1 + 3 * Code.frames (.builtin "type.__call__" args) ≤ 1
    have : Code.frames (.builtin "type.__call__" args) = 0 := by kernel_rfl
    omega
  have ox : ∀ p ∈ news, p.1 ≠ x := fun p hp => Nat.ne_of_lt (Nat.lt_trans (l1 p hp) l2)
  have od : ∀ p ∈ news, p.1 ≠ dx := fun p hp => Nat.ne_of_lt (l1 p hp)
  have st : h₀.StaysIn (hideAll h₁ [x, dx]) := fun b o e => hideAll_get _ (F₁.keep b o e) fun hm => by
    rcases List.mem_cons.mp hm with rfl | hm
    · rw [(N₁ _ (.head _)).2.2] at e; cases e
    · rw [List.mem_singleton.mp hm, (N₁ _ (.tail _ (.head _))).2.2] at e; cases e
  refine code_init (s := { s with heap := h₁ }) hh (by rw [depth_under_make]; omega) (by have := hu1 ⟨[.ref 159, .bytes nm.toArray t1, .bytes rw.toArray t2], []⟩; show A.units + Code.cUnits _ + 8 < cLine; omega) (N₁ _ (.head _)).1 (N₁ _ (.tail _ (.head _))).1 hxd ⟨X.keeps st, T.keeps st⟩ fun h' tk k p => ?_
  obtain ⟨k1, k2, t1', t2', n, e1, e2⟩ := p
  refine ⟨rfl, ?_⟩
  have keep : ∀ b o, b ≠ x → b ≠ dx → h₁.get? b = some o → h'.get? b = some o := fun b o hb hb' e => k b o (hideAll_get _ e fun hm => by
    rcases List.mem_cons.mp hm with h | hm
    · exact hb h
    · exact hb' (List.mem_singleton.mp hm))
  refine h x dx k1 k2 t1' t2' n h' tk ⟨F₁.ns.at' fun o e => keep L o (Ne.symm (N₁ _ (.head _)).2.1) (Ne.symm (N₁ _ (.tail _ (.head _))).2.1) e, fun b o e => k b o (st b o e), F₁.above⟩ ?_ (off1_of ox) (off1_of od) hxd
  intro q hq
  rcases List.mem_cons.mp hq with rfl | hq
  · exact ⟨e1, (N₁ _ (.head _)).2⟩
  · rcases List.mem_cons.mp hq with rfl | hq
    · exact ⟨e2, (N₁ _ (.tail _ (.head _))).2⟩
    · have z := N₁ q (.tail _ (.tail _ hq))
      exact ⟨keep _ _ (ox q hq) (od q hq) z.1, z.2⟩
end

inductive RR : Nat → List UInt8 → List Nat → Prop
  | zero : RR 0 [32] []
  | one (wd : List Nat) : wd ∈ lawWords → RR 1 ([32] ++ [] ++ wideL wd) ([] ++ [] ++ wd)
  | more {k : Nat} {raw : List UInt8} {row : List Nat} (gap : List UInt8) (sep : List Nat) (wd : List Nat) : RR (k + 1) raw row → wd ∈ lawWords → (gap = [32] ∧ sep = [32] ∨ gap = [13, 10, 32] ∧ sep = [32] ∨ gap = [10, 9] ∧ sep = [9]) → RR (k + 2) (raw ++ gap ++ wideL wd) (row ++ sep ++ wd)
theorem word_len {wd : List Nat} (h : wd ∈ lawWords) : wd.length ≤ 7 ∧ 0 < wd.length := by
  revert wd; decide
theorem word_alph {wd : List Nat} (h : wd ∈ lawWords) : ∀ c ∈ wd, Alph c := by
  revert wd; decide
theorem name_len {nm : List UInt8} (h : nm ∈ lawNames) : nm.length ≤ 7 := by
  revert nm; decide
theorem gap_len {r : Int} {g : List UInt8} (h : GapOf r g) : g.length ≤ 3 := by
  rcases h with ⟨_, rfl⟩ | ⟨_, rfl | rfl⟩ <;> simp
theorem RR.len : ∀ {k : Nat} {raw : List UInt8} {row : List Nat}, RR k raw row → raw.length ≤ 1 + 30 * k ∧ row.length ≤ 10 * k ∧ (0 < k → 1 < raw.length ∧ 0 < row.length)
  | _, _, _, .zero => by simp
  | _, _, _, .one wd h => by
    have h1 := word_len h
    have h2 := wideL_len wd
    have h3 : 0 < (wideL wd).length := by
      revert wd; decide
    simp only [List.length_append, List.length_cons, List.length_nil]; omega
  | _, _, _, .more gap sep wd r h hg => by
    have h0 := r.len
    have h1 := word_len h
    have h2 := wideL_len wd
    simp only [List.length_append, List.length_cons, List.length_nil]
    rcases hg with ⟨rfl, rfl⟩ | ⟨rfl, rfl⟩ | ⟨rfl, rfl⟩ <;> simp only [List.length_append, List.length_cons, List.length_nil] <;> omega
theorem RR.len2 {k : Nat} {raw : List UInt8} {row : List Nat} (h : RR k raw row) (hk : k ≤ 3) : raw.length ≤ 100 ∧ row.length ≤ 100 := by
  have := h.len
  omega
theorem RR.b1 {k : Nat} {raw : List UInt8} {row : List Nat} (h : RR k raw row) : (raw == [32]) = decide (k = 0) := by
  have hl := h.len
  cases h with
  | zero => rfl
  | one wd hw =>
    have : 1 < ([32] ++ [] ++ wideL wd).length := (hl.2.2 (by decide)).1
    rw [decide_eq_false (by decide), beq_eq_false_iff_ne]
    intro e; rw [e] at this; simp at this
  | more gap sep wd r hw hg =>
    have := (hl.2.2 (by omega)).1
    rw [decide_eq_false (by omega), beq_eq_false_iff_ne]
    intro e; rw [e] at this; simp at this
theorem RR.b2 {k : Nat} {raw : List UInt8} {row : List Nat} (h : RR k raw row) : (st row == Str.ofString "") = decide (k = 0) := by
  have hl := h.len
  rw [ofS0]
  by_cases hk : k = 0
  · subst hk; cases h; decide +kernel
  · rw [decide_eq_false hk, beq_eq_false_iff_ne]
    intro e
    have e2 := st_inj e
    have := (hl.2.2 (by omega)).2
    rw [e2] at this; simp at this
section
variable {prog : Program} {w : World} {A : Around} {E : Value → Shared → Prop} {s : Shared} {Q : Value → Shared → Prop}
theorem unhide {h : Heap} {B D : Addr} (e : (hideAll h [B]).get? D = none) (hne : D ≠ B) : h.get? D = none := by
  cases q : h.get? D with
  | none => rfl
  | some o =>
    have := hideAll_get [B] q (fun hm => hne (List.mem_singleton.mp hm))
    rw [e] at this; cases this
theorem isList_up {h h' : Heap} {l : Addr} {items : Array Value} (x : h.IsList l items) (k : Kp h h') : h'.IsList l items := by obtain ⟨o, e, r⟩ := x; exact ⟨o, k _ _ e, r⟩
theorem frSet4 {h₀ h : Heap} {L : Addr} {m : Str → Option Value} {x1 x2 x3 x4 : Str} {v1 v2 v3 v4 : Value} (F : Fr h₀ L h m) (h1 : m x1 = some v1) (h2 : m x2 = some v2) (h3 : m x3 = some v3) (h4 : m x4 = some v4) :
    Fr h₀ L h (fun y => if y = x1 then some v1 else if y = x2 then some v2 else if y = x3 then some v3 else if y = x4 then some v4 else m y) := by
  have : (fun y => if y = x1 then some v1 else if y = x2 then some v2 else if y = x3 then some v3 else if y = x4 then some v4 else m y) = m := by
    funext y
    by_cases e1 : y = x1
    · rw [if_pos e1, e1, h1]
    · rw [if_neg e1]
      by_cases e2 : y = x2
      · rw [if_pos e2, e2, h2]
      · rw [if_neg e2]
        by_cases e3 : y = x3
        · rw [if_pos e3, e3, h3]
        · rw [if_neg e3]
          by_cases e4 : y = x4
          · rw [if_pos e4, e4, h4]
          · rw [if_neg e4]
  rw [this]; exact F
theorem sadd {x y : Str} {a b : List Nat} {t u : Tok} (hx : x = st a) (hy : y = st b) (hl : a.length + b.length ≤ 1000000) (h : ∀ t k, Q (.str (st (a ++ b)) t) { s with toks := k }) : wpAny (model prog w) A (binaryOp .Add (.str x t) (.str y u)) Q E s := by
  subst hx hy
  refine PyProof.Rows.add_str (fun t' k => ?_) (by rw [st_len, st_len, sizeLine_eq]; omega)
  rw [st_append]
  exact h t' k
theorem badd {x y : List UInt8} {t u : Tok} (hl : x.length + y.length ≤ 1000000) (h : ∀ t k, Q (.bytes (x ++ y).toArray t) { s with toks := k }) : wpAny (model prog w) A (binaryOp .Add (.bytes x.toArray t) (.bytes y.toArray u)) Q E s := by
  refine KBy.add_bytes (by simp only [List.size_toArray]; omega) fun t' k => ?_
  rw [List.append_toArray]
  exact h t' k
end
section
variable {w : World} {vw : Program} {lo : List Str} {mean : ExcName → Option Value} {mg mb : Str → Option Value} {s : Shared}
inductive LfJ (B S : Addr) (nm : List UInt8) (i : Nat) (m : Str → Option Value) (news : List (Addr × Obj)) : Prop
  | mk (raw : List UInt8) (row : List Nat) (p q : Int) (t1 t2 : Tok) (n : Nat) (tn tr tw : Tok) (h1 : RR i raw row) (h2 : m (Str.ofString "bag") = some (.ref B)) (h3 : m (Str.ofString "name") = some (.bytes nm.toArray tn)) (h4 : m (Str.ofString "raw") = some (.bytes raw.toArray tr)) (h5 : m (Str.ofString "row") = some (.str (st row) tw)) (h6 : 0 ≤ p)
    (h7 : news = [(B, bagO S p q t1 t2 n)]) : LfJ B S nm i m news
noncomputable def FieldSpec (rw : List UInt8) (row : List Nat) : Prop :=
  ∃ k raw0 row0, k ≤ 3 ∧ RR k raw0 row0 ∧ ((rw = raw0 ∧ row = row0) ∨ (k = 0 ∧ rw = raw0 ++ [] ++ EW ∧ row = row0 ++ [] ++ [228]) ∨ (0 < k ∧ rw = raw0 ++ [32] ++ EW ∧ row = row0 ++ [32] ++ [228]))
inductive isTold (w : World) (B S : Addr) (H : Heap) (v : Value) (h : Heap) : Prop
  | mk (D x dx : Addr) (nm rw' : List UInt8) (row : List Nat) (k1 k2 ta tb td te : Tok) (n1 n2 : Nat) (p q : Int) (t1 t2 : Tok) (n : Nat) (e : v = .ref D) (d1 : H.get? D = none) (d2 : H.get? x = none) (d3 : H.get? dx = none) (e1 : h.get? D = some (tupO [.ref x, .str (st (nm.map UInt8.toNat)) ta, .str (st row) tb] n1))
    (e2 : h.get? x = some (instObj 159 dx)) (e3 : h.get? dx = some (dictOf [⟨PyData.keyHash w.params (Str.ofString "name"), .str (Str.ofString "name") k1, .bytes (List.toArray nm) td⟩, ⟨PyData.keyHash w.params (Str.ofString "raw"), .str (Str.ofString "raw") k2, .bytes (List.toArray rw') te⟩] n2))
    (e4 : nm ∈ lawNames) (e5 : FieldSpec rw' row) (e6 : 0 ≤ p) (e7 : h.get? B = some (bagO S p q t1 t2 n)) : isTold w B S H v h
/-- after the field's last if -/
inductive FM (h₀ : Heap) (L : Addr) (s : Shared) (B S : Addr) (nm : List UInt8) (f : Flow) (s' : Shared) : Prop
  | mk (e : f = .next) (raw : List UInt8) (row : List Nat) (p q : Int) (t1 t2 : Tok) (n : Nat) (tn tr tw : Tok) (h : Heap) (tk : Nat) (m : Str → Option Value) (h1 : FieldSpec raw row) (h2 : m (Str.ofString "bag") = some (.ref B)) (h3 : m (Str.ofString "name") = some (.bytes nm.toArray tn)) (h4 : m (Str.ofString "raw") = some (.bytes raw.toArray tr)) (h5 : m (Str.ofString "row") = some (.str (st row) tw)) (h6 : 0 ≤ p)
    (h7 : s' = { s with heap := h, toks := tk }) (F : Fr h₀ L h m) (N : News h₀ L h [(B, bagO S p q t1 t2 n)]) : FM h₀ L s B S nm f s'
theorem c_lawfield {B S : Addr} {p q : Int} {t1 t2 : Tok} {n : Nat} {vs : List Value} {ns : List Int} (hp : 0 ≤ p) (hB : s.heap.get? B = some (bagO S p q t1 t2 n)) (hS : (hideAll s.heap [B]).IsList S vs.toArray) (hSB : S ≠ B) (hi : IntsAre vs ns) (hz : ns.length ≤ 1000000) (b : Ms w vw lo mean mg mb B s.heap) :
    ClM w 4 s B (call (.ref 347) [.ref B]) (isTold w B S s.heap) := by
  refine' enterM (binds := [(Str.ofString "bag", .ref B)]) b hB ?k6 ?k7 ?k9 ?kB ?c5 ?c2 ?c3 ?c4 ?_
  ((case k6 => k_is); (case k7 => k_is); (case k9 => exact rfl); (case kB => exact locs rfl); (case c5 => decide); (case c2 => exact rfl); (case c3 => exact rfl); (case c4 => exact rfl))
  intro dp un fr gd h₁ tk L hL hd hu F X T N
  have mk3 := Mk.on 3
  have mk1 := Mk.on 1
  ((try dsimp only); (try k_fold); repeat' (first | (k_unfold; (try dsimp only)) | ((first | with_reducible ((with_reducible show wpAny _ _ (call (Value.ref 159) _) _ _ _); refine' useField ?kF ?kN ?kX ?kT ?kh ?kd ?ku ?_; (case kF => k_asm); (case kN => k_asm); (case kX => k_asm); (case kT => k_asm); (case kh => exact rfl); (case kd => (try dsimp only); omega); (case ku => (try dsimp only); omega); intro x'z dx'z k1'z k2'z t1'z t2'z n'z h'z tk'z F'z N'z ox'z odx'z hxd'z; (try (simp only [LCg.Off1, and_true] at ox'z)); (try (simp only [LCg.Off1, and_true] at odx'z))) | ((with_reducible show wpAny _ _ (call (Value.ref 330) _) _ _ _); refine' useTake ?kF ?kN ?kUh9 ?kX ?kT ?kSh9 ?kSBh9 ?kih9 ?kzh9 ?kph9 ?kmh9 ?kh ?kd ?ku ?_; (case kF => k_asm); (case kN => k_asm); (case kUh9 => k_updF); (case kX => k_asm); (case kT => k_asm); (case kSh9 => exact isList_up (by assumption) (Fr.keep (by k_asm))); (case kSBh9 => assumption); (case kih9 => assumption); (case kzh9 => assumption); (case kph9 => assumption); (case kmh9 => (first | decide | omega)); (case kh => exact rfl); (case kd => (try dsimp only); omega); (case ku => (try dsimp only); omega); intro r t'z p'z q'z t1'z t2'z n'z h'z tk'z F'z N'z hr1 hr2 hp'z) | with_reducible ((with_reducible show wpAny _ _ (subscriptTail (Expr.Tuple _ _ _) _ (Value.ref _) (Value.int _ _)) _ _ _); k_dflt (refine pick_gap (by k_asm) (by k_mem) (by assumption) (by assumption) ?_); intro gapzz tgzz hgzz; have hglzz := gap_len hgzz) | with_reducible ((with_reducible show wpAny _ _ (subscriptTail _ _ (Value.ref 323) (Value.int _ _)) _ _ _); refine pick_word (by k_asm) (by k_asm) (by assumption) (by assumption) ?_; intro wdzz twzz hwdzz; have hwlzz := (word_len hwdzz).1; have hwazz := word_alph hwdzz; have hwl2zz := wideL_len wdzz; have hwl3zz : wdzz.length ≤ 100000 := Nat.le_trans hwlzz (by decide)) | with_reducible ((with_reducible show wpAny _ _ (subscriptTail _ _ (Value.ref 322) (Value.int _ _)) _ _ _); refine pick_name (by k_asm) (by k_asm) (by assumption) (by assumption) ?_; intro nmzz tnzz hnmzz; have hnlzz := name_len hnmzz) | with_reducible ((with_reducible show wpAny _ _ (binaryOp PySem.Operator.Add (Value.bytes _ _) (Value.bytes _ _)) _ _ _); (refine badd (by (try simp only [List.length_append, List.length_cons, List.length_nil]); omega) ?_; intro t'z k'z)) | with_reducible ((with_reducible show wpAny _ _ (binaryOp PySem.Operator.Add (Value.str _ _) (Value.str _ _)) _ _ _); (refine sadd (by with_reducible first | exact ofS0 | exact ofS9 | exact ofS32 | exact ofSae | exact rfl) (by with_reducible first | exact ofS0 | exact ofS9 | exact ofS32 | exact ofSae | exact rfl) (by (try simp only [List.length_append, List.length_cons, List.length_nil]); omega) ?_; intro t'z k'z)) | ((with_reducible show wpAny _ _ (call (Value.ref 330) _) _ _ _); refine' useTake ?kF ?kN ?kUh9 ?kX ?kT ?kSh9 ?kSBh9 ?kih9 ?kzh9 ?kph9 ?kmh9 ?kh ?kd ?ku ?_; (case kF => k_asm); (case kN => k_asm); (case kUh9 => k_updF); (case kX => k_asm); (case kT => k_asm); (case kSh9 => assumption); (case kSBh9 => assumption); (case kih9 => assumption); (case kzh9 => assumption); (case kph9 => assumption); (case kmh9 => (first | decide | omega)); (case kh => exact rfl); (case kd => (try dsimp only); omega); (case ku => (try dsimp only); omega); intro r t'z p'z q'z t1'z t2'z n'z h'z tk'z F'z N'z hr1 hr2 hp'z) | ((with_reducible show wpAny _ _ (call (Value.ref 337) _) _ _ _); refine' useV (fun b => c_wide (by assumption) (by assumption) b) ?kF ?kN ?kX ?kT ?kh ?kd ?ku ?_; walk_at "ARGS"; intro t'z h'z tk'z F'z N'z) | with_reducible ((with_reducible show wpAny _ _ (call (Value.ref 342) _) _ _ _); refine' useV (fun b => c_small (by assumption) (by assumption) b) ?kF ?kN ?kX ?kT ?kh ?kd ?ku ?_; walk_at "ARGS"; intro t'z h'z tk'z F'z N'z) | with_reducible ((with_reducible show wpAny _ _ (call (Value.ref 81) _) _ _ _); refine' useV (fun b => c_cname b) ?kF ?kN ?kX ?kT ?kh ?kd ?ku ?_; walk_at "ARGS"; intro t'z h'z tk'z F'z N'z) | with_reducible ((with_reducible show wpAny _ _ (newTuple _) _ _ _); (k_dflt (refine' kup_newTuple ?Fh9 ?Nh9 ?_ ?zh9; (case Fh9 => k_asm); (case Nh9 => k_asm); (case zh9 => kmk_size)); intro D'z h'z F'z N'z l1zz; (try k_lt l1zz); (try k_sweep))) | with_reducible ((with_reducible show wpAny _ _ (subscriptTail _ (Expr.Slice _ _ none _) (Value.bytes (List.toArray _) _) (Value.ref _)) _ _ _); (with_reducible rename Fr _ _ _ _ => F'z); (with_reducible rename News _ _ _ _ => N'z); (refine bcut (s := ⟨_, _, _, _, _⟩) F'z N'z (by constructor) (by constructor) (by first | assumption | omega) (by first | assumption | exact rfl) ?_); intro _ _ _ _ _) | with_reducible ((with_reducible show wpAny _ _ (exec (PySem.Stmt.If (PySem.Expr.Compare _ _ _ _) (_ :: _) [] _) _) _ _ _); ((rename Mk 8 => mk'z); refine Stop.mk ?_)) | with_reducible ((with_reducible show wpAny _ _ (eval (PySem.Expr.Name _ _) _) _ _ _); (k_dflt (first | (refine' nameX_L ?Fh9 ?vh9 ?_ ?ah9 ?bh9; (case Fh9 => k_asm); (case ah9 => rfl); (case bh9 => rfl); (case vh9 => rfl); k_whole) | (refine' nameX_K ?Fh9 ?Xh9 ?Th9 ?eh9 ?_ ?ah9 ?bh9; (case Fh9 => k_asm); (case Xh9 => k_asm); (case Th9 => k_asm); (case ah9 => rfl); (case bh9 => rfl); (case eh9 => k_is); k_whole) | (refine' nameX_B ?Fh9 ?Xh9 ?Th9 ?eh9 ?vh9 ?nh9 ?_ ?ah9 ?bh9; (case Fh9 => k_asm); (case Xh9 => k_asm); (case Th9 => k_asm); (case ah9 => rfl); (case bh9 => rfl); (case eh9 => k_is); (case vh9 => boot_fast); (case nh9 => decide); k_whole)))) | with_reducible ((with_reducible show wpAny _ _ (spliced _) _ _ _); (k_dflt (first | refine args_cons ?_ | (refine args_nil ?_; (try simp only [List.cons_append, List.nil_append]))))) | with_reducible ((with_reducible show wpAny _ _ (subscriptTail _ _ (Value.bytes (List.toArray _) _) (Value.int _ _)) _ _ _); (refine item_at (by omega) (by omega) (by omega) (by assumption) ?_)) | with_reducible ((with_reducible show wpAny _ _ (exec (PySem.Stmt.For _ (PySem.Expr.Call _ _ _ _) _ _ _) _) _ _ _); ((rename Mk 3 => mk'z); refine Stop.mk ?_)) | with_reducible ((with_reducible show wpAny _ _ (eval (PySem.Expr.ListComp _ _ _ _) _) _ _ _); ((rename Mk 1 => mk'z); refine Stop.mk ?_)) | walk1); (try dsimp only); (try ((with_reducible show wpAny _ _ _ _ _ ⟨_, _, _, _ + _, _⟩); refine anyToks ?_; intro _)); (repeat ((first | with_reducible rename (_ < _ ∧ _) => hhzz | with_reducible rename (_ ≠ _ ∧ _) => hhzz | with_reducible rename ((_ ≠ _ ∧ _) ∧ _) => hhzz); have := hhzz.1; have := hhzz.2; clear hhzz))) | (dsimp only; walk1) | (leave1; (try dsimp only)) | fail "no step"))
  rename (_ ∈ lawNames) => hnm
  rename (List.length _ ≤ 7) => hnl
  rename List UInt8 => nm
  refine Stop.out ?_
  refine for_range (F₀ := by k_asm) rfl ?_
  ((try dsimp only); (try k_fold); repeat' (first | (k_unfold; (try dsimp only)) | ((first | with_reducible ((with_reducible show wpAny _ _ (call (Value.ref 159) _) _ _ _); refine' useField ?kF ?kN ?kX ?kT ?kh ?kd ?ku ?_; (case kF => k_asm); (case kN => k_asm); (case kX => k_asm); (case kT => k_asm); (case kh => exact rfl); (case kd => (try dsimp only); omega); (case ku => (try dsimp only); omega); intro x'z dx'z k1'z k2'z t1'z t2'z n'z h'z tk'z F'z N'z ox'z odx'z hxd'z; (try (simp only [LCg.Off1, and_true] at ox'z)); (try (simp only [LCg.Off1, and_true] at odx'z))) | ((with_reducible show wpAny _ _ (call (Value.ref 330) _) _ _ _); refine' useTake ?kF ?kN ?kUh9 ?kX ?kT ?kSh9 ?kSBh9 ?kih9 ?kzh9 ?kph9 ?kmh9 ?kh ?kd ?ku ?_; (case kF => k_asm); (case kN => k_asm); (case kUh9 => k_updF); (case kX => k_asm); (case kT => k_asm); (case kSh9 => exact isList_up (by assumption) (Fr.keep (by k_asm))); (case kSBh9 => assumption); (case kih9 => assumption); (case kzh9 => assumption); (case kph9 => assumption); (case kmh9 => (first | decide | omega)); (case kh => exact rfl); (case kd => (try dsimp only); omega); (case ku => (try dsimp only); omega); intro r t'z p'z q'z t1'z t2'z n'z h'z tk'z F'z N'z hr1 hr2 hp'z) | with_reducible ((with_reducible show wpAny _ _ (subscriptTail (Expr.Tuple _ _ _) _ (Value.ref _) (Value.int _ _)) _ _ _); k_dflt (refine pick_gap (by k_asm) (by k_mem) (by assumption) (by assumption) ?_); intro gapzz tgzz hgzz; have hglzz := gap_len hgzz) | with_reducible ((with_reducible show wpAny _ _ (subscriptTail _ _ (Value.ref 323) (Value.int _ _)) _ _ _); refine pick_word (by k_asm) (by k_asm) (by assumption) (by assumption) ?_; intro wdzz twzz hwdzz; have hwlzz := (word_len hwdzz).1; have hwazz := word_alph hwdzz; have hwl2zz := wideL_len wdzz; have hwl3zz : wdzz.length ≤ 100000 := Nat.le_trans hwlzz (by decide)) | with_reducible ((with_reducible show wpAny _ _ (subscriptTail _ _ (Value.ref 322) (Value.int _ _)) _ _ _); refine pick_name (by k_asm) (by k_asm) (by assumption) (by assumption) ?_; intro nmzz tnzz hnmzz; have hnlzz := name_len hnmzz) | with_reducible ((with_reducible show wpAny _ _ (binaryOp PySem.Operator.Add (Value.bytes _ _) (Value.bytes _ _)) _ _ _); (refine badd (by (try simp only [List.length_append, List.length_cons, List.length_nil]); omega) ?_; intro t'z k'z)) | with_reducible ((with_reducible show wpAny _ _ (binaryOp PySem.Operator.Add (Value.str _ _) (Value.str _ _)) _ _ _); (refine sadd (by with_reducible first | exact ofS0 | exact ofS9 | exact ofS32 | exact ofSae | exact rfl) (by with_reducible first | exact ofS0 | exact ofS9 | exact ofS32 | exact ofSae | exact rfl) (by (try simp only [List.length_append, List.length_cons, List.length_nil]); omega) ?_; intro t'z k'z)) | ((with_reducible show wpAny _ _ (call (Value.ref 330) _) _ _ _); refine' useTake ?kF ?kN ?kUh9 ?kX ?kT ?kSh9 ?kSBh9 ?kih9 ?kzh9 ?kph9 ?kmh9 ?kh ?kd ?ku ?_; (case kF => k_asm); (case kN => k_asm); (case kUh9 => k_updF); (case kX => k_asm); (case kT => k_asm); (case kSh9 => assumption); (case kSBh9 => assumption); (case kih9 => assumption); (case kzh9 => assumption); (case kph9 => assumption); (case kmh9 => (first | decide | omega)); (case kh => exact rfl); (case kd => (try dsimp only); omega); (case ku => (try dsimp only); omega); intro r t'z p'z q'z t1'z t2'z n'z h'z tk'z F'z N'z hr1 hr2 hp'z) | ((with_reducible show wpAny _ _ (call (Value.ref 337) _) _ _ _); refine' useV (fun b => c_wide (by assumption) (by assumption) b) ?kF ?kN ?kX ?kT ?kh ?kd ?ku ?_; walk_at "ARGS"; intro t'z h'z tk'z F'z N'z) | with_reducible ((with_reducible show wpAny _ _ (call (Value.ref 342) _) _ _ _); refine' useV (fun b => c_small (by assumption) (by assumption) b) ?kF ?kN ?kX ?kT ?kh ?kd ?ku ?_; walk_at "ARGS"; intro t'z h'z tk'z F'z N'z) | with_reducible ((with_reducible show wpAny _ _ (call (Value.ref 81) _) _ _ _); refine' useV (fun b => c_cname b) ?kF ?kN ?kX ?kT ?kh ?kd ?ku ?_; walk_at "ARGS"; intro t'z h'z tk'z F'z N'z) | with_reducible ((with_reducible show wpAny _ _ (newTuple _) _ _ _); (k_dflt (refine' kup_newTuple ?Fh9 ?Nh9 ?_ ?zh9; (case Fh9 => k_asm); (case Nh9 => k_asm); (case zh9 => kmk_size)); intro D'z h'z F'z N'z l1zz; (try k_lt l1zz); (try k_sweep))) | with_reducible ((with_reducible show wpAny _ _ (subscriptTail _ (Expr.Slice _ _ none _) (Value.bytes (List.toArray _) _) (Value.ref _)) _ _ _); (with_reducible rename Fr _ _ _ _ => F'z); (with_reducible rename News _ _ _ _ => N'z); (refine bcut (s := ⟨_, _, _, _, _⟩) F'z N'z (by constructor) (by constructor) (by first | assumption | omega) (by first | assumption | exact rfl) ?_); intro _ _ _ _ _) | with_reducible ((with_reducible show wpAny _ _ (exec (PySem.Stmt.If (PySem.Expr.Compare _ _ _ _) (_ :: _) [] _) _) _ _ _); ((rename Mk 8 => mk'z); refine Stop.mk ?_)) | with_reducible ((with_reducible show wpAny _ _ (eval (PySem.Expr.Name _ _) _) _ _ _); (k_dflt (first | (refine' nameX_L ?Fh9 ?vh9 ?_ ?ah9 ?bh9; (case Fh9 => k_asm); (case ah9 => rfl); (case bh9 => rfl); (case vh9 => rfl); k_whole) | (refine' nameX_K ?Fh9 ?Xh9 ?Th9 ?eh9 ?_ ?ah9 ?bh9; (case Fh9 => k_asm); (case Xh9 => k_asm); (case Th9 => k_asm); (case ah9 => rfl); (case bh9 => rfl); (case eh9 => k_is); k_whole) | (refine' nameX_B ?Fh9 ?Xh9 ?Th9 ?eh9 ?vh9 ?nh9 ?_ ?ah9 ?bh9; (case Fh9 => k_asm); (case Xh9 => k_asm); (case Th9 => k_asm); (case ah9 => rfl); (case bh9 => rfl); (case eh9 => k_is); (case vh9 => boot_fast); (case nh9 => decide); k_whole)))) | with_reducible ((with_reducible show wpAny _ _ (spliced _) _ _ _); (k_dflt (first | refine args_cons ?_ | (refine args_nil ?_; (try simp only [List.cons_append, List.nil_append]))))) | with_reducible ((with_reducible show wpAny _ _ (subscriptTail _ _ (Value.bytes (List.toArray _) _) (Value.int _ _)) _ _ _); (refine item_at (by omega) (by omega) (by omega) (by assumption) ?_)) | with_reducible ((with_reducible show wpAny _ _ (exec (PySem.Stmt.For _ (PySem.Expr.Call _ _ _ _) _ _ _) _) _ _ _); ((rename Mk 3 => mk'z); refine Stop.mk ?_)) | with_reducible ((with_reducible show wpAny _ _ (eval (PySem.Expr.ListComp _ _ _ _) _) _ _ _); ((rename Mk 1 => mk'z); refine Stop.mk ?_)) | walk1); (try dsimp only); (try ((with_reducible show wpAny _ _ _ _ _ ⟨_, _, _, _ + _, _⟩); refine anyToks ?_; intro _)); (repeat ((first | with_reducible rename (_ < _ ∧ _) => hhzz | with_reducible rename (_ ≠ _ ∧ _) => hhzz | with_reducible rename ((_ ≠ _ ∧ _) ∧ _) => hhzz); have := hhzz.1; have := hhzz.2; clear hhzz))) | (dsimp only; walk1) | (leave1; (try dsimp only)) | fail "no step"))
  rename Fr _ _ _ _ => F2
  rename News _ _ _ _ => N2
  refine Stop.out ⟨_, _, _, _, _, _, _, _, _, LfJ B S nm, rfl, (by assumption), small_one (by omega) (by omega) (by omega) (by omega), rangeSize_nat _ _, F2, cb_drop N2 (fun p hp => .tail _ hp), ⟨_, _, _, _, _, _, _, _, _, _, .zero, rfl, rfl, rfl, by rw [← ofS0]; rfl, by assumption, rfl⟩, ?_, ?_⟩
  · intro i ti I oI h tk m news hin hJ F N off
    clear F2 N2
    obtain ⟨raw, row, p, q, t1, t2, n, tn, tr, tw, hR, hm1, hm2, hm3, hm4, hp, rfl⟩ := hJ
    replace F := frSet4 F hm1 hm2 hm3 hm4
    have hi3 : i ≤ 3 := by omega
    obtain ⟨hr1, hr2⟩ := hR.len2 hi3
    have off' := off
    simp only [LCg.Off1, and_true] at off
    ((try dsimp only); (try k_fold); repeat' (first | (k_unfold; (try dsimp only)) | ((first | with_reducible ((with_reducible show wpAny _ _ (call (Value.ref 159) _) _ _ _); refine' useField ?kF ?kN ?kX ?kT ?kh ?kd ?ku ?_; (case kF => k_asm); (case kN => k_asm); (case kX => k_asm); (case kT => k_asm); (case kh => exact rfl); (case kd => (try dsimp only); omega); (case ku => (try dsimp only); omega); intro x'z dx'z k1'z k2'z t1'z t2'z n'z h'z tk'z F'z N'z ox'z odx'z hxd'z; (try (simp only [LCg.Off1, and_true] at ox'z)); (try (simp only [LCg.Off1, and_true] at odx'z))) | ((with_reducible show wpAny _ _ (call (Value.ref 330) _) _ _ _); refine' useTake ?kF ?kN ?kUh9 ?kX ?kT ?kSh9 ?kSBh9 ?kih9 ?kzh9 ?kph9 ?kmh9 ?kh ?kd ?ku ?_; (case kF => k_asm); (case kN => k_asm); (case kUh9 => k_updF); (case kX => k_asm); (case kT => k_asm); (case kSh9 => exact isList_up (by assumption) (Fr.keep (by k_asm))); (case kSBh9 => assumption); (case kih9 => assumption); (case kzh9 => assumption); (case kph9 => assumption); (case kmh9 => (first | decide | omega)); (case kh => exact rfl); (case kd => (try dsimp only); omega); (case ku => (try dsimp only); omega); intro r t'z p'z q'z t1'z t2'z n'z h'z tk'z F'z N'z hr1 hr2 hp'z) | with_reducible ((with_reducible show wpAny _ _ (subscriptTail (Expr.Tuple _ _ _) _ (Value.ref _) (Value.int _ _)) _ _ _); k_dflt (refine pick_gap (by k_asm) (by k_mem) (by assumption) (by assumption) ?_); intro gapzz tgzz hgzz; have hglzz := gap_len hgzz) | with_reducible ((with_reducible show wpAny _ _ (subscriptTail _ _ (Value.ref 323) (Value.int _ _)) _ _ _); refine pick_word (by k_asm) (by k_asm) (by assumption) (by assumption) ?_; intro wdzz twzz hwdzz; have hwlzz := (word_len hwdzz).1; have hwazz := word_alph hwdzz; have hwl2zz := wideL_len wdzz; have hwl3zz : wdzz.length ≤ 100000 := Nat.le_trans hwlzz (by decide)) | with_reducible ((with_reducible show wpAny _ _ (subscriptTail _ _ (Value.ref 322) (Value.int _ _)) _ _ _); refine pick_name (by k_asm) (by k_asm) (by assumption) (by assumption) ?_; intro nmzz tnzz hnmzz; have hnlzz := name_len hnmzz) | with_reducible ((with_reducible show wpAny _ _ (binaryOp PySem.Operator.Add (Value.bytes _ _) (Value.bytes _ _)) _ _ _); (refine badd (by (try simp only [List.length_append, List.length_cons, List.length_nil]); omega) ?_; intro t'z k'z)) | with_reducible ((with_reducible show wpAny _ _ (binaryOp PySem.Operator.Add (Value.str _ _) (Value.str _ _)) _ _ _); (refine sadd (by with_reducible first | exact ofS0 | exact ofS9 | exact ofS32 | exact ofSae | exact rfl) (by with_reducible first | exact ofS0 | exact ofS9 | exact ofS32 | exact ofSae | exact rfl) (by (try simp only [List.length_append, List.length_cons, List.length_nil]); omega) ?_; intro t'z k'z)) | ((with_reducible show wpAny _ _ (call (Value.ref 330) _) _ _ _); refine' useTake ?kF ?kN ?kUh9 ?kX ?kT ?kSh9 ?kSBh9 ?kih9 ?kzh9 ?kph9 ?kmh9 ?kh ?kd ?ku ?_; (case kF => k_asm); (case kN => k_asm); (case kUh9 => k_updF); (case kX => k_asm); (case kT => k_asm); (case kSh9 => assumption); (case kSBh9 => assumption); (case kih9 => assumption); (case kzh9 => assumption); (case kph9 => assumption); (case kmh9 => (first | decide | omega)); (case kh => exact rfl); (case kd => (try dsimp only); omega); (case ku => (try dsimp only); omega); intro r t'z p'z q'z t1'z t2'z n'z h'z tk'z F'z N'z hr1 hr2 hp'z) | ((with_reducible show wpAny _ _ (call (Value.ref 337) _) _ _ _); refine' useV (fun b => c_wide (by assumption) (by assumption) b) ?kF ?kN ?kX ?kT ?kh ?kd ?ku ?_; walk_at "ARGS"; intro t'z h'z tk'z F'z N'z) | with_reducible ((with_reducible show wpAny _ _ (call (Value.ref 342) _) _ _ _); refine' useV (fun b => c_small (by assumption) (by assumption) b) ?kF ?kN ?kX ?kT ?kh ?kd ?ku ?_; walk_at "ARGS"; intro t'z h'z tk'z F'z N'z) | with_reducible ((with_reducible show wpAny _ _ (call (Value.ref 81) _) _ _ _); refine' useV (fun b => c_cname b) ?kF ?kN ?kX ?kT ?kh ?kd ?ku ?_; walk_at "ARGS"; intro t'z h'z tk'z F'z N'z) | with_reducible ((with_reducible show wpAny _ _ (newTuple _) _ _ _); (k_dflt (refine' kup_newTuple ?Fh9 ?Nh9 ?_ ?zh9; (case Fh9 => k_asm); (case Nh9 => k_asm); (case zh9 => kmk_size)); intro D'z h'z F'z N'z l1zz; (try k_lt l1zz); (try k_sweep))) | with_reducible ((with_reducible show wpAny _ _ (subscriptTail _ (Expr.Slice _ _ none _) (Value.bytes (List.toArray _) _) (Value.ref _)) _ _ _); (with_reducible rename Fr _ _ _ _ => F'z); (with_reducible rename News _ _ _ _ => N'z); (refine bcut (s := ⟨_, _, _, _, _⟩) F'z N'z (by constructor) (by constructor) (by first | assumption | omega) (by first | assumption | exact rfl) ?_); intro _ _ _ _ _) | with_reducible ((with_reducible show wpAny _ _ (exec (PySem.Stmt.If (PySem.Expr.Compare _ _ _ _) (_ :: _) [] _) _) _ _ _); ((rename Mk 8 => mk'z); refine Stop.mk ?_)) | with_reducible ((with_reducible show wpAny _ _ (eval (PySem.Expr.Name _ _) _) _ _ _); (k_dflt (first | (refine' nameX_L ?Fh9 ?vh9 ?_ ?ah9 ?bh9; (case Fh9 => k_asm); (case ah9 => rfl); (case bh9 => rfl); (case vh9 => rfl); k_whole) | (refine' nameX_K ?Fh9 ?Xh9 ?Th9 ?eh9 ?_ ?ah9 ?bh9; (case Fh9 => k_asm); (case Xh9 => k_asm); (case Th9 => k_asm); (case ah9 => rfl); (case bh9 => rfl); (case eh9 => k_is); k_whole) | (refine' nameX_B ?Fh9 ?Xh9 ?Th9 ?eh9 ?vh9 ?nh9 ?_ ?ah9 ?bh9; (case Fh9 => k_asm); (case Xh9 => k_asm); (case Th9 => k_asm); (case ah9 => rfl); (case bh9 => rfl); (case eh9 => k_is); (case vh9 => boot_fast); (case nh9 => decide); k_whole)))) | with_reducible ((with_reducible show wpAny _ _ (spliced _) _ _ _); (k_dflt (first | refine args_cons ?_ | (refine args_nil ?_; (try simp only [List.cons_append, List.nil_append]))))) | with_reducible ((with_reducible show wpAny _ _ (subscriptTail _ _ (Value.bytes (List.toArray _) _) (Value.int _ _)) _ _ _); (refine item_at (by omega) (by omega) (by omega) (by assumption) ?_)) | with_reducible ((with_reducible show wpAny _ _ (exec (PySem.Stmt.For _ (PySem.Expr.Call _ _ _ _) _ _ _) _) _ _ _); ((rename Mk 3 => mk'z); refine Stop.mk ?_)) | with_reducible ((with_reducible show wpAny _ _ (eval (PySem.Expr.ListComp _ _ _ _) _) _ _ _); ((rename Mk 1 => mk'z); refine Stop.mk ?_)) | walk1); (try dsimp only); (try ((with_reducible show wpAny _ _ _ _ _ ⟨_, _, _, _ + _, _⟩); refine anyToks ?_; intro _)); (repeat ((first | with_reducible rename (_ < _ ∧ _) => hhzz | with_reducible rename (_ ≠ _ ∧ _) => hhzz | with_reducible rename ((_ ≠ _ ∧ _) ∧ _) => hhzz); have := hhzz.1; have := hhzz.2; clear hhzz))) | (dsimp only; walk1) | (leave1; (try dsimp only)) | fail "no step"))
    all_goals rename (_ ∈ lawWords) => hwd
    all_goals rename Fr _ _ _ _ => F3
    all_goals rename News _ _ _ _ => N3
    all_goals try (exfalso; omega)
    · refine ⟨_, _, _, [(_, _)], rfl, F3, cb_drop N3 (fun p hp => .tail _ hp), ⟨off, trivial⟩, _, _, _, _, _, _, _, _, _, _, ?_, rfl, rfl, rfl, rfl, by assumption, rfl⟩
      have hi0 : i = 0 := by omega
      subst hi0
      cases hR
      exact .one _ hwd
    · rename GapOf _ _ => hg
      refine ⟨_, _, _, [(_, _)], rfl, F3, cb_drop N3 (fun p hp => .tail _ (.tail _ hp)), ⟨off, trivial⟩, _, _, _, _, _, _, _, _, _, _, ?_, rfl, rfl, rfl, rfl, by assumption, rfl⟩
      obtain ⟨k, rfl⟩ : ∃ k, i = k + 1 := ⟨i - 1, by omega⟩
      refine .more _ _ _ hR hwd ?_
      rcases hg with ⟨_, h⟩ | ⟨h, _⟩
      · exact .inr (.inr ⟨h, rfl⟩)
      · exact absurd (by assumption) h
    · rename GapOf _ _ => hg
      refine ⟨_, _, _, [(_, _)], rfl, F3, cb_drop N3 (fun p hp => .tail _ (.tail _ hp)), ⟨off, trivial⟩, _, _, _, _, _, _, _, _, _, _, ?_, rfl, rfl, rfl, rfl, by assumption, rfl⟩
      obtain ⟨k, rfl⟩ : ∃ k, i = k + 1 := ⟨i - 1, by omega⟩
      refine .more _ _ _ hR hwd ?_
      rcases hg with ⟨h, _⟩ | ⟨_, h | h⟩
      · exact absurd h (by assumption)
      · exact .inl ⟨h, rfl⟩
      · exact .inr (.inl ⟨h, rfl⟩)
  · intro h tk m news hJ F N
    clear F2 N2
    obtain ⟨raw, row, p, q, t1, t2, n, tn, tr, tw, hR, hm1, hm2, hm3, hm4, hp, rfl⟩ := hJ
    replace F := frSet4 F hm1 hm2 hm3 hm4
    have hb1 := hR.b1
    have hb2 := hR.b2
    have hk3 : (4 : Int) = 4 := rfl
    obtain ⟨hr1, hr2⟩ := hR.len2 (by omega)
    have mk8 := Mk.on 8
    ((try dsimp only); (try k_fold); repeat' (first | (k_unfold; (try dsimp only)) | ((first | with_reducible ((with_reducible show wpAny _ _ (call (Value.ref 159) _) _ _ _); refine' useField ?kF ?kN ?kX ?kT ?kh ?kd ?ku ?_; (case kF => k_asm); (case kN => k_asm); (case kX => k_asm); (case kT => k_asm); (case kh => exact rfl); (case kd => (try dsimp only); omega); (case ku => (try dsimp only); omega); intro x'z dx'z k1'z k2'z t1'z t2'z n'z h'z tk'z F'z N'z ox'z odx'z hxd'z; (try (simp only [LCg.Off1, and_true] at ox'z)); (try (simp only [LCg.Off1, and_true] at odx'z))) | ((with_reducible show wpAny _ _ (call (Value.ref 330) _) _ _ _); refine' useTake ?kF ?kN ?kUh9 ?kX ?kT ?kSh9 ?kSBh9 ?kih9 ?kzh9 ?kph9 ?kmh9 ?kh ?kd ?ku ?_; (case kF => k_asm); (case kN => k_asm); (case kUh9 => k_updF); (case kX => k_asm); (case kT => k_asm); (case kSh9 => exact isList_up (by assumption) (Fr.keep (by k_asm))); (case kSBh9 => assumption); (case kih9 => assumption); (case kzh9 => assumption); (case kph9 => assumption); (case kmh9 => (first | decide | omega)); (case kh => exact rfl); (case kd => (try dsimp only); omega); (case ku => (try dsimp only); omega); intro r t'z p'z q'z t1'z t2'z n'z h'z tk'z F'z N'z hr1 hr2 hp'z) | with_reducible ((with_reducible show wpAny _ _ (subscriptTail (Expr.Tuple _ _ _) _ (Value.ref _) (Value.int _ _)) _ _ _); k_dflt (refine pick_gap (by k_asm) (by k_mem) (by assumption) (by assumption) ?_); intro gapzz tgzz hgzz; have hglzz := gap_len hgzz) | with_reducible ((with_reducible show wpAny _ _ (subscriptTail _ _ (Value.ref 323) (Value.int _ _)) _ _ _); refine pick_word (by k_asm) (by k_asm) (by assumption) (by assumption) ?_; intro wdzz twzz hwdzz; have hwlzz := (word_len hwdzz).1; have hwazz := word_alph hwdzz; have hwl2zz := wideL_len wdzz; have hwl3zz : wdzz.length ≤ 100000 := Nat.le_trans hwlzz (by decide)) | with_reducible ((with_reducible show wpAny _ _ (subscriptTail _ _ (Value.ref 322) (Value.int _ _)) _ _ _); refine pick_name (by k_asm) (by k_asm) (by assumption) (by assumption) ?_; intro nmzz tnzz hnmzz; have hnlzz := name_len hnmzz) | with_reducible ((with_reducible show wpAny _ _ (binaryOp PySem.Operator.Add (Value.bytes _ _) (Value.bytes _ _)) _ _ _); (refine badd (by (try simp only [List.length_append, List.length_cons, List.length_nil]); omega) ?_; intro t'z k'z)) | with_reducible ((with_reducible show wpAny _ _ (binaryOp PySem.Operator.Add (Value.str _ _) (Value.str _ _)) _ _ _); (refine sadd (by with_reducible first | exact ofS0 | exact ofS9 | exact ofS32 | exact ofSae | exact rfl) (by with_reducible first | exact ofS0 | exact ofS9 | exact ofS32 | exact ofSae | exact rfl) (by (try simp only [List.length_append, List.length_cons, List.length_nil]); omega) ?_; intro t'z k'z)) | ((with_reducible show wpAny _ _ (call (Value.ref 330) _) _ _ _); refine' useTake ?kF ?kN ?kUh9 ?kX ?kT ?kSh9 ?kSBh9 ?kih9 ?kzh9 ?kph9 ?kmh9 ?kh ?kd ?ku ?_; (case kF => k_asm); (case kN => k_asm); (case kUh9 => k_updF); (case kX => k_asm); (case kT => k_asm); (case kSh9 => assumption); (case kSBh9 => assumption); (case kih9 => assumption); (case kzh9 => assumption); (case kph9 => assumption); (case kmh9 => (first | decide | omega)); (case kh => exact rfl); (case kd => (try dsimp only); omega); (case ku => (try dsimp only); omega); intro r t'z p'z q'z t1'z t2'z n'z h'z tk'z F'z N'z hr1 hr2 hp'z) | ((with_reducible show wpAny _ _ (call (Value.ref 337) _) _ _ _); refine' useV (fun b => c_wide (by assumption) (by assumption) b) ?kF ?kN ?kX ?kT ?kh ?kd ?ku ?_; walk_at "ARGS"; intro t'z h'z tk'z F'z N'z) | with_reducible ((with_reducible show wpAny _ _ (call (Value.ref 342) _) _ _ _); refine' useV (fun b => c_small (by assumption) (by assumption) b) ?kF ?kN ?kX ?kT ?kh ?kd ?ku ?_; walk_at "ARGS"; intro t'z h'z tk'z F'z N'z) | with_reducible ((with_reducible show wpAny _ _ (call (Value.ref 81) _) _ _ _); refine' useV (fun b => c_cname b) ?kF ?kN ?kX ?kT ?kh ?kd ?ku ?_; walk_at "ARGS"; intro t'z h'z tk'z F'z N'z) | with_reducible ((with_reducible show wpAny _ _ (newTuple _) _ _ _); (k_dflt (refine' kup_newTuple ?Fh9 ?Nh9 ?_ ?zh9; (case Fh9 => k_asm); (case Nh9 => k_asm); (case zh9 => kmk_size)); intro D'z h'z F'z N'z l1zz; (try k_lt l1zz); (try k_sweep))) | with_reducible ((with_reducible show wpAny _ _ (subscriptTail _ (Expr.Slice _ _ none _) (Value.bytes (List.toArray _) _) (Value.ref _)) _ _ _); (with_reducible rename Fr _ _ _ _ => F'z); (with_reducible rename News _ _ _ _ => N'z); (refine bcut (s := ⟨_, _, _, _, _⟩) F'z N'z (by constructor) (by constructor) (by first | assumption | omega) (by first | assumption | exact rfl) ?_); intro _ _ _ _ _) | with_reducible ((with_reducible show wpAny _ _ (exec (PySem.Stmt.If (PySem.Expr.Compare _ _ _ _) (_ :: _) [] _) _) _ _ _); ((rename Mk 8 => mk'z); refine Stop.mk ?_)) | with_reducible ((with_reducible show wpAny _ _ (eval (PySem.Expr.Name _ _) _) _ _ _); (k_dflt (first | (refine' nameX_L ?Fh9 ?vh9 ?_ ?ah9 ?bh9; (case Fh9 => k_asm); (case ah9 => rfl); (case bh9 => rfl); (case vh9 => rfl); k_whole) | (refine' nameX_K ?Fh9 ?Xh9 ?Th9 ?eh9 ?_ ?ah9 ?bh9; (case Fh9 => k_asm); (case Xh9 => k_asm); (case Th9 => k_asm); (case ah9 => rfl); (case bh9 => rfl); (case eh9 => k_is); k_whole) | (refine' nameX_B ?Fh9 ?Xh9 ?Th9 ?eh9 ?vh9 ?nh9 ?_ ?ah9 ?bh9; (case Fh9 => k_asm); (case Xh9 => k_asm); (case Th9 => k_asm); (case ah9 => rfl); (case bh9 => rfl); (case eh9 => k_is); (case vh9 => boot_fast); (case nh9 => decide); k_whole)))) | with_reducible ((with_reducible show wpAny _ _ (spliced _) _ _ _); (k_dflt (first | refine args_cons ?_ | (refine args_nil ?_; (try simp only [List.cons_append, List.nil_append]))))) | with_reducible ((with_reducible show wpAny _ _ (subscriptTail _ _ (Value.bytes (List.toArray _) _) (Value.int _ _)) _ _ _); (refine item_at (by omega) (by omega) (by omega) (by assumption) ?_)) | with_reducible ((with_reducible show wpAny _ _ (exec (PySem.Stmt.For _ (PySem.Expr.Call _ _ _ _) _ _ _) _) _ _ _); ((rename Mk 3 => mk'z); refine Stop.mk ?_)) | with_reducible ((with_reducible show wpAny _ _ (eval (PySem.Expr.ListComp _ _ _ _) _) _ _ _); ((rename Mk 1 => mk'z); refine Stop.mk ?_)) | walk1); (try dsimp only); (try ((with_reducible show wpAny _ _ _ _ _ ⟨_, _, _, _ + _, _⟩); refine anyToks ?_; intro _)); (repeat ((first | with_reducible rename (_ < _ ∧ _) => hhzz | with_reducible rename (_ ≠ _ ∧ _) => hhzz | with_reducible rename ((_ ≠ _ ∧ _) ∧ _) => hhzz); have := hhzz.1; have := hhzz.2; clear hhzz))) | (dsimp only; walk1) | (leave1; (try dsimp only)) | fail "no step"))
    rename Mk 8 => mk8; clear mk8
    refine Stop.out (wpAny_mono (Q := FM (hideAll s.heap [B]) L s B S nm) (E := fun _ _ => False) ?_ ?_ (fun _ _ x => False.elim x))
    · ((try dsimp only); (try k_fold); repeat' (first | (k_unfold; (try dsimp only)) | ((first | with_reducible ((with_reducible show wpAny _ _ (call (Value.ref 159) _) _ _ _); refine' useField ?kF ?kN ?kX ?kT ?kh ?kd ?ku ?_; (case kF => k_asm); (case kN => k_asm); (case kX => k_asm); (case kT => k_asm); (case kh => exact rfl); (case kd => (try dsimp only); omega); (case ku => (try dsimp only); omega); intro x'z dx'z k1'z k2'z t1'z t2'z n'z h'z tk'z F'z N'z ox'z odx'z hxd'z; (try (simp only [LCg.Off1, and_true] at ox'z)); (try (simp only [LCg.Off1, and_true] at odx'z))) | ((with_reducible show wpAny _ _ (call (Value.ref 330) _) _ _ _); refine' useTake ?kF ?kN ?kUh9 ?kX ?kT ?kSh9 ?kSBh9 ?kih9 ?kzh9 ?kph9 ?kmh9 ?kh ?kd ?ku ?_; (case kF => k_asm); (case kN => k_asm); (case kUh9 => k_updF); (case kX => k_asm); (case kT => k_asm); (case kSh9 => exact isList_up (by assumption) (Fr.keep (by k_asm))); (case kSBh9 => assumption); (case kih9 => assumption); (case kzh9 => assumption); (case kph9 => assumption); (case kmh9 => (first | decide | omega)); (case kh => exact rfl); (case kd => (try dsimp only); omega); (case ku => (try dsimp only); omega); intro r t'z p'z q'z t1'z t2'z n'z h'z tk'z F'z N'z hr1 hr2 hp'z) | with_reducible ((with_reducible show wpAny _ _ (subscriptTail (Expr.Tuple _ _ _) _ (Value.ref _) (Value.int _ _)) _ _ _); k_dflt (refine pick_gap (by k_asm) (by k_mem) (by assumption) (by assumption) ?_); intro gapzz tgzz hgzz; have hglzz := gap_len hgzz) | with_reducible ((with_reducible show wpAny _ _ (subscriptTail _ _ (Value.ref 323) (Value.int _ _)) _ _ _); refine pick_word (by k_asm) (by k_asm) (by assumption) (by assumption) ?_; intro wdzz twzz hwdzz; have hwlzz := (word_len hwdzz).1; have hwazz := word_alph hwdzz; have hwl2zz := wideL_len wdzz; have hwl3zz : wdzz.length ≤ 100000 := Nat.le_trans hwlzz (by decide)) | with_reducible ((with_reducible show wpAny _ _ (subscriptTail _ _ (Value.ref 322) (Value.int _ _)) _ _ _); refine pick_name (by k_asm) (by k_asm) (by assumption) (by assumption) ?_; intro nmzz tnzz hnmzz; have hnlzz := name_len hnmzz) | with_reducible ((with_reducible show wpAny _ _ (binaryOp PySem.Operator.Add (Value.bytes _ _) (Value.bytes _ _)) _ _ _); (refine badd (by (try simp only [List.length_append, List.length_cons, List.length_nil]); omega) ?_; intro t'z k'z)) | with_reducible ((with_reducible show wpAny _ _ (binaryOp PySem.Operator.Add (Value.str _ _) (Value.str _ _)) _ _ _); (refine sadd (by with_reducible first | exact ofS0 | exact ofS9 | exact ofS32 | exact ofSae | exact rfl) (by with_reducible first | exact ofS0 | exact ofS9 | exact ofS32 | exact ofSae | exact rfl) (by (try simp only [List.length_append, List.length_cons, List.length_nil]); omega) ?_; intro t'z k'z)) | ((with_reducible show wpAny _ _ (call (Value.ref 330) _) _ _ _); refine' useTake ?kF ?kN ?kUh9 ?kX ?kT ?kSh9 ?kSBh9 ?kih9 ?kzh9 ?kph9 ?kmh9 ?kh ?kd ?ku ?_; (case kF => k_asm); (case kN => k_asm); (case kUh9 => k_updF); (case kX => k_asm); (case kT => k_asm); (case kSh9 => assumption); (case kSBh9 => assumption); (case kih9 => assumption); (case kzh9 => assumption); (case kph9 => assumption); (case kmh9 => (first | decide | omega)); (case kh => exact rfl); (case kd => (try dsimp only); omega); (case ku => (try dsimp only); omega); intro r t'z p'z q'z t1'z t2'z n'z h'z tk'z F'z N'z hr1 hr2 hp'z) | ((with_reducible show wpAny _ _ (call (Value.ref 337) _) _ _ _); refine' useV (fun b => c_wide (by assumption) (by assumption) b) ?kF ?kN ?kX ?kT ?kh ?kd ?ku ?_; walk_at "ARGS"; intro t'z h'z tk'z F'z N'z) | with_reducible ((with_reducible show wpAny _ _ (call (Value.ref 342) _) _ _ _); refine' useV (fun b => c_small (by assumption) (by assumption) b) ?kF ?kN ?kX ?kT ?kh ?kd ?ku ?_; walk_at "ARGS"; intro t'z h'z tk'z F'z N'z) | with_reducible ((with_reducible show wpAny _ _ (call (Value.ref 81) _) _ _ _); refine' useV (fun b => c_cname b) ?kF ?kN ?kX ?kT ?kh ?kd ?ku ?_; walk_at "ARGS"; intro t'z h'z tk'z F'z N'z) | with_reducible ((with_reducible show wpAny _ _ (newTuple _) _ _ _); (k_dflt (refine' kup_newTuple ?Fh9 ?Nh9 ?_ ?zh9; (case Fh9 => k_asm); (case Nh9 => k_asm); (case zh9 => kmk_size)); intro D'z h'z F'z N'z l1zz; (try k_lt l1zz); (try k_sweep))) | with_reducible ((with_reducible show wpAny _ _ (subscriptTail _ (Expr.Slice _ _ none _) (Value.bytes (List.toArray _) _) (Value.ref _)) _ _ _); (with_reducible rename Fr _ _ _ _ => F'z); (with_reducible rename News _ _ _ _ => N'z); (refine bcut (s := ⟨_, _, _, _, _⟩) F'z N'z (by constructor) (by constructor) (by first | assumption | omega) (by first | assumption | exact rfl) ?_); intro _ _ _ _ _) | with_reducible ((with_reducible show wpAny _ _ (exec (PySem.Stmt.If (PySem.Expr.Compare _ _ _ _) (_ :: _) [] _) _) _ _ _); ((rename Mk 8 => mk'z); refine Stop.mk ?_)) | with_reducible ((with_reducible show wpAny _ _ (eval (PySem.Expr.Name _ _) _) _ _ _); (k_dflt (first | (refine' nameX_L ?Fh9 ?vh9 ?_ ?ah9 ?bh9; (case Fh9 => k_asm); (case ah9 => rfl); (case bh9 => rfl); (case vh9 => rfl); k_whole) | (refine' nameX_K ?Fh9 ?Xh9 ?Th9 ?eh9 ?_ ?ah9 ?bh9; (case Fh9 => k_asm); (case Xh9 => k_asm); (case Th9 => k_asm); (case ah9 => rfl); (case bh9 => rfl); (case eh9 => k_is); k_whole) | (refine' nameX_B ?Fh9 ?Xh9 ?Th9 ?eh9 ?vh9 ?nh9 ?_ ?ah9 ?bh9; (case Fh9 => k_asm); (case Xh9 => k_asm); (case Th9 => k_asm); (case ah9 => rfl); (case bh9 => rfl); (case eh9 => k_is); (case vh9 => boot_fast); (case nh9 => decide); k_whole)))) | with_reducible ((with_reducible show wpAny _ _ (spliced _) _ _ _); (k_dflt (first | refine args_cons ?_ | (refine args_nil ?_; (try simp only [List.cons_append, List.nil_append]))))) | with_reducible ((with_reducible show wpAny _ _ (subscriptTail _ _ (Value.bytes (List.toArray _) _) (Value.int _ _)) _ _ _); (refine item_at (by omega) (by omega) (by omega) (by assumption) ?_)) | with_reducible ((with_reducible show wpAny _ _ (exec (PySem.Stmt.For _ (PySem.Expr.Call _ _ _ _) _ _ _) _) _ _ _); ((rename Mk 3 => mk'z); refine Stop.mk ?_)) | with_reducible ((with_reducible show wpAny _ _ (eval (PySem.Expr.ListComp _ _ _ _) _) _ _ _); ((rename Mk 1 => mk'z); refine Stop.mk ?_)) | walk1); (try dsimp only); (try ((with_reducible show wpAny _ _ _ _ _ ⟨_, _, _, _ + _, _⟩); refine anyToks ?_; intro _)); (repeat ((first | with_reducible rename (_ < _ ∧ _) => hhzz | with_reducible rename (_ ≠ _ ∧ _) => hhzz | with_reducible rename ((_ ≠ _ ∧ _) ∧ _) => hhzz); have := hhzz.1; have := hhzz.2; clear hhzz))) | (dsimp only; walk1) | (leave1; (try dsimp only)) | fail "no step"))
      all_goals try (exfalso; exact Bool.noConfusion ((Eq.symm (by assumption : (raw == [32]) = true)).trans ((hb1.trans hb2.symm).trans (by assumption : (st row == Str.ofString "") = false))))
      all_goals try (exfalso; exact Bool.noConfusion ((Eq.symm (by assumption : (raw == [32]) = false)).trans ((hb1.trans hb2.symm).trans (by assumption : (st row == Str.ofString "") = true))))
      all_goals rename Fr _ _ _ _ => F4
      all_goals rename News _ _ _ _ => N4
      · exact ⟨rfl, _, _, _, _, _, _, _, _, _, _, _, _, _, ⟨_, _, _, by omega, hR, .inr (.inl ⟨of_decide_eq_true (hb1.symm.trans (by assumption)), rfl, rfl⟩)⟩, rfl, rfl, rfl, rfl, by assumption, rfl, F4, N4⟩
      · exact ⟨rfl, _, _, _, _, _, _, _, _, _, _, _, _, _, ⟨_, _, _, by omega, hR, .inr (.inr ⟨Nat.pos_of_ne_zero (of_decide_eq_false (hb1.symm.trans (by assumption))), rfl, rfl⟩)⟩, rfl, rfl, rfl, rfl, by assumption, rfl, F4, N4⟩
      · exact ⟨rfl, _, _, _, _, _, _, _, _, _, _, _, _, _, ⟨_, _, _, by omega, hR, .inl ⟨rfl, rfl⟩⟩, rfl, rfl, rfl, rfl, by assumption, rfl, F4, N4⟩
    rintro f s' ⟨rfl, raw', row', p', q', t1', t2', n', tn', tr', tw', h', tk', m', hfs, hm1, hm2, hm3, hm4, hp', rfl, F4, N4⟩
    clear hb1 hb2 hr1 hr2 hR
    replace F4 := frSet4 F4 hm1 hm2 hm3 hm4
    have hnl' := name_len hnm
    have mk1 := Mk.on 1
    ((try dsimp only); (try k_fold); repeat' (first | (k_unfold; (try dsimp only)) | ((first | with_reducible ((with_reducible show wpAny _ _ (call (Value.ref 159) _) _ _ _); refine' useField ?kF ?kN ?kX ?kT ?kh ?kd ?ku ?_; (case kF => k_asm); (case kN => k_asm); (case kX => k_asm); (case kT => k_asm); (case kh => exact rfl); (case kd => (try dsimp only); omega); (case ku => (try dsimp only); omega); intro x'z dx'z k1'z k2'z t1'z t2'z n'z h'z tk'z F'z N'z ox'z odx'z hxd'z; (try (simp only [LCg.Off1, and_true] at ox'z)); (try (simp only [LCg.Off1, and_true] at odx'z))) | ((with_reducible show wpAny _ _ (call (Value.ref 330) _) _ _ _); refine' useTake ?kF ?kN ?kUh9 ?kX ?kT ?kSh9 ?kSBh9 ?kih9 ?kzh9 ?kph9 ?kmh9 ?kh ?kd ?ku ?_; (case kF => k_asm); (case kN => k_asm); (case kUh9 => k_updF); (case kX => k_asm); (case kT => k_asm); (case kSh9 => exact isList_up (by assumption) (Fr.keep (by k_asm))); (case kSBh9 => assumption); (case kih9 => assumption); (case kzh9 => assumption); (case kph9 => assumption); (case kmh9 => (first | decide | omega)); (case kh => exact rfl); (case kd => (try dsimp only); omega); (case ku => (try dsimp only); omega); intro r t'z p'z q'z t1'z t2'z n'z h'z tk'z F'z N'z hr1 hr2 hp'z) | with_reducible ((with_reducible show wpAny _ _ (subscriptTail (Expr.Tuple _ _ _) _ (Value.ref _) (Value.int _ _)) _ _ _); k_dflt (refine pick_gap (by k_asm) (by k_mem) (by assumption) (by assumption) ?_); intro gapzz tgzz hgzz; have hglzz := gap_len hgzz) | with_reducible ((with_reducible show wpAny _ _ (subscriptTail _ _ (Value.ref 323) (Value.int _ _)) _ _ _); refine pick_word (by k_asm) (by k_asm) (by assumption) (by assumption) ?_; intro wdzz twzz hwdzz; have hwlzz := (word_len hwdzz).1; have hwazz := word_alph hwdzz; have hwl2zz := wideL_len wdzz; have hwl3zz : wdzz.length ≤ 100000 := Nat.le_trans hwlzz (by decide)) | with_reducible ((with_reducible show wpAny _ _ (subscriptTail _ _ (Value.ref 322) (Value.int _ _)) _ _ _); refine pick_name (by k_asm) (by k_asm) (by assumption) (by assumption) ?_; intro nmzz tnzz hnmzz; have hnlzz := name_len hnmzz) | with_reducible ((with_reducible show wpAny _ _ (binaryOp PySem.Operator.Add (Value.bytes _ _) (Value.bytes _ _)) _ _ _); (refine badd (by (try simp only [List.length_append, List.length_cons, List.length_nil]); omega) ?_; intro t'z k'z)) | with_reducible ((with_reducible show wpAny _ _ (binaryOp PySem.Operator.Add (Value.str _ _) (Value.str _ _)) _ _ _); (refine sadd (by with_reducible first | exact ofS0 | exact ofS9 | exact ofS32 | exact ofSae | exact rfl) (by with_reducible first | exact ofS0 | exact ofS9 | exact ofS32 | exact ofSae | exact rfl) (by (try simp only [List.length_append, List.length_cons, List.length_nil]); omega) ?_; intro t'z k'z)) | ((with_reducible show wpAny _ _ (call (Value.ref 330) _) _ _ _); refine' useTake ?kF ?kN ?kUh9 ?kX ?kT ?kSh9 ?kSBh9 ?kih9 ?kzh9 ?kph9 ?kmh9 ?kh ?kd ?ku ?_; (case kF => k_asm); (case kN => k_asm); (case kUh9 => k_updF); (case kX => k_asm); (case kT => k_asm); (case kSh9 => assumption); (case kSBh9 => assumption); (case kih9 => assumption); (case kzh9 => assumption); (case kph9 => assumption); (case kmh9 => (first | decide | omega)); (case kh => exact rfl); (case kd => (try dsimp only); omega); (case ku => (try dsimp only); omega); intro r t'z p'z q'z t1'z t2'z n'z h'z tk'z F'z N'z hr1 hr2 hp'z) | ((with_reducible show wpAny _ _ (call (Value.ref 337) _) _ _ _); refine' useV (fun b => c_wide (by assumption) (by assumption) b) ?kF ?kN ?kX ?kT ?kh ?kd ?ku ?_; walk_at "ARGS"; intro t'z h'z tk'z F'z N'z) | with_reducible ((with_reducible show wpAny _ _ (call (Value.ref 342) _) _ _ _); refine' useV (fun b => c_small (by assumption) (by assumption) b) ?kF ?kN ?kX ?kT ?kh ?kd ?ku ?_; walk_at "ARGS"; intro t'z h'z tk'z F'z N'z) | with_reducible ((with_reducible show wpAny _ _ (call (Value.ref 81) _) _ _ _); refine' useV (fun b => c_cname b) ?kF ?kN ?kX ?kT ?kh ?kd ?ku ?_; walk_at "ARGS"; intro t'z h'z tk'z F'z N'z) | with_reducible ((with_reducible show wpAny _ _ (newTuple _) _ _ _); (k_dflt (refine' kup_newTuple ?Fh9 ?Nh9 ?_ ?zh9; (case Fh9 => k_asm); (case Nh9 => k_asm); (case zh9 => kmk_size)); intro D'z h'z F'z N'z l1zz; (try k_lt l1zz); (try k_sweep))) | with_reducible ((with_reducible show wpAny _ _ (subscriptTail _ (Expr.Slice _ _ none _) (Value.bytes (List.toArray _) _) (Value.ref _)) _ _ _); (with_reducible rename Fr _ _ _ _ => F'z); (with_reducible rename News _ _ _ _ => N'z); (refine bcut (s := ⟨_, _, _, _, _⟩) F'z N'z (by constructor) (by constructor) (by first | assumption | omega) (by first | assumption | exact rfl) ?_); intro _ _ _ _ _) | with_reducible ((with_reducible show wpAny _ _ (exec (PySem.Stmt.If (PySem.Expr.Compare _ _ _ _) (_ :: _) [] _) _) _ _ _); ((rename Mk 8 => mk'z); refine Stop.mk ?_)) | with_reducible ((with_reducible show wpAny _ _ (eval (PySem.Expr.Name _ _) _) _ _ _); (k_dflt (first | (refine' nameX_L ?Fh9 ?vh9 ?_ ?ah9 ?bh9; (case Fh9 => k_asm); (case ah9 => rfl); (case bh9 => rfl); (case vh9 => rfl); k_whole) | (refine' nameX_K ?Fh9 ?Xh9 ?Th9 ?eh9 ?_ ?ah9 ?bh9; (case Fh9 => k_asm); (case Xh9 => k_asm); (case Th9 => k_asm); (case ah9 => rfl); (case bh9 => rfl); (case eh9 => k_is); k_whole) | (refine' nameX_B ?Fh9 ?Xh9 ?Th9 ?eh9 ?vh9 ?nh9 ?_ ?ah9 ?bh9; (case Fh9 => k_asm); (case Xh9 => k_asm); (case Th9 => k_asm); (case ah9 => rfl); (case bh9 => rfl); (case eh9 => k_is); (case vh9 => boot_fast); (case nh9 => decide); k_whole)))) | with_reducible ((with_reducible show wpAny _ _ (spliced _) _ _ _); (k_dflt (first | refine args_cons ?_ | (refine args_nil ?_; (try simp only [List.cons_append, List.nil_append]))))) | with_reducible ((with_reducible show wpAny _ _ (subscriptTail _ _ (Value.bytes (List.toArray _) _) (Value.int _ _)) _ _ _); (refine item_at (by omega) (by omega) (by omega) (by assumption) ?_)) | with_reducible ((with_reducible show wpAny _ _ (exec (PySem.Stmt.For _ (PySem.Expr.Call _ _ _ _) _ _ _) _) _ _ _); ((rename Mk 3 => mk'z); refine Stop.mk ?_)) | with_reducible ((with_reducible show wpAny _ _ (eval (PySem.Expr.ListComp _ _ _ _) _) _ _ _); ((rename Mk 1 => mk'z); refine Stop.mk ?_)) | walk1); (try dsimp only); (try ((with_reducible show wpAny _ _ _ _ _ ⟨_, _, _, _ + _, _⟩); refine anyToks ?_; intro _)); (repeat ((first | with_reducible rename (_ < _ ∧ _) => hhzz | with_reducible rename (_ ≠ _ ∧ _) => hhzz | with_reducible rename ((_ ≠ _ ∧ _) ∧ _) => hhzz); have := hhzz.1; have := hhzz.2; clear hhzz))) | (dsimp only; walk1) | (leave1; (try dsimp only)) | fail "no step"))
    refine Stop.out ?_
    rename Fr _ _ _ _ => F4
    rename News _ _ _ _ => N4
    refine lc_bytes nm (fun c v => ∃ t, v = .str (st [c.toNat]) t) (by with_unfolding_all rfl) (by decide) rfl (by decide) rfl rfl ?_
    refine ld F4 rfl ?_
    refine Stop.out ⟨_, rfl, by rw [sizeLine_eq]; omega, ?_, ?_⟩
    · intro C a u s₃ m₃ E' ha hC hn hm hk
      have b₃ : Bs w vw lo mean mg mb s₃.heap := Bs.keeps ⟨X, T⟩ (Kp.trans F4.keep hk)
      refine Ev.keeps (H := s₃.heap) (P := fun v => ∃ t, v = .str (st [a.toNat]) t) ?_ (Kp.refl _)
      refine Ev.callB (Ev.blt b₃ (by k_is) (by boot_fast) rfl rfl rfl rfl) (Ev.loc hn hm rfl rfl) ?_
      rintro v rfl
      have := a.toNat_lt
      exact (Ev.chr (by omega) (by omega)).imp fun v h => by simpa using h
    intro D h' tk' nn ys hk hD hobj hpp
    have F5 := F4.keeps hk
    have N5 := addNew F4 N4 hk hD hobj
    clear F4 N4
    ((try dsimp only); (try k_fold); repeat' (first | (k_unfold; (try dsimp only)) | ((first | with_reducible ((with_reducible show wpAny _ _ (call (Value.ref 159) _) _ _ _); refine' useField ?kF ?kN ?kX ?kT ?kh ?kd ?ku ?_; (case kF => k_asm); (case kN => k_asm); (case kX => k_asm); (case kT => k_asm); (case kh => exact rfl); (case kd => (try dsimp only); omega); (case ku => (try dsimp only); omega); intro x'z dx'z k1'z k2'z t1'z t2'z n'z h'z tk'z F'z N'z ox'z odx'z hxd'z; (try (simp only [LCg.Off1, and_true] at ox'z)); (try (simp only [LCg.Off1, and_true] at odx'z))) | ((with_reducible show wpAny _ _ (call (Value.ref 330) _) _ _ _); refine' useTake ?kF ?kN ?kUh9 ?kX ?kT ?kSh9 ?kSBh9 ?kih9 ?kzh9 ?kph9 ?kmh9 ?kh ?kd ?ku ?_; (case kF => k_asm); (case kN => k_asm); (case kUh9 => k_updF); (case kX => k_asm); (case kT => k_asm); (case kSh9 => exact isList_up (by assumption) (Fr.keep (by k_asm))); (case kSBh9 => assumption); (case kih9 => assumption); (case kzh9 => assumption); (case kph9 => assumption); (case kmh9 => (first | decide | omega)); (case kh => exact rfl); (case kd => (try dsimp only); omega); (case ku => (try dsimp only); omega); intro r t'z p'z q'z t1'z t2'z n'z h'z tk'z F'z N'z hr1 hr2 hp'z) | with_reducible ((with_reducible show wpAny _ _ (subscriptTail (Expr.Tuple _ _ _) _ (Value.ref _) (Value.int _ _)) _ _ _); k_dflt (refine pick_gap (by k_asm) (by k_mem) (by assumption) (by assumption) ?_); intro gapzz tgzz hgzz; have hglzz := gap_len hgzz) | with_reducible ((with_reducible show wpAny _ _ (subscriptTail _ _ (Value.ref 323) (Value.int _ _)) _ _ _); refine pick_word (by k_asm) (by k_asm) (by assumption) (by assumption) ?_; intro wdzz twzz hwdzz; have hwlzz := (word_len hwdzz).1; have hwazz := word_alph hwdzz; have hwl2zz := wideL_len wdzz; have hwl3zz : wdzz.length ≤ 100000 := Nat.le_trans hwlzz (by decide)) | with_reducible ((with_reducible show wpAny _ _ (subscriptTail _ _ (Value.ref 322) (Value.int _ _)) _ _ _); refine pick_name (by k_asm) (by k_asm) (by assumption) (by assumption) ?_; intro nmzz tnzz hnmzz; have hnlzz := name_len hnmzz) | with_reducible ((with_reducible show wpAny _ _ (binaryOp PySem.Operator.Add (Value.bytes _ _) (Value.bytes _ _)) _ _ _); (refine badd (by (try simp only [List.length_append, List.length_cons, List.length_nil]); omega) ?_; intro t'z k'z)) | with_reducible ((with_reducible show wpAny _ _ (binaryOp PySem.Operator.Add (Value.str _ _) (Value.str _ _)) _ _ _); (refine sadd (by with_reducible first | exact ofS0 | exact ofS9 | exact ofS32 | exact ofSae | exact rfl) (by with_reducible first | exact ofS0 | exact ofS9 | exact ofS32 | exact ofSae | exact rfl) (by (try simp only [List.length_append, List.length_cons, List.length_nil]); omega) ?_; intro t'z k'z)) | ((with_reducible show wpAny _ _ (call (Value.ref 330) _) _ _ _); refine' useTake ?kF ?kN ?kUh9 ?kX ?kT ?kSh9 ?kSBh9 ?kih9 ?kzh9 ?kph9 ?kmh9 ?kh ?kd ?ku ?_; (case kF => k_asm); (case kN => k_asm); (case kUh9 => k_updF); (case kX => k_asm); (case kT => k_asm); (case kSh9 => assumption); (case kSBh9 => assumption); (case kih9 => assumption); (case kzh9 => assumption); (case kph9 => assumption); (case kmh9 => (first | decide | omega)); (case kh => exact rfl); (case kd => (try dsimp only); omega); (case ku => (try dsimp only); omega); intro r t'z p'z q'z t1'z t2'z n'z h'z tk'z F'z N'z hr1 hr2 hp'z) | ((with_reducible show wpAny _ _ (call (Value.ref 337) _) _ _ _); refine' useV (fun b => c_wide (by assumption) (by assumption) b) ?kF ?kN ?kX ?kT ?kh ?kd ?ku ?_; walk_at "ARGS"; intro t'z h'z tk'z F'z N'z) | with_reducible ((with_reducible show wpAny _ _ (call (Value.ref 342) _) _ _ _); refine' useV (fun b => c_small (by assumption) (by assumption) b) ?kF ?kN ?kX ?kT ?kh ?kd ?ku ?_; walk_at "ARGS"; intro t'z h'z tk'z F'z N'z) | with_reducible ((with_reducible show wpAny _ _ (call (Value.ref 81) _) _ _ _); refine' useV (fun b => c_cname b) ?kF ?kN ?kX ?kT ?kh ?kd ?ku ?_; walk_at "ARGS"; intro t'z h'z tk'z F'z N'z) | with_reducible ((with_reducible show wpAny _ _ (newTuple _) _ _ _); (k_dflt (refine' kup_newTuple ?Fh9 ?Nh9 ?_ ?zh9; (case Fh9 => k_asm); (case Nh9 => k_asm); (case zh9 => kmk_size)); intro D'z h'z F'z N'z l1zz; (try k_lt l1zz); (try k_sweep))) | with_reducible ((with_reducible show wpAny _ _ (subscriptTail _ (Expr.Slice _ _ none _) (Value.bytes (List.toArray _) _) (Value.ref _)) _ _ _); (with_reducible rename Fr _ _ _ _ => F'z); (with_reducible rename News _ _ _ _ => N'z); (refine bcut (s := ⟨_, _, _, _, _⟩) F'z N'z (by constructor) (by constructor) (by first | assumption | omega) (by first | assumption | exact rfl) ?_); intro _ _ _ _ _) | with_reducible ((with_reducible show wpAny _ _ (exec (PySem.Stmt.If (PySem.Expr.Compare _ _ _ _) (_ :: _) [] _) _) _ _ _); ((rename Mk 8 => mk'z); refine Stop.mk ?_)) | with_reducible ((with_reducible show wpAny _ _ (eval (PySem.Expr.Name _ _) _) _ _ _); (k_dflt (first | (refine' nameX_L ?Fh9 ?vh9 ?_ ?ah9 ?bh9; (case Fh9 => k_asm); (case ah9 => rfl); (case bh9 => rfl); (case vh9 => rfl); k_whole) | (refine' nameX_K ?Fh9 ?Xh9 ?Th9 ?eh9 ?_ ?ah9 ?bh9; (case Fh9 => k_asm); (case Xh9 => k_asm); (case Th9 => k_asm); (case ah9 => rfl); (case bh9 => rfl); (case eh9 => k_is); k_whole) | (refine' nameX_B ?Fh9 ?Xh9 ?Th9 ?eh9 ?vh9 ?nh9 ?_ ?ah9 ?bh9; (case Fh9 => k_asm); (case Xh9 => k_asm); (case Th9 => k_asm); (case ah9 => rfl); (case bh9 => rfl); (case eh9 => k_is); (case vh9 => boot_fast); (case nh9 => decide); k_whole)))) | with_reducible ((with_reducible show wpAny _ _ (spliced _) _ _ _); (k_dflt (first | refine args_cons ?_ | (refine args_nil ?_; (try simp only [List.cons_append, List.nil_append]))))) | with_reducible ((with_reducible show wpAny _ _ (subscriptTail _ _ (Value.bytes (List.toArray _) _) (Value.int _ _)) _ _ _); (refine item_at (by omega) (by omega) (by omega) (by assumption) ?_)) | with_reducible ((with_reducible show wpAny _ _ (exec (PySem.Stmt.For _ (PySem.Expr.Call _ _ _ _) _ _ _) _) _ _ _); ((rename Mk 3 => mk'z); refine Stop.mk ?_)) | with_reducible ((with_reducible show wpAny _ _ (eval (PySem.Expr.ListComp _ _ _ _) _) _ _ _); ((rename Mk 1 => mk'z); refine Stop.mk ?_)) | walk1); (try dsimp only); (try ((with_reducible show wpAny _ _ _ _ _ ⟨_, _, _, _ + _, _⟩); refine anyToks ?_; intro _)); (repeat ((first | with_reducible rename (_ < _ ∧ _) => hhzz | with_reducible rename (_ ≠ _ ∧ _) => hhzz | with_reducible rename ((_ ≠ _ ∧ _) ∧ _) => hhzz); have := hhzz.1; have := hhzz.2; clear hhzz))) | (dsimp only; walk1) | (leave1; (try dsimp only)) | fail "no step"))
    refine join_list (News.isList N5 (.head _)) (paired_strs hpp) ?_ ?_
    · rw [sum_ones, show (Str.ofString "").length = 0 from by decide +kernel]; omega
    intro t' k'
    have e : Txt.join (Str.ofString "") (nm.map fun c => st [c.toNat]) = st (nm.map UInt8.toNat) := join_map UInt8.toNat nm
    rw [e]
    ((try dsimp only); (try k_fold); repeat' (first | (k_unfold; (try dsimp only)) | ((first | with_reducible ((with_reducible show wpAny _ _ (call (Value.ref 159) _) _ _ _); refine' useField ?kF ?kN ?kX ?kT ?kh ?kd ?ku ?_; (case kF => k_asm); (case kN => k_asm); (case kX => k_asm); (case kT => k_asm); (case kh => exact rfl); (case kd => (try dsimp only); omega); (case ku => (try dsimp only); omega); intro x'z dx'z k1'z k2'z t1'z t2'z n'z h'z tk'z F'z N'z ox'z odx'z hxd'z; (try (simp only [LCg.Off1, and_true] at ox'z)); (try (simp only [LCg.Off1, and_true] at odx'z))) | ((with_reducible show wpAny _ _ (call (Value.ref 330) _) _ _ _); refine' useTake ?kF ?kN ?kUh9 ?kX ?kT ?kSh9 ?kSBh9 ?kih9 ?kzh9 ?kph9 ?kmh9 ?kh ?kd ?ku ?_; (case kF => k_asm); (case kN => k_asm); (case kUh9 => k_updF); (case kX => k_asm); (case kT => k_asm); (case kSh9 => exact isList_up (by assumption) (Fr.keep (by k_asm))); (case kSBh9 => assumption); (case kih9 => assumption); (case kzh9 => assumption); (case kph9 => assumption); (case kmh9 => (first | decide | omega)); (case kh => exact rfl); (case kd => (try dsimp only); omega); (case ku => (try dsimp only); omega); intro r t'z p'z q'z t1'z t2'z n'z h'z tk'z F'z N'z hr1 hr2 hp'z) | with_reducible ((with_reducible show wpAny _ _ (subscriptTail (Expr.Tuple _ _ _) _ (Value.ref _) (Value.int _ _)) _ _ _); k_dflt (refine pick_gap (by k_asm) (by k_mem) (by assumption) (by assumption) ?_); intro gapzz tgzz hgzz; have hglzz := gap_len hgzz) | with_reducible ((with_reducible show wpAny _ _ (subscriptTail _ _ (Value.ref 323) (Value.int _ _)) _ _ _); refine pick_word (by k_asm) (by k_asm) (by assumption) (by assumption) ?_; intro wdzz twzz hwdzz; have hwlzz := (word_len hwdzz).1; have hwazz := word_alph hwdzz; have hwl2zz := wideL_len wdzz; have hwl3zz : wdzz.length ≤ 100000 := Nat.le_trans hwlzz (by decide)) | with_reducible ((with_reducible show wpAny _ _ (subscriptTail _ _ (Value.ref 322) (Value.int _ _)) _ _ _); refine pick_name (by k_asm) (by k_asm) (by assumption) (by assumption) ?_; intro nmzz tnzz hnmzz; have hnlzz := name_len hnmzz) | with_reducible ((with_reducible show wpAny _ _ (binaryOp PySem.Operator.Add (Value.bytes _ _) (Value.bytes _ _)) _ _ _); (refine badd (by (try simp only [List.length_append, List.length_cons, List.length_nil]); omega) ?_; intro t'z k'z)) | with_reducible ((with_reducible show wpAny _ _ (binaryOp PySem.Operator.Add (Value.str _ _) (Value.str _ _)) _ _ _); (refine sadd (by with_reducible first | exact ofS0 | exact ofS9 | exact ofS32 | exact ofSae | exact rfl) (by with_reducible first | exact ofS0 | exact ofS9 | exact ofS32 | exact ofSae | exact rfl) (by (try simp only [List.length_append, List.length_cons, List.length_nil]); omega) ?_; intro t'z k'z)) | ((with_reducible show wpAny _ _ (call (Value.ref 330) _) _ _ _); refine' useTake ?kF ?kN ?kUh9 ?kX ?kT ?kSh9 ?kSBh9 ?kih9 ?kzh9 ?kph9 ?kmh9 ?kh ?kd ?ku ?_; (case kF => k_asm); (case kN => k_asm); (case kUh9 => k_updF); (case kX => k_asm); (case kT => k_asm); (case kSh9 => assumption); (case kSBh9 => assumption); (case kih9 => assumption); (case kzh9 => assumption); (case kph9 => assumption); (case kmh9 => (first | decide | omega)); (case kh => exact rfl); (case kd => (try dsimp only); omega); (case ku => (try dsimp only); omega); intro r t'z p'z q'z t1'z t2'z n'z h'z tk'z F'z N'z hr1 hr2 hp'z) | ((with_reducible show wpAny _ _ (call (Value.ref 337) _) _ _ _); refine' useV (fun b => c_wide (by assumption) (by assumption) b) ?kF ?kN ?kX ?kT ?kh ?kd ?ku ?_; walk_at "ARGS"; intro t'z h'z tk'z F'z N'z) | with_reducible ((with_reducible show wpAny _ _ (call (Value.ref 342) _) _ _ _); refine' useV (fun b => c_small (by assumption) (by assumption) b) ?kF ?kN ?kX ?kT ?kh ?kd ?ku ?_; walk_at "ARGS"; intro t'z h'z tk'z F'z N'z) | with_reducible ((with_reducible show wpAny _ _ (call (Value.ref 81) _) _ _ _); refine' useV (fun b => c_cname b) ?kF ?kN ?kX ?kT ?kh ?kd ?ku ?_; walk_at "ARGS"; intro t'z h'z tk'z F'z N'z) | with_reducible ((with_reducible show wpAny _ _ (newTuple _) _ _ _); (k_dflt (refine' kup_newTuple ?Fh9 ?Nh9 ?_ ?zh9; (case Fh9 => k_asm); (case Nh9 => k_asm); (case zh9 => kmk_size)); intro D'z h'z F'z N'z l1zz; (try k_lt l1zz); (try k_sweep))) | with_reducible ((with_reducible show wpAny _ _ (subscriptTail _ (Expr.Slice _ _ none _) (Value.bytes (List.toArray _) _) (Value.ref _)) _ _ _); (with_reducible rename Fr _ _ _ _ => F'z); (with_reducible rename News _ _ _ _ => N'z); (refine bcut (s := ⟨_, _, _, _, _⟩) F'z N'z (by constructor) (by constructor) (by first | assumption | omega) (by first | assumption | exact rfl) ?_); intro _ _ _ _ _) | with_reducible ((with_reducible show wpAny _ _ (exec (PySem.Stmt.If (PySem.Expr.Compare _ _ _ _) (_ :: _) [] _) _) _ _ _); ((rename Mk 8 => mk'z); refine Stop.mk ?_)) | with_reducible ((with_reducible show wpAny _ _ (eval (PySem.Expr.Name _ _) _) _ _ _); (k_dflt (first | (refine' nameX_L ?Fh9 ?vh9 ?_ ?ah9 ?bh9; (case Fh9 => k_asm); (case ah9 => rfl); (case bh9 => rfl); (case vh9 => rfl); k_whole) | (refine' nameX_K ?Fh9 ?Xh9 ?Th9 ?eh9 ?_ ?ah9 ?bh9; (case Fh9 => k_asm); (case Xh9 => k_asm); (case Th9 => k_asm); (case ah9 => rfl); (case bh9 => rfl); (case eh9 => k_is); k_whole) | (refine' nameX_B ?Fh9 ?Xh9 ?Th9 ?eh9 ?vh9 ?nh9 ?_ ?ah9 ?bh9; (case Fh9 => k_asm); (case Xh9 => k_asm); (case Th9 => k_asm); (case ah9 => rfl); (case bh9 => rfl); (case eh9 => k_is); (case vh9 => boot_fast); (case nh9 => decide); k_whole)))) | with_reducible ((with_reducible show wpAny _ _ (spliced _) _ _ _); (k_dflt (first | refine args_cons ?_ | (refine args_nil ?_; (try simp only [List.cons_append, List.nil_append]))))) | with_reducible ((with_reducible show wpAny _ _ (subscriptTail _ _ (Value.bytes (List.toArray _) _) (Value.int _ _)) _ _ _); (refine item_at (by omega) (by omega) (by omega) (by assumption) ?_)) | with_reducible ((with_reducible show wpAny _ _ (exec (PySem.Stmt.For _ (PySem.Expr.Call _ _ _ _) _ _ _) _) _ _ _); ((rename Mk 3 => mk'z); refine Stop.mk ?_)) | with_reducible ((with_reducible show wpAny _ _ (eval (PySem.Expr.ListComp _ _ _ _) _) _ _ _); ((rename Mk 1 => mk'z); refine Stop.mk ?_)) | walk1); (try dsimp only); (try ((with_reducible show wpAny _ _ _ _ _ ⟨_, _, _, _ + _, _⟩); refine anyToks ?_; intro _)); (repeat ((first | with_reducible rename (_ < _ ∧ _) => hhzz | with_reducible rename (_ ≠ _ ∧ _) => hhzz | with_reducible rename ((_ ≠ _ ∧ _) ∧ _) => hhzz); have := hhzz.1; have := hhzz.2; clear hhzz))) | (dsimp only; walk1) | (leave1; (try dsimp only)) | fail "no step"))
    rename News _ _ _ _ => N6
    rename Fr _ _ _ _ => F6
    refine DoneM.ret F6 ⟨_, _, _, _, _, _, _, _, _, _, _, _, _, _, _, _, _, _, _, rfl, unhide (N6 _ (.head _)).2.2 (by k_ne), unhide (N6 _ (.tail _ (.tail _ (.head _)))).2.2 (by k_ne), unhide (N6 _ (.tail _ (.tail _ (.tail _ (.head _))))).2.2 (by k_ne), (N6 _ (.head _)).1, (N6 _ (.tail _ (.tail _ (.head _)))).1, (N6 _ (.tail _ (.tail _ (.tail _ (.head _))))).1, hnm, hfs, hp', (N6 _ (.tail _ (.tail _ (.tail _ (.tail _ (.head _)))))).1⟩
end

section
open PySem.Builtin PySem.Builtin.Bytes
theorem ext_one (x : List UInt8) (i : Nat) (h : i < x.length) : (x.toArray.extract i (i + [(10 : UInt8)].toArray.size) == [(10 : UInt8)].toArray) = decide (x.getD i 0 = 10) := by
  have e : x.toArray.extract i (i + [(10 : UInt8)].toArray.size) = [x.getD i 0].toArray := by
    apply Array.ext'
    simp only [Array.toList_extract, List.size_toArray, List.length_singleton]
    rw [List.extract_eq_drop_take]
    rw [show i + 1 - i = 1 from by omega, show x.getD i 0 = x[i] from by simp [List.getD_eq_getElem?_getD, h], List.drop_eq_getElem_cons h]
    rfl
  rw [e]
  by_cases h2 : x.getD i 0 = 10
  · rw [h2]; simp
  · rw [decide_eq_false h2, beq_eq_false_iff_ne]
    intro e2
    exact h2 (by simpa using e2)
theorem findF_eq {x : List UInt8} {i : Nat} (hi : i ≤ x.length) : findF x.toArray [10].toArray (i : Int) (x.length : Int) = ((List.range (x.length - i)).find? fun k => decide (x.getD (k + i) 0 = 10)).map (· + i) := by
  unfold findF
  have w1 : window x.toArray.size (some (i : Int)) (some (x.length : Int)) = ((i : Int), (x.length : Int)) := by
    unfold window
    simp only [Option.getD_some, List.size_toArray]
    have h1 : ¬ ((i : Int) < 0) := by omega
    have h2 : ¬ ((x.length : Int) < 0) := by omega
    rw [if_neg h1, if_neg h2]
    congr 1
    omega
  rw [w1]
  by_cases hlt : i < x.length
  · rw [if_neg (by simp only [List.size_toArray, List.length_singleton]; omega)]
    simp only [Option.bind_some, Int.toNat_natCast]
    unfold Bytes.find?
    rw [show x.length + 1 - (i + [(10 : UInt8)].toArray.size) = x.length - i from by simp, List.find?_map]
    congr 1
    have : ∀ (l : List Nat), (∀ k ∈ l, k + i < x.length) → l.find? ((fun i => x.toArray.extract i (i + [(10 : UInt8)].toArray.size) == [(10 : UInt8)].toArray) ∘ fun x => x + i) = l.find? fun k => decide (x.getD (k + i) 0 = 10) := by
      intro l hl
      induction l with
      | nil => rfl
      | cons a r ih =>
        simp only [List.find?_cons, Function.comp]
        rw [ext_one x (a + i) (hl a (.head _))]
        rw [← ih fun k hk => hl k (.tail _ hk)]
    exact this _ fun k hk => by have := List.mem_range.mp hk; omega
  · have : i = x.length := by omega
    subst this
    rw [if_pos (by simp only [List.size_toArray, List.length_singleton]; omega)]
    simp
theorem findI_some {x : List UInt8} {i sp : Nat} (h1 : i ≤ sp) (h2 : sp < x.length) (h3 : x.getD sp 0 = 10) (h4 : ∀ j, i ≤ j → j < sp → x.getD j 0 ≠ 10) : findI x.toArray [10].toArray (i : Int) (x.length : Int) = sp := by
  unfold findI
  rw [findF_eq (by omega)]
  have : (List.range (x.length - i)).find? (fun k => decide (x.getD (k + i) 0 = 10)) = some (sp - i) := by
    rw [List.find?_range_eq_some]
    refine ⟨by rw [show sp - i + i = sp from by omega]; simpa using h3, List.mem_range.mpr (by omega), fun j hj => ?_⟩
    have := h4 (j + i) (by omega) (by omega)
    simpa using this
  rw [this]
  show ((sp - i + i : Nat) : Int) = sp
  omega
theorem findI_none {x : List UInt8} {i : Nat} (h1 : i ≤ x.length) (h4 : ∀ j, i ≤ j → j < x.length → x.getD j 0 ≠ 10) : findI x.toArray [10].toArray (i : Int) (x.length : Int) = -1 := by
  unfold findI
  rw [findF_eq h1]
  have : (List.range (x.length - i)).find? (fun k => decide (x.getD (k + i) 0 = 10)) = none := by
    rw [List.find?_range_eq_none]
    intro j hj
    have := h4 (j + i) (by omega) (by omega)
    simpa using this
  rw [this]
  rfl
end

/-- rows with their ends, and the last row -/
noncomputable def enc : List (List UInt8 × List UInt8) → List UInt8 → List UInt8
  | [], last => last
  | (y, t) :: r, last => y ++ t ++ enc r last
noncomputable def GoodSeg (p : List UInt8 × List UInt8) : Prop := 10 ∉ p.1 ∧ (p.2 = [13, 10] ∨ (p.2 = [10] ∧ p.1 ≠ [] ∧ p.1.getLastD 0 ≠ 13))

theorem getD_append_right' {α : Type} (a b : List α) (j : Nat) (d : α) (h : a.length ≤ j) : (a ++ b).getD j d = b.getD (j - a.length) d := by
  simp only [List.getD_eq_getElem?_getD]
  rw [List.getElem?_append_right h]
theorem getD_append_left' {α : Type} (a b : List α) (j : Nat) (d : α) (h : j < a.length) : (a ++ b).getD j d = a.getD j d := by
  simp only [List.getD_eq_getElem?_getD]
  rw [List.getElem?_append_left h]
theorem getD_mem' {α : Type} (a : List α) (j : Nat) (d : α) (h : j < a.length) : a.getD j d ∈ a := by
  simp only [List.getD_eq_getElem?_getD]
  rw [List.getElem?_eq_getElem h]
  exact List.getElem_mem h

theorem rows_enc : ∀ (segs : List (List UInt8 × List UInt8)) (last pre : List UInt8), (∀ p ∈ segs, GoodSeg p) → 10 ∉ last → last ≠ [] → RowsR (pre ++ enc segs last) pre.length (segs.map (·.1) ++ [last])
  | [], last, pre, _, hl, hne => by
    have hpos : 0 < last.length := List.length_pos_iff.mpr hne
    refine ⟨((pre ++ last).length : Nat), ((pre ++ last).length : Nat), .inl ⟨findI_none (by simp) fun j h1 h2 => ?_, rfl, rfl⟩, ?_, by rw [List.length_append]; omega, fun _ => rfl, fun h => absurd rfl h⟩
    · show (pre ++ last).getD j 0 ≠ 10
      rw [getD_append_right' _ _ _ _ h1]
      intro e
      change j < (pre ++ last).length at h2
      rw [List.length_append] at h2
      exact hl (e ▸ getD_mem' last (j - pre.length) 0 (by omega))
    · show cutB (pre ++ last) _ _ = _
      rw [cutB_eq (by simp) (Nat.le_refl _), List.drop_left, List.length_append, Nat.add_sub_cancel_left, List.take_length]
  | (y, t) :: r, last, pre, hg, hl, hne => by
    obtain ⟨hy, ht⟩ := hg _ (.head _)
    have hpos : 0 < last.length := List.length_pos_iff.mpr hne
    have hx : pre ++ enc ((y, t) :: r) last = (pre ++ (y ++ t)) ++ enc r last := by simp [enc]
    have ih := rows_enc r last (pre ++ (y ++ t)) (fun p hp => hg p (.tail _ hp)) hl hne
    rw [← hx] at ih
    generalize hX : pre ++ enc ((y, t) :: r) last = X at ih ⊢
    have hX2 : X = pre ++ (y ++ (t ++ enc r last)) := by rw [← hX, hx]; simp
    have hend : 0 < (enc r last).length := by
      cases r with
      | nil => exact hpos
      | cons a r =>
        obtain ⟨y', t'⟩ := a
        obtain ⟨_, h | ⟨h, _, _⟩⟩ := hg (y', t') (.tail _ (.head _))
        · dsimp only at h; subst h; simp only [enc, List.length_append, List.length_cons, List.length_nil]; omega
        · dsimp only at h; subst h; simp only [enc, List.length_append, List.length_cons, List.length_nil]; omega
    have hlenX : X.length = pre.length + y.length + t.length + (enc r last).length := by rw [hX2]; simp; omega
    have hat : ∀ j, pre.length ≤ j → j < pre.length + y.length → X.getD j 0 ≠ 10 := by
      intro j h1 h2 e
      rw [hX2, getD_append_right' _ _ _ _ h1, getD_append_left' _ _ _ _ (by omega)] at e
      exact hy (e ▸ getD_mem' y (j - pre.length) 0 (by omega))
    have hatt : ∀ j, X.getD (pre.length + y.length + j) 0 = (t ++ enc r last).getD j 0 := by
      intro j
      rw [hX2, getD_append_right' _ _ _ _ (by omega), getD_append_right' _ _ _ _ (by omega)]
      congr 1; omega
    have hcut : cutB X (some ((pre.length : Nat) : Int)) (some ((pre.length + y.length : Nat) : Int)) = y := by
      rw [cutB_eq (by omega) (by omega), hX2, List.drop_left, Nat.add_sub_cancel_left, List.take_left]
    have hlen2 : (((pre ++ (y ++ t)).length : Nat) : Int) = ((pre.length + y.length + t.length : Nat) : Int) := by simp; omega
    rw [hlen2] at ih
    have hnn : (r.map (·.1) ++ [last]) ≠ [] := by simp
    rcases ht with rfl | ⟨rfl, hne2, h13⟩
    · refine ⟨((pre.length + y.length : Nat) : Int), ((pre.length + y.length + 2 : Nat) : Int), .inr (.inl ⟨((pre.length + y.length + 1 : Nat) : Int), findI_some (by omega) (by simp at hlenX; omega) ?_ ?_, by omega, by simp at hlenX; omega, ?_, by push_cast; omega, by push_cast; omega⟩), hcut, by omega, fun h => absurd h hnn, fun _ => ⟨by simp at hlenX; omega, ih⟩⟩
      · rw [hatt 1]; rfl
      · intro j h1 h2
        rcases Nat.lt_or_ge j (pre.length + y.length) with h | h
        · exact hat j h1 h
        · have : j = pre.length + y.length + 0 := by omega
          rw [this, hatt 0]; show (13 : UInt8) ≠ 10; decide
      · rw [show (((pre.length + y.length + 1 : Nat) : Int) - 1).toNat = pre.length + y.length + 0 from by omega, hatt 0]; rfl
    · have hyl : 0 < y.length := List.length_pos_iff.mpr hne2
      refine ⟨((pre.length + y.length : Nat) : Int), ((pre.length + y.length + 1 : Nat) : Int), .inr (.inr (.inr ⟨((pre.length + y.length : Nat) : Int), _, findI_some (by omega) (by simp at hlenX; omega) ?_ (fun j h1 h2 => hat j h1 h2), by omega, by omega, rfl, ?_, rfl, by push_cast; omega⟩)), hcut, by omega, fun h => absurd h hnn, fun _ => ⟨by simp at hlenX; omega, ih⟩⟩
      · have := hatt 0; rw [Nat.add_zero] at this; rw [this]; rfl
      · intro e
        apply h13
        show y.getLastD 0 = 13
        have e3 : X.getD (pre.length + y.length - 1) 0 = y.getLastD 0 := by
          rw [hX2, getD_append_right' _ _ _ _ (by omega), getD_append_left' _ _ _ _ (by omega)]
          rw [List.getLastD_eq_getLast?, List.getLast?_eq_getElem?, List.getD_eq_getElem?_getD]
          congr 2; omega
        rw [show (((pre.length + y.length : Nat) : Int) - 1).toNat = pre.length + y.length - 1 from by omega, e3] at e
        exact UInt8.toNat_inj.mp (by show (y.getLastD 0).toNat = 13; omega)

theorem wideL_append (a b : List Nat) : wideL (a ++ b) = wideL a ++ wideL b := by simp [wideL]
theorem enc_app (z : List UInt8) : ∀ (segs : List (List UInt8 × List UInt8)) (last : List UInt8), enc segs (last ++ z) = enc segs last ++ z
  | [], last => rfl
  | (y, t) :: r, last => by simp [enc, enc_app z r last]
theorem enc_snoc (y t z : List UInt8) : ∀ (segs : List (List UInt8 × List UInt8)), enc (segs ++ [(y, t)]) z = enc segs y ++ t ++ z
  | [] => by simp [enc]
  | (y', t') :: r => by simp [enc, enc_snoc y t z r]
theorem word_wide {wd : List Nat} (h : wd ∈ lawWords) : 10 ∉ wideL wd ∧ wideL wd ≠ [] ∧ (wideL wd).getLastD 0 ≠ 13 := by
  revert wd; decide
theorem getLastD_app (a b : List UInt8) (h : b ≠ []) : (a ++ b).getLastD 0 = b.getLastD 0 := by
  rw [List.getLastD_eq_getLast?, List.getLastD_eq_getLast?, List.getLast?_append]
  cases hb : b.getLast? with
  | none => exact absurd (List.getLast?_eq_none_iff.mp hb) h
  | some v => rfl

noncomputable def EncOf (raw : List UInt8) (row : List Nat) (k : Nat) : Prop :=
  ∃ segs last, raw = enc segs last ∧ (∀ p ∈ segs, GoodSeg p) ∧ 10 ∉ last ∧ last ≠ [] ∧ last.getLastD 0 ≠ 13 ∧ (segs.map (·.1)).flatten ++ last = [32] ++ wideL row ∧ segs.length ≤ k
theorem EncOf.app {raw : List UInt8} {row : List Nat} {k : Nat} (h : EncOf raw row k) (z : List UInt8) (r : List Nat) (hz : z = wideL r) (h10 : 10 ∉ z) (hne : z ≠ []) (h13 : z.getLastD 0 ≠ 13) : EncOf (raw ++ z) (row ++ r) k := by
  obtain ⟨segs, last, e, hg, h1, h2, h3, h4, h5⟩ := h
  refine ⟨segs, last ++ z, by rw [enc_app, e], hg, ?_, by simp [h2], by rw [getLastD_app _ _ hne]; exact h13, ?_, h5⟩
  · rw [List.mem_append]; exact fun h => h.elim h1 h10
  · rw [← List.append_assoc, h4, wideL_append, ← hz]; simp
theorem EncOf.cut {raw : List UInt8} {row : List Nat} {k : Nat} (h : EncOf raw row k) (t : List UInt8) (z : List UInt8) (r : List Nat) (ht : t = [13, 10] ∨ t = [10]) (hz : z = wideL r) (h10 : 10 ∉ z) (hne : z ≠ []) (h13 : z.getLastD 0 ≠ 13) : EncOf (raw ++ t ++ z) (row ++ r) (k + 1) := by
  obtain ⟨segs, last, e, hg, h1, h2, h3, h4, h5⟩ := h
  refine ⟨segs ++ [(last, t)], z, by rw [enc_snoc, e], ?_, h10, hne, h13, ?_, by simp; omega⟩
  · intro p hp
    rcases List.mem_append.mp hp with hp | hp
    · exact hg p hp
    · rw [List.mem_singleton.mp hp]
      refine ⟨h1, ?_⟩
      rcases ht with h | h
      · exact .inl h
      · exact .inr ⟨h, h2, h3⟩
  · rw [wideL_append, ← hz, List.map_append, List.flatten_append]
    simp only [List.map_cons, List.map_nil, List.flatten_cons, List.flatten_nil, List.append_nil]
    rw [h4]; simp
theorem RR.enc : ∀ {k : Nat} {raw : List UInt8} {row : List Nat}, RR k raw row → EncOf raw row k
  | _, _, _, .zero => ⟨[], [32], rfl, by simp, by decide, by decide, by decide, rfl, Nat.le_refl _⟩
  | _, _, _, .one wd h => by
    have hw := word_wide h
    have h0 : EncOf [32] [] 1 := ⟨[], [32], rfl, by simp, by decide, by decide, by decide, rfl, by simp⟩
    have := h0.app (wideL wd) wd rfl hw.1 hw.2.1 hw.2.2
    simpa using this
  | _, _, _, .more gap sep wd r h hg => by
    have hw := word_wide h
    have ih := r.enc
    have key : ∀ c : UInt8, c ≠ 10 → c ≠ 13 → 10 ∉ [c] ++ wideL wd ∧ [c] ++ wideL wd ≠ [] ∧ ([c] ++ wideL wd).getLastD 0 ≠ 13 := by
      intro c hc _
      refine ⟨?_, by simp, by rw [getLastD_app _ _ hw.2.1]; exact hw.2.2⟩
      rw [List.mem_append]
      rintro (hm | hm)
      · exact hc (List.mem_singleton.mp hm).symm
      · exact hw.1 hm
    rcases hg with ⟨rfl, rfl⟩ | ⟨rfl, rfl⟩ | ⟨rfl, rfl⟩
    · obtain ⟨k1, k2, k3⟩ := key 32 (by decide) (by decide)
      obtain ⟨segs, last, e, a1, a2, a3, a4, a5, a6⟩ := ih.app ([32] ++ wideL wd) ([32] ++ wd) (by rw [wideL_append]; rfl) k1 k2 k3
      exact ⟨segs, last, by rw [List.append_assoc]; exact e, a1, a2, a3, a4, by rw [List.append_assoc]; exact a5, by omega⟩
    · obtain ⟨k1, k2, k3⟩ := key 32 (by decide) (by decide)
      have := ih.cut [13, 10] ([32] ++ wideL wd) ([32] ++ wd) (.inl rfl) (by rw [wideL_append]; rfl) k1 k2 k3
      simpa using this
    · obtain ⟨k1, k2, k3⟩ := key 9 (by decide) (by decide)
      have := ih.cut [10] ([9] ++ wideL wd) ([9] ++ wd) (.inr rfl) (by rw [wideL_append]; rfl) k1 k2 k3
      simpa using this

theorem wide_cases {c : Nat} (h : Alph c) : (c < 128 ∧ wide c = [c.toUInt8]) ∨ (c = 196 ∧ wide c = [195, 132]) ∨ (c = 228 ∧ wide c = [195, 164]) ∨ (c = 233 ∧ wide c = [195, 169]) ∨ (c = 8364 ∧ wide c = [226, 130, 172]) := by
  rcases h with h | rfl | rfl | rfl | rfl
  · left; exact ⟨h, by unfold wide; rw [if_pos h]⟩
  · right; left; exact ⟨rfl, by decide⟩
  · right; right; left; exact ⟨rfl, by decide⟩
  · right; right; right; left; exact ⟨rfl, by decide⟩
  · right; right; right; right; exact ⟨rfl, by decide⟩
theorem getD_pre (pre z : List UInt8) (j : Nat) : (pre ++ z).getD (pre.length + j) 0 = z.getD j 0 := by
  rw [getD_append_right' _ _ _ _ (by omega)]; congr 1; omega
theorem dec_wide : ∀ (l : List Nat) (pre : List UInt8), (∀ c ∈ l, Alph c) → Dec (pre ++ wideL l) (pre.length : Int) l
  | [], pre, _ => by show (pre.length : Int) = _; simp [wideL]
  | c :: l, pre, h => by
    have hA := h c (.head _)
    have ih := dec_wide l (pre ++ wide c) (fun d hd => h d (.tail _ hd))
    have e : pre ++ wideL (c :: l) = pre ++ wide c ++ wideL l := by simp [wideL]
    rw [e]
    have e2 : pre ++ wide c ++ wideL l = pre ++ (wide c ++ wideL l) := by simp
    refine ⟨((wide c).length : Int), ?_, by rw [List.length_append] at ih; exact_mod_cast ih⟩
    rw [e2]
    have g : ∀ j : Nat, (pre ++ (wide c ++ wideL l)).getD ((pre.length : Int) + (j : Int)).toNat 0 = (wide c ++ wideL l).getD j 0 := fun j => by
      rw [show ((pre.length : Int) + (j : Int)).toNat = pre.length + j from by omega, getD_pre]
    have g0 := g 0
    have g1 := g 1
    have g2 := g 2
    simp only [Int.ofNat_zero, Int.natCast_zero, Int.add_zero, Int.natCast_one, Int.cast_ofNat_Int] at g0 g1 g2
    rcases wide_cases hA with ⟨hc, hw⟩ | ⟨rfl, hw⟩ | ⟨rfl, hw⟩ | ⟨rfl, hw⟩ | ⟨rfl, hw⟩
    · refine .inl ⟨by rw [hw]; rfl, by omega, by omega, by rw [hw]; simp; omega, ?_⟩
      rw [g0, hw]
      show ((c.toUInt8.toNat : Nat) : Int) = c
      rw [u8nat (by omega)]
    · exact .inr (.inl ⟨132, by rw [hw]; rfl, by decide, by decide, by decide, by rw [hw]; simp; omega, by rw [g0, hw]; rfl, by rw [g1, hw]; rfl⟩)
    · exact .inr (.inl ⟨164, by rw [hw]; rfl, by decide, by decide, by decide, by rw [hw]; simp; omega, by rw [g0, hw]; rfl, by rw [g1, hw]; rfl⟩)
    · exact .inr (.inl ⟨169, by rw [hw]; rfl, by decide, by decide, by decide, by rw [hw]; simp; omega, by rw [g0, hw]; rfl, by rw [g1, hw]; rfl⟩)
    · exact .inr (.inr ⟨by rw [hw]; rfl, rfl, by rw [hw]; simp; omega, by rw [g0, hw]; rfl, by rw [g1, hw]; rfl, by rw [g2, hw]; rfl⟩)
theorem dec_wide0 {l : List Nat} (h : ∀ c ∈ l, Alph c) : Dec (wideL l) 0 l := by
  have := dec_wide l [] h
  simpa using this
theorem decL_pre : ∀ (nm pre : List UInt8), DecL (pre ++ nm) (pre.length : Int) (nm.map UInt8.toNat)
  | [], pre => by show (pre.length : Int) = _; simp
  | c :: nm, pre => by
    have ih := decL_pre nm (pre ++ [c])
    have e : pre ++ (c :: nm) = pre ++ [c] ++ nm := by simp
    refine ⟨by simp; omega, ?_, ?_, ?_⟩
    · have := getD_pre pre (c :: nm) 0
      rw [Nat.add_zero] at this
      rw [Int.toNat_natCast, this]; rfl
    · have := c.toNat_lt; omega
    · rw [e]; rw [List.length_append] at ih; exact_mod_cast ih
theorem decL0 (nm : List UInt8) : DecL nm 0 (nm.map UInt8.toNat) := by
  have := decL_pre nm []
  simpa using this
theorem RR.alph : ∀ {k : Nat} {raw : List UInt8} {row : List Nat}, RR k raw row → ∀ c ∈ row, Alph c
  | _, _, _, .zero, c, hc => by cases hc
  | _, _, _, .one wd h, c, hc => word_alph h c (by simpa using hc)
  | _, _, _, .more gap sep wd r h hg, c, hc => by
    rcases List.mem_append.mp hc with hc | hc
    · rcases List.mem_append.mp hc with hc | hc
      · exact r.alph c hc
      · rcases hg with ⟨_, rfl⟩ | ⟨_, rfl⟩ | ⟨_, rfl⟩ <;> (rw [List.mem_singleton.mp hc]; decide)
    · exact word_alph h c hc
/-- an end that is no white -/
noncomputable def Edge (a : UInt8) : Prop := a ≠ 32 ∧ a ≠ 9
instance (a : UInt8) : Decidable (Edge a) := inferInstanceAs (Decidable (_ ∧ _))
theorem word_edge {wd : List Nat} (h : wd ∈ lawWords) : Edge ((wideL wd).headD 0) ∧ Edge ((wideL wd).getLastD 0) ∧ 61 ∉ wideL wd := by
  revert wd; decide
theorem headD_app (a b : List UInt8) (h : a ≠ []) : (a ++ b).headD 0 = a.headD 0 := by
  cases a with
  | nil => exact absurd rfl h
  | cons x r => rfl
theorem RR.edge : ∀ {k : Nat} {raw : List UInt8} {row : List Nat}, RR k raw row → 61 ∉ wideL row ∧ (k = 0 → row = []) ∧ (0 < k → wideL row ≠ [] ∧ Edge ((wideL row).headD 0) ∧ Edge ((wideL row).getLastD 0))
  | _, _, _, .zero => ⟨by decide, fun _ => rfl, fun h => absurd h (by decide)⟩
  | _, _, _, .one wd h => by
    obtain ⟨a, b, c⟩ := word_edge h
    refine ⟨by simpa using c, fun h => absurd h (by decide), fun _ => ⟨by simpa using (word_wide h).2.1, by simpa using a, by simpa using b⟩⟩
  | _, _, _, .more gap sep wd r h hg => by
    obtain ⟨a, b, c⟩ := word_edge h
    obtain ⟨i1, _, i3⟩ := r.edge
    obtain ⟨i4, i5, i6⟩ := i3 (by omega)
    have hw := (word_wide h).2.1
    have hs : 61 ∉ wideL sep := by rcases hg with ⟨_, rfl⟩ | ⟨_, rfl⟩ | ⟨_, rfl⟩ <;> decide
    refine ⟨?_, fun h => absurd h (by omega), fun _ => ⟨?_, ?_, ?_⟩⟩
    · rw [wideL_append, wideL_append, List.mem_append, List.mem_append]
      rintro ((h | h) | h)
      · exact i1 h
      · exact hs h
      · exact c h
    · rw [wideL_append]; simp [hw]
    · rw [wideL_append, wideL_append, List.append_assoc, headD_app _ _ i4]; exact i5
    · rw [wideL_append, getLastD_app _ _ hw]; exact b
theorem drop_edge {d y : List UInt8} (h : d.contains (y.headD 0) = false) (hne : y ≠ []) : y.dropWhile d.contains = y := by
  cases y with
  | nil => exact absurd rfl hne
  | cons a r => exact List.dropWhile_cons_of_neg (by rw [show d.contains a = false from h]; exact Bool.false_ne_true)
theorem edge_no {a : UInt8} (h : Edge a) : ([32, 9] : List UInt8).contains a = false := by
  have h1 := h.1
  have h2 := h.2
  simp [h1, h2]
theorem strip_sp {y : List UInt8} (h : y = [] ∨ (y ≠ [] ∧ Edge (y.headD 0) ∧ Edge (y.getLastD 0))) : stripL [32, 9] ([32] ++ y) = y := by
  rcases h with rfl | ⟨h1, h2, h3⟩
  · decide
  · unfold stripL
    have e1 : ([32] ++ y).dropWhile ([32, 9] : List UInt8).contains = y := by
      show (32 :: y).dropWhile _ = _
      rw [List.dropWhile_cons_of_pos (by decide)]
      exact drop_edge (edge_no h2) h1
    rw [e1]
    have h4 : y.reverse ≠ [] := by simpa using h1
    have h5 : y.reverse.headD 0 = y.getLastD 0 := by
      rw [List.getLastD_eq_getLast?, List.headD_eq_head?_getD, List.head?_reverse]
    rw [drop_edge (by rw [h5]; exact edge_no h3) h4, List.reverse_reverse]
theorem cutB_pre {P z : List UInt8} {a b : Nat} (hb : a ≤ b) (hz : b ≤ z.length) : cutB (P ++ z) (some ((P.length : Int) + (a : Int))) (some ((P.length : Int) + (b : Int))) = (z.drop a).take (b - a) := by
  rw [show (P.length : Int) + (a : Int) = ((P.length + a : Nat) : Int) from by omega, show (P.length : Int) + (b : Int) = ((P.length + b : Nat) : Int) from by omega]
  rw [cutB_eq (by simp; omega) (by simp; omega), List.drop_append, List.drop_eq_nil_of_le (by omega), List.nil_append, Nat.add_sub_cancel_left, Nat.add_sub_add_left]
theorem pe_pre {P z : List UInt8} {a b : Nat} (h1 : a ≤ b) (h2 : b < z.length) (h3 : (z.getD b 0).toNat = 63) (h4 : ∀ j < z.length, a ≤ j → j < b → 33 ≤ (z.getD j 0).toNat ∧ (z.getD j 0).toNat ≤ 126 ∧ (z.getD j 0).toNat ≠ 63) : PE (P ++ z) ((P.length : Int) + (a : Int)) ((P.length : Int) + (b : Int)) := by
  refine ⟨by omega, by simp; omega, ?_, ?_⟩
  · rw [show ((P.length : Int) + (b : Int)).toNat = P.length + b from by omega, getD_pre, h3]; rfl
  · intro k hk hk2
    obtain ⟨j, rfl⟩ : ∃ j : Nat, k = (P.length : Int) + (j : Int) := ⟨(k - P.length).toNat, by omega⟩
    rw [show ((P.length : Int) + (j : Int)).toNat = P.length + j from by omega, getD_pre]
    obtain ⟨q1, q2, q3⟩ := h4 j (by omega) (by omega) (by omega)
    omega
theorem ewat {P : List UInt8} (h : P.length ≤ 100000) : EWat (P ++ EW) (P.length : Int) := by
  have hE : EW.length = 18 := by decide
  have e0 : (P.length : Int) = (P.length : Int) + ((0 : Nat) : Int) := by omega
  have e2 : (P.length : Int) + 1 + 1 = (P.length : Int) + ((2 : Nat) : Int) := by omega
  have e2' : (P.length : Int) + 2 = (P.length : Int) + ((2 : Nat) : Int) := by omega
  have e7 : (P.length : Int) + 7 = (P.length : Int) + ((7 : Nat) : Int) := by omega
  have e8 : (P.length : Int) + 7 + 1 = (P.length : Int) + ((8 : Nat) : Int) := by omega
  have e9 : (P.length : Int) + 9 = (P.length : Int) + ((9 : Nat) : Int) := by omega
  have e10 : (P.length : Int) + 9 + 1 = (P.length : Int) + ((10 : Nat) : Int) := by omega
  have e16 : (P.length : Int) + 16 = (P.length : Int) + ((16 : Nat) : Int) := by omega
  have e18 : (P.length : Int) + 16 + 2 = (P.length : Int) + ((18 : Nat) : Int) := by omega
  refine ⟨by rw [List.length_append]; omega, by omega, by rw [List.length_append]; omega, ?_, ?_, ?_, ?_, ?_, ?_, ?_, ?_⟩
  · rw [e2']; have := cutB_pre (P := P) (z := EW) (a := 0) (b := 2) (by decide) (by decide); rw [← e0] at this; rw [this]; decide
  · rw [e2, e7]; exact pe_pre (by decide) (by decide) (by decide) (by decide)
  · rw [e8, e9]; exact pe_pre (by decide) (by decide) (by decide) (by decide)
  · rw [e10, e16]; exact pe_pre (by decide) (by decide) (by decide) (by decide)
  · rw [e18, e16, cutB_pre (by decide) (by decide)]; decide
  · rw [e2, e7, cutB_pre (by decide) (by decide)]; decide
  · rw [e8, e9, cutB_pre (by decide) (by decide)]; decide
  · rw [e10, e16, cutB_pre (by decide) (by decide)]; decide
/-- what a field's octets come to: a plain row, or one with an encoded word at its end -/
inductive Und : List UInt8 → List Nat → Prop
  | plain {P : List UInt8} {l : List Nat} : P.length ≤ 1000 → 61 ∉ P → Dec P 0 l → Und P l
  | word {P : List UInt8} {l : List Nat} : P.length ≤ 1000 → 61 ∉ P → Dec P 0 l → (P = [] ∨ P.getLastD 0 = 32) → Und (P ++ EW) (l ++ [228])
theorem FieldSpec.und {rw' : List UInt8} {row : List Nat} (h : FieldSpec rw' row) :
    ∃ ys y, rw'.length ≤ 1000000 ∧ ys.length ≤ 1000000 ∧ RowsR rw' 0 ys ∧ ys.flatten.length ≤ 1000000 ∧ stripL [32, 9] ys.flatten = y ∧ Und y row ∧ (∀ c ∈ row, Alph c) ∧ row.length ≤ 100 := by
  obtain ⟨k, raw0, row0, hk, hR, hc⟩ := h
  have hlen := hR.len
  have halph := hR.alph
  obtain ⟨h61, hz0, hpos⟩ := hR.edge
  obtain ⟨segs, last, e, hg, h1, h2, h3, h4, h5⟩ := hR.enc
  have hwl := wideL_len row0
  have rows : ∀ (z : List UInt8), 10 ∉ z → RowsR (raw0 ++ z) 0 (segs.map (·.1) ++ [last ++ z]) := by
    intro z hz
    have := rows_enc segs (last ++ z) [] hg (by rw [List.mem_append]; exact fun h => h.elim h1 hz) (by simp [h2])
    rw [enc_app, ← e] at this
    simpa using this
  have flat : ∀ (z : List UInt8), (segs.map (·.1) ++ [last ++ z]).flatten = [32] ++ (wideL row0 ++ z) := by
    intro z
    rw [List.flatten_append]
    simp only [List.flatten_cons, List.flatten_nil, List.append_nil]
    rw [← List.append_assoc, h4]; simp
  have ylen : ∀ z : List UInt8, (segs.map (·.1) ++ [last ++ z]).length ≤ 1000000 := by
    intro z; simp; omega
  have flen : ∀ z : List UInt8, z.length ≤ 100 → (segs.map (·.1) ++ [last ++ z]).flatten.length ≤ 1000000 := by
    intro z hz
    rw [flat]; simp; omega
  have hew : EW.length = 18 := by decide
  rcases hc with ⟨rfl, rfl⟩ | ⟨rfl, rfl, rfl⟩ | ⟨hk0, rfl, rfl⟩
  · refine ⟨_, wideL row, by omega, ylen [], ?_, flen [] (by simp), ?_, .plain (by omega) h61 (dec_wide0 halph), halph, by omega⟩
    · have := rows [] (by simp); rw [List.append_nil] at this; exact this
    · rw [flat, List.append_nil]
      refine strip_sp ?_
      by_cases hk0 : k = 0
      · exact .inl (by rw [hz0 hk0]; rfl)
      · exact .inr (hpos (by omega))
  · have hr := hz0 rfl
    subst hr
    refine ⟨_, [] ++ EW, by rw [List.append_nil, List.length_append]; omega, ylen EW, ?_, flen EW (by omega), ?_, ?_, ?_, by simp⟩
    · rw [List.append_nil]; exact rows EW (by decide)
    · rw [flat]
      exact strip_sp (.inr (by decide))
    · exact .word (P := []) (l := []) (by simp) (by simp) (by show (0 : Int) = _; rfl) (.inl rfl)
    · intro c hc; rw [show c = 228 from by simpa using hc]; decide
  · obtain ⟨q1, q2, q3⟩ := hpos hk0
    have e5 : raw0 ++ [32] ++ EW = raw0 ++ ([32] ++ EW) := by simp
    have hP : wideL (row0 ++ [32]) = wideL row0 ++ [32] := by rw [wideL_append]; rfl
    have hal : ∀ c ∈ row0 ++ [32], Alph c := by
      intro c hc
      rcases List.mem_append.mp hc with hc | hc
      · exact halph c hc
      · rw [List.mem_singleton.mp hc]; decide
    refine ⟨_, wideL (row0 ++ [32]) ++ EW, by simp; omega, ylen ([32] ++ EW), ?_, flen ([32] ++ EW) (by simp; omega), ?_, ?_, ?_, by simp; omega⟩
    · rw [e5]; exact rows ([32] ++ EW) (by decide)
    · rw [flat, hP]
      refine (strip_sp (.inr ⟨by simp [q1], by rw [headD_app _ _ q1]; exact q2, by rw [getLastD_app _ _ (by decide)]; decide⟩)).trans (by simp)
    · refine .word (by rw [hP]; simp; omega) ?_ (dec_wide0 hal) (.inr ?_)
      · rw [hP, List.mem_append]
        rintro (h | h)
        · exact h61 h
        · revert h; decide
      · rw [hP, getLastD_app _ _ (by decide)]; decide
    · intro c hc
      rcases List.mem_append.mp hc with hc | hc
      · exact hal c hc
      · rw [List.mem_singleton.mp hc]; decide

section
variable {w : World} {vw : Program} {lo : List Str} {mean : ExcName → Option Value} {mg mb : Str → Option Value} {s : Shared}
theorem c_dwords {y : List UInt8} {row : List Nat} {t : Tok} (h : Und y row) (b : Bs w vw lo mean mg mb s.heap) :
    Cl w 8 s (call (.ref 286) [.bytes y.toArray t]) (fun r _ => ∃ t, r = .str (st row) t) := by
  cases h with
  | plain h1 h2 h3 => exact c_dwords1 (by omega) h2 h3 b
  | @word P l h1 h2 h3 h4 =>
    have hE : EW.length = 18 := by decide
    refine c_dwords3 (k := P.length) (ewat (by omega)) (fun j hj => ?_) ?_ ?_ ?_ (by omega) h3 b
    · rw [getD_append_left' _ _ _ _ hj]; exact getD_no61 h2 hj
    · have := getD_pre P EW 0
      rw [Nat.add_zero] at this
      rw [this]; decide
    · have := cutB_eq (x := P ++ EW) (i := 0) (j := P.length) (Nat.zero_le _) (by simp)
      rw [show ((0 : Nat) : Int) = 0 from rfl] at this
      rw [this]; simp
    · rcases h4 with rfl | h4
      · exact .inl rfl
      · by_cases hP : P = []
        · subst hP; exact .inl rfl
        · have hp : 0 < P.length := List.length_pos_iff.mpr hP
          refine .inr ⟨by omega, by simp; omega, ?_⟩
          rw [show ((P.length : Int) - 1).toNat = P.length - 1 from by omega, getD_append_left' _ _ _ _ (by omega)]
          have : P.getD (P.length - 1) 0 = P.getLastD 0 := by
            rw [List.getLastD_eq_getLast?, List.getLast?_eq_getElem?, List.getD_eq_getElem?_getD]
          rw [this, h4]; rfl
theorem c_ftext {a : Addr} {nm rw' : List UInt8} {row : List Nat} (hf : FieldAt w.params s.heap a nm rw') (hs : FieldSpec rw' row) (b : Bs w vw lo mean mg mb s.heap) :
    Cl w 9 s (call (.ref 300) [.ref a]) (fun r _ => ∃ t, r = .str (st row) t) := by
  refine' enter (binds := [(Str.ofString "field", .ref a)]) b ?k6 ?k7 ?k9 ?kB ?c5 ?c2 ?c3 ?c4 ?_
  ((case k6 => k_is); (case k7 => k_is); (case k9 => exact rfl); (case kB => exact locs rfl); (case c5 => decide); (case c2 => exact rfl); (case c3 => exact rfl); (case c4 => exact rfl))
  intro dp un fr gd h₁ tk hd hu F X T N
  obtain ⟨dx, k1, k2, t1, t2, n, e1, e2⟩ := hf
  obtain ⟨ys, y, z1, z2, z3, z4, rfl, z5, z6, z7⟩ := hs.und
  ((try dsimp only); (try k_fold); repeat' (first | (k_unfold; (try dsimp only)) | ((first | with_reducible ((with_reducible show wpAny _ _ (binaryOp PySem.Operator.Add (Value.str _ _) (Value.str _ _)) _ _ _); (refine sadd (by with_reducible first | exact ofSc | exact rfl) (by with_reducible first | exact ofSc | exact rfl) (by (try simp only [List.length_append, List.length_cons, List.length_nil]); omega) ?_; intro t'z k'z)) | ((with_reducible show wpAny _ _ (call (Value.ref 300) _) _ _ _); refine' useV (fun b => c_ftext (FieldAt.keeps (by assumption) (Fr.keep (by k_asm))) (by assumption) b) ?kF ?kN ?kX ?kT ?kh ?kd ?ku ?_; walk_at "ARGS"; intro t'z h'z tk'z F'z N'z) | ((with_reducible show wpAny _ _ (call (Value.ref 286) _) _ _ _); refine' useV (fun b => c_dwords (by assumption) b) ?kF ?kN ?kX ?kT ?kh ?kd ?ku ?_; walk_at "ARGS"; intro t'z h'z tk'z F'z N'z) | ((with_reducible show wpAny _ _ (call (Value.ref 184) _) _ _ _); refine' useV (fun b => c_unfolded (by assumption) (by assumption) (by assumption) (by assumption) b) ?kF ?kN ?kX ?kT ?kh ?kd ?ku ?_; walk_at "ARGS"; intro t'z h'z tk'z F'z N'z) | ((with_reducible show wpAny _ _ (call (Value.ref 159) _) _ _ _); refine' useField ?kF ?kN ?kX ?kT ?kh ?kd ?ku ?_; (case kF => k_asm); (case kN => k_asm); (case kX => k_asm); (case kT => k_asm); (case kh => exact rfl); (case kd => (try dsimp only); omega); (case ku => (try dsimp only); omega); intro x'z dx'z k1'z k2'z t1'z t2'z n'z h'z tk'z F'z N'z ox'z odx'z hxd'z; (try (simp only [LCg.Off1, and_true] at ox'z)); (try (simp only [LCg.Off1, and_true] at odx'z))) | with_reducible ((with_reducible show wpAny _ _ (call (Value.ref 330) _) _ _ _); refine' useTake ?kF ?kN ?kUh9 ?kX ?kT ?kSh9 ?kSBh9 ?kih9 ?kzh9 ?kph9 ?kmh9 ?kh ?kd ?ku ?_; (case kF => k_asm); (case kN => k_asm); (case kUh9 => k_updF); (case kX => k_asm); (case kT => k_asm); (case kSh9 => exact isList_up (by assumption) (Fr.keep (by k_asm))); (case kSBh9 => assumption); (case kih9 => assumption); (case kzh9 => assumption); (case kph9 => assumption); (case kmh9 => (first | decide | omega)); (case kh => exact rfl); (case kd => (try dsimp only); omega); (case ku => (try dsimp only); omega); intro r t'z p'z q'z t1'z t2'z n'z h'z tk'z F'z N'z hr1 hr2 hp'z) | with_reducible ((with_reducible show wpAny _ _ (binaryOp PySem.Operator.Add (Value.str _ _) (Value.str _ _)) _ _ _); (refine sadd (by with_reducible first | exact ofS0 | exact ofS9 | exact ofS32 | exact ofSae | exact rfl) (by with_reducible first | exact ofS0 | exact ofS9 | exact ofS32 | exact ofSae | exact rfl) (by (try simp only [List.length_append, List.length_cons, List.length_nil]); omega) ?_; intro t'z k'z)) | with_reducible ((with_reducible show wpAny _ _ (call (Value.ref 116) _) _ _ _); refine' useV (fun b => c_text_l (by assumption) (by assumption) b) ?kF ?kN ?kX ?kT ?kh ?kd ?ku ?_; walk_at "ARGS"; intro t'z h'z tk'z F'z N'z) | with_reducible ((with_reducible show wpAny _ _ (call (Value.ref 123) _) _ _ _); refine' useV (fun b => c_strict (by assumption) (by assumption) b) ?kF ?kN ?kX ?kT ?kh ?kd ?ku ?_; walk_at "ARGS"; intro t'z h'z tk'z F'z N'z) | with_reducible ((with_reducible show wpAny _ _ (call (Value.ref 116) _) _ _ _); refine' useV (fun b => c_text_u (by assumption) (by assumption) b) ?kF ?kN ?kX ?kT ?kh ?kd ?ku ?_; walk_at "ARGS"; intro t'z h'z tk'z F'z N'z) | with_reducible ((with_reducible show wpAny _ _ (call (Value.ref 109) _) _ _ _); refine' useT2 (fun b => c_sign_l (by assumption) (by assumption) (by assumption) (by assumption) b) ?kF ?kN ?kX ?kT ?kh ?kd ?ku ?_; walk_at "ARGS"; intro D n'z t1 t2 h'z tk'z F'z N'z o1; (try (simp only [LCg.Off1, and_true] at o1))) | with_reducible ((with_reducible show wpAny _ _ (eval (PySem.Expr.Name _ _) _) _ _ _); (k_dflt (first | (refine' nameX_L ?Fh9 ?vh9 ?_ ?ah9 ?bh9; (case Fh9 => k_asm); (case ah9 => rfl); (case bh9 => rfl); (case vh9 => rfl); k_whole) | (refine' nameX_K ?Fh9 ?Xh9 ?Th9 ?eh9 ?_ ?ah9 ?bh9; (case Fh9 => k_asm); (case Xh9 => k_asm); (case Th9 => k_asm); (case ah9 => rfl); (case bh9 => rfl); (case eh9 => k_is); k_whole) | (refine' nameX_B ?Fh9 ?Xh9 ?Th9 ?eh9 ?vh9 ?nh9 ?_ ?ah9 ?bh9; (case Fh9 => k_asm); (case Xh9 => k_asm); (case Th9 => k_asm); (case ah9 => rfl); (case bh9 => rfl); (case eh9 => k_is); (case vh9 => boot_fast); (case nh9 => decide); k_whole)))) | with_reducible ((with_reducible show wpAny _ _ (spliced _) _ _ _); (k_dflt (first | refine args_cons ?_ | (refine args_nil ?_; (try simp only [List.cons_append, List.nil_append]))))) | walk1); (try dsimp only); (try ((with_reducible show wpAny _ _ _ _ _ ⟨_, _, _, _ + _, _⟩); refine anyToks ?_; intro _)); (repeat ((first | with_reducible rename (_ < _ ∧ _) => hhzz | with_reducible rename (_ ≠ _ ∧ _) => hhzz | with_reducible rename ((_ ≠ _ ∧ _) ∧ _) => hhzz); have := hhzz.1; have := hhzz.2; clear hhzz))) | (dsimp only; walk1) | (leave1; (try dsimp only)) | fail "no step"))
  exact Done.ret (by k_asm) ⟨_, rfl⟩
theorem ofSc : Str.ofString ": " = st [58, 32] := by decide +kernel
theorem c_fline {a : Addr} {nm rw' : List UInt8} {row : List Nat} (hf : FieldAt w.params s.heap a nm rw') (hs : FieldSpec rw' row) (hn : nm.length ≤ 1000) (hl : (nm.map UInt8.toNat).length ≤ 1000) (hr : row.length ≤ 1000) (b : Bs w vw lo mean mg mb s.heap) :
    Cl w 10 s (call (.ref 307) [.ref a]) (fun r _ => ∃ t, r = .str (st (nm.map UInt8.toNat ++ [58, 32] ++ row)) t) := by
  refine' enter (binds := [(Str.ofString "field", .ref a)]) b ?k6 ?k7 ?k9 ?kB ?c5 ?c2 ?c3 ?c4 ?_
  ((case k6 => k_is); (case k7 => k_is); (case k9 => exact rfl); (case kB => exact locs rfl); (case c5 => decide); (case c2 => exact rfl); (case c3 => exact rfl); (case c4 => exact rfl))
  intro dp un fr gd h₁ tk hd hu F X T N
  have hf0 := hf
  obtain ⟨dx, k1, k2, t1, t2, n, e1, e2⟩ := hf0
  have hx : nm.length ≤ 1000000 := by omega
  have hL := decL0 nm
  ((try dsimp only); (try k_fold); repeat' (first | (k_unfold; (try dsimp only)) | ((first | with_reducible ((with_reducible show wpAny _ _ (binaryOp PySem.Operator.Add (Value.str _ _) (Value.str _ _)) _ _ _); (refine sadd (by with_reducible first | exact ofSc | exact rfl) (by with_reducible first | exact ofSc | exact rfl) (by (try simp only [List.length_append, List.length_cons, List.length_nil]); omega) ?_; intro t'z k'z)) | ((with_reducible show wpAny _ _ (call (Value.ref 300) _) _ _ _); refine' useV (fun b => c_ftext (FieldAt.keeps (by assumption) (Fr.keep (by k_asm))) (by assumption) b) ?kF ?kN ?kX ?kT ?kh ?kd ?ku ?_; walk_at "ARGS"; intro t'z h'z tk'z F'z N'z) | ((with_reducible show wpAny _ _ (call (Value.ref 286) _) _ _ _); refine' useV (fun b => c_dwords (by assumption) b) ?kF ?kN ?kX ?kT ?kh ?kd ?ku ?_; walk_at "ARGS"; intro t'z h'z tk'z F'z N'z) | ((with_reducible show wpAny _ _ (call (Value.ref 184) _) _ _ _); refine' useV (fun b => c_unfolded (by assumption) (by assumption) (by assumption) (by assumption) b) ?kF ?kN ?kX ?kT ?kh ?kd ?ku ?_; walk_at "ARGS"; intro t'z h'z tk'z F'z N'z) | ((with_reducible show wpAny _ _ (call (Value.ref 159) _) _ _ _); refine' useField ?kF ?kN ?kX ?kT ?kh ?kd ?ku ?_; (case kF => k_asm); (case kN => k_asm); (case kX => k_asm); (case kT => k_asm); (case kh => exact rfl); (case kd => (try dsimp only); omega); (case ku => (try dsimp only); omega); intro x'z dx'z k1'z k2'z t1'z t2'z n'z h'z tk'z F'z N'z ox'z odx'z hxd'z; (try (simp only [LCg.Off1, and_true] at ox'z)); (try (simp only [LCg.Off1, and_true] at odx'z))) | with_reducible ((with_reducible show wpAny _ _ (call (Value.ref 330) _) _ _ _); refine' useTake ?kF ?kN ?kUh9 ?kX ?kT ?kSh9 ?kSBh9 ?kih9 ?kzh9 ?kph9 ?kmh9 ?kh ?kd ?ku ?_; (case kF => k_asm); (case kN => k_asm); (case kUh9 => k_updF); (case kX => k_asm); (case kT => k_asm); (case kSh9 => exact isList_up (by assumption) (Fr.keep (by k_asm))); (case kSBh9 => assumption); (case kih9 => assumption); (case kzh9 => assumption); (case kph9 => assumption); (case kmh9 => (first | decide | omega)); (case kh => exact rfl); (case kd => (try dsimp only); omega); (case ku => (try dsimp only); omega); intro r t'z p'z q'z t1'z t2'z n'z h'z tk'z F'z N'z hr1 hr2 hp'z) | with_reducible ((with_reducible show wpAny _ _ (binaryOp PySem.Operator.Add (Value.str _ _) (Value.str _ _)) _ _ _); (refine sadd (by with_reducible first | exact ofS0 | exact ofS9 | exact ofS32 | exact ofSae | exact rfl) (by with_reducible first | exact ofS0 | exact ofS9 | exact ofS32 | exact ofSae | exact rfl) (by (try simp only [List.length_append, List.length_cons, List.length_nil]); omega) ?_; intro t'z k'z)) | with_reducible ((with_reducible show wpAny _ _ (call (Value.ref 116) _) _ _ _); refine' useV (fun b => c_text_l (by assumption) (by assumption) b) ?kF ?kN ?kX ?kT ?kh ?kd ?ku ?_; walk_at "ARGS"; intro t'z h'z tk'z F'z N'z) | with_reducible ((with_reducible show wpAny _ _ (call (Value.ref 123) _) _ _ _); refine' useV (fun b => c_strict (by assumption) (by assumption) b) ?kF ?kN ?kX ?kT ?kh ?kd ?ku ?_; walk_at "ARGS"; intro t'z h'z tk'z F'z N'z) | with_reducible ((with_reducible show wpAny _ _ (call (Value.ref 116) _) _ _ _); refine' useV (fun b => c_text_u (by assumption) (by assumption) b) ?kF ?kN ?kX ?kT ?kh ?kd ?ku ?_; walk_at "ARGS"; intro t'z h'z tk'z F'z N'z) | with_reducible ((with_reducible show wpAny _ _ (call (Value.ref 109) _) _ _ _); refine' useT2 (fun b => c_sign_l (by assumption) (by assumption) (by assumption) (by assumption) b) ?kF ?kN ?kX ?kT ?kh ?kd ?ku ?_; walk_at "ARGS"; intro D n'z t1 t2 h'z tk'z F'z N'z o1; (try (simp only [LCg.Off1, and_true] at o1))) | with_reducible ((with_reducible show wpAny _ _ (eval (PySem.Expr.Name _ _) _) _ _ _); (k_dflt (first | (refine' nameX_L ?Fh9 ?vh9 ?_ ?ah9 ?bh9; (case Fh9 => k_asm); (case ah9 => rfl); (case bh9 => rfl); (case vh9 => rfl); k_whole) | (refine' nameX_K ?Fh9 ?Xh9 ?Th9 ?eh9 ?_ ?ah9 ?bh9; (case Fh9 => k_asm); (case Xh9 => k_asm); (case Th9 => k_asm); (case ah9 => rfl); (case bh9 => rfl); (case eh9 => k_is); k_whole) | (refine' nameX_B ?Fh9 ?Xh9 ?Th9 ?eh9 ?vh9 ?nh9 ?_ ?ah9 ?bh9; (case Fh9 => k_asm); (case Xh9 => k_asm); (case Th9 => k_asm); (case ah9 => rfl); (case bh9 => rfl); (case eh9 => k_is); (case vh9 => boot_fast); (case nh9 => decide); k_whole)))) | with_reducible ((with_reducible show wpAny _ _ (spliced _) _ _ _); (k_dflt (first | refine args_cons ?_ | (refine args_nil ?_; (try simp only [List.cons_append, List.nil_append]))))) | walk1); (try dsimp only); (try ((with_reducible show wpAny _ _ _ _ _ ⟨_, _, _, _ + _, _⟩); refine anyToks ?_; intro _)); (repeat ((first | with_reducible rename (_ < _ ∧ _) => hhzz | with_reducible rename (_ ≠ _ ∧ _) => hhzz | with_reducible rename ((_ ≠ _ ∧ _) ∧ _) => hhzz); have := hhzz.1; have := hhzz.2; clear hhzz))) | (dsimp only; walk1) | (leave1; (try dsimp only)) | fail "no step"))
  exact Done.ret (by k_asm) ⟨_, rfl⟩
end

section
variable {w : World} {vw : Program} {lo : List Str} {mean : ExcName → Option Value} {mg mb : Str → Option Value} {s : Shared}
theorem c_word2 {nm rw' : List UInt8} {a : Addr} (hf : FieldAt w.params s.heap a nm rw') (hl : nm.length ≤ 1000000) (b : Bs w vw lo mean mg mb s.heap) : Cl w 3 s (call (.ref 149) [.ref a]) (fun r _ => ∃ t', r = .str (st ((nm.map UInt8.toNat).map lowN)) t') := c_word hl hf b
noncomputable def FldsAt (P : Params) (h : Heap) (vs : Array Value) (fs : List (List UInt8 × List Nat)) : Prop :=
  vs.size = fs.length ∧ ∀ (i : Nat) (f : List UInt8 × List Nat), fs[i]? = some f → ∃ a rw', vs[i]? = some (.ref a) ∧ FieldAt P h a f.1 rw' ∧ FieldSpec rw' f.2 ∧ f.1 ∈ lawNames
noncomputable def mH (wS : Str) (pc : List Nat) (f : List UInt8 × List Nat) : Bool := (st ((f.1.map UInt8.toNat).map lowN) == wS) && (pc.isEmpty || isIn (pc.map lowN) (f.2.map lowN))
noncomputable def mL (pc : List Nat) (f : List UInt8 × List Nat) : Bool := isIn (pc.map lowN) ((f.1.map UInt8.toNat ++ [58, 32] ++ f.2).map lowN)
noncomputable def HdJ (M : List UInt8 × List Nat → Bool) (fs : List (List UInt8 × List Nat)) (b1 : List (Str × Value)) (i : Nat) (m : Str → Option Value) (news : List (Addr × Obj)) : Prop :=
  (∀ p ∈ b1, m p.1 = some p.2) ∧ news = [] ∧ ∀ j f, j < i → fs[j]? = some f → M f = false
theorem any_of {M : List UInt8 × List Nat → Bool} {fs : List (List UInt8 × List Nat)} {i : Nat} {f : List UInt8 × List Nat} (h : fs[i]? = some f) (hm : M f = true) : fs.any M = true :=
  List.any_eq_true.mpr ⟨f, List.mem_of_getElem? h, hm⟩
theorem any_not {M : List UInt8 × List Nat → Bool} {fs : List (List UInt8 × List Nat)} (h : ∀ j f, j < fs.length → fs[j]? = some f → M f = false) : fs.any M = false := by
  rw [List.any_eq_false]
  intro f hf
  obtain ⟨j, hj, e⟩ := List.getElem_of_mem hf
  rw [h j f hj (by rw [List.getElem?_eq_getElem hj, e])]
  exact Bool.false_ne_true
theorem no_step {M : List UInt8 × List Nat → Bool} {fs : List (List UInt8 × List Nat)} {i : Nat} {f : List UInt8 × List Nat} (hno : ∀ j f, j < i → fs[j]? = some f → M f = false) (h : fs[i]? = some f) (hm : M f = false) : ∀ j f, j < i + 1 → fs[j]? = some f → M f = false := by
  intro j f' hj e
  rcases Nat.lt_or_ge j i with h1 | h1
  · exact hno j f' h1 e
  · have : j = i := by omega
    subst this
    rw [h] at e
    exact Option.some.inj e ▸ hm
theorem wideL_nil {pc : List Nat} : (wideL pc == []) = pc.isEmpty := by
  cases pc with
  | nil => rfl
  | cons c r =>
    show _ = false
    rw [beq_eq_false_iff_ne]
    intro e
    have h3 : wide c ≠ [] := by
      unfold wide
      split
      · simp
      · split <;> simp
    have e3 : wide c ++ wideL r = [] := by simpa [wideL] using e
    exact h3 (List.append_eq_nil_iff.mp e3).1
theorem frSet3 {h₀ h : Heap} {L : Addr} {m : Str → Option Value} {x1 x2 x3 : Str} {v1 v2 v3 : Value} (F : Fr h₀ L h m) (h1 : m x1 = some v1) (h2 : m x2 = some v2) (h3 : m x3 = some v3) :
    Fr h₀ L h (fun y => if y = x1 then some v1 else if y = x2 then some v2 else if y = x3 then some v3 else m y) := by
  have : (fun y => if y = x1 then some v1 else if y = x2 then some v2 else if y = x3 then some v3 else m y) = m := by
    funext y
    by_cases e1 : y = x1
    · rw [if_pos e1, e1, h1]
    · rw [if_neg e1]
      by_cases e2 : y = x2
      · rw [if_pos e2, e2, h2]
      · rw [if_neg e2]
        by_cases e3 : y = x3
        · rw [if_pos e3, e3, h3]
        · rw [if_neg e3]
  rw [this]; exact F

theorem c_header {FL : Addr} {vs : Array Value} {fs : List (List UInt8 × List Nat)} {wS : Str} {pc : List Nat} {t tw : Tok} (hL : s.heap.IsList FL vs) (hf : FldsAt w.params s.heap vs fs) (hz : fs.length ≤ 1000) (hA : ∀ c ∈ pc, Alph c) (hpl : pc.length ≤ 10000) (b : Bs w vw lo mean mg mb s.heap) :
    Cl w 10 s (call (.ref 314) [.ref FL, .str wS tw, .bytes (wideL pc).toArray t]) (fun v _ => v = .bool (fs.any (mH wS pc))) := by
  refine' enter (binds := [(Str.ofString "fields", .ref FL), (Str.ofString "word", .str wS tw), (Str.ofString "octets", .bytes (wideL pc).toArray t)]) b ?k6 ?k7 ?k9 ?kB ?c5 ?c2 ?c3 ?c4 ?_
  ((case k6 => k_is); (case k7 => k_is); (case k9 => exact rfl); (case kB => exact locs rfl); (case c5 => decide); (case c2 => exact rfl); (case c3 => exact rfl); (case c4 => exact rfl))
  intro dp un fr gd h₁ tk hd hu F X T N
  have hx : (wideL pc).length ≤ 1000000 := by have := wideL_len pc; omega
  have hdec := dec_wide0 hA
  have hsz := hf.1
  have mk3 := Mk.on 3
  ((try dsimp only); (try k_fold); repeat' (first | (k_unfold; (try dsimp only)) | ((first | ((with_reducible show wpAny _ _ (call (Value.ref 307) _) _ _ _); refine' useV (fun b => c_fline (FieldAt.keeps (by assumption) (Fr.keep (by k_asm))) (by assumption) (by assumption) (by assumption) (by assumption) b) ?kF ?kN ?kX ?kT ?kh ?kd ?ku ?_; walk_at "ARGS"; intro t'z h'z tk'z F'z N'z) | ((with_reducible show wpAny _ _ (call (Value.ref 149) _) _ _ _); (try dsimp only [List.cons_append, List.nil_append]); refine' useV (fun b => c_word2 (FieldAt.keeps (by assumption) (Fr.keep (by k_asm))) (by assumption) b) ?kF ?kN ?kX ?kT ?kh ?kd ?ku ?_; walk_at "ARGS"; intro t'z h'z tk'z F'z N'z) | ((with_reducible show wpAny _ _ (call (Value.ref 300) _) _ _ _); refine' useV (fun b => c_ftext (FieldAt.keeps (by assumption) (Fr.keep (by k_asm))) (by assumption) b) ?kF ?kN ?kX ?kT ?kh ?kd ?ku ?_; walk_at "ARGS"; intro t'z h'z tk'z F'z N'z) | ((with_reducible show wpAny _ _ (call (Value.ref 286) _) _ _ _); refine' useV (fun b => c_dwords (by assumption) b) ?kF ?kN ?kX ?kT ?kh ?kd ?ku ?_; walk_at "ARGS"; intro t'z h'z tk'z F'z N'z) | ((with_reducible show wpAny _ _ (call (Value.ref 184) _) _ _ _); refine' useV (fun b => c_unfolded (by assumption) (by assumption) (by assumption) (by assumption) b) ?kF ?kN ?kX ?kT ?kh ?kd ?ku ?_; walk_at "ARGS"; intro t'z h'z tk'z F'z N'z) | with_reducible ((with_reducible show wpAny _ _ (call (Value.ref 293) _) _ _ _); refine' useV0 (fun b => c_within (by assumption) (by assumption) (by assumption) (by assumption) b) ?kF ?kN ?kX ?kT ?kh ?kd ?ku ?_; walk_at "ARGS"; intro h'z tk'z F'z N'z) | with_reducible ((with_reducible show wpAny _ _ (call (Value.ref 130) _) _ _ _); refine' useV (fun b => c_guess (by assumption) (by assumption) b) ?kF ?kN ?kX ?kT ?kh ?kd ?ku ?_; walk_at "ARGS"; intro t'z h'z tk'z F'z N'z) | with_reducible ((with_reducible show wpAny _ _ (call (Value.ref 66) _) _ _ _); refine' useV (fun b => c_lower_text (by assumption) (by assumption) b) ?kF ?kN ?kX ?kT ?kh ?kd ?ku ?_; walk_at "ARGS"; intro t'z h'z tk'z F'z N'z) | with_reducible ((with_reducible show wpAny _ _ (eval (PySem.Expr.Name _ _) _) _ _ _); (k_dflt (first | (refine' nameX_L ?Fh9 ?vh9 ?_ ?ah9 ?bh9; (case Fh9 => k_asm); (case ah9 => rfl); (case bh9 => rfl); (case vh9 => rfl); k_whole) | (refine' nameX_K ?Fh9 ?Xh9 ?Th9 ?eh9 ?_ ?ah9 ?bh9; (case Fh9 => k_asm); (case Xh9 => k_asm); (case Th9 => k_asm); (case ah9 => rfl); (case bh9 => rfl); (case eh9 => k_is); k_whole) | (refine' nameX_B ?Fh9 ?Xh9 ?Th9 ?eh9 ?vh9 ?nh9 ?_ ?ah9 ?bh9; (case Fh9 => k_asm); (case Xh9 => k_asm); (case Th9 => k_asm); (case ah9 => rfl); (case bh9 => rfl); (case eh9 => k_is); (case vh9 => boot_fast); (case nh9 => decide); k_whole)))) | with_reducible ((with_reducible show wpAny _ _ (spliced _) _ _ _); (k_dflt (first | refine args_cons ?_ | (refine args_nil ?_; (try simp only [List.cons_append, List.nil_append]))))) | with_reducible ((with_reducible show wpAny _ _ (exec (PySem.Stmt.For _ (PySem.Expr.Name _ _) _ _ _) _) _ _ _); ((rename Mk 3 => mk'z); refine Stop.mk ?_)) | with_reducible (k_closed; first | with_reducible refine PySem.W.ite_pos (by with_unfolding_all decide) ?_ | with_reducible refine PySem.W.ite_neg (by with_unfolding_all decide) ?_) | walk1); (try dsimp only); (try ((with_reducible show wpAny _ _ _ _ _ ⟨_, _, _, _ + _, _⟩); refine anyToks ?_; intro _)); (repeat ((first | with_reducible rename (_ < _ ∧ _) => hhzz | with_reducible rename (_ ≠ _ ∧ _) => hhzz | with_reducible rename ((_ ≠ _ ∧ _) ∧ _) => hhzz); have := hhzz.1; have := hhzz.2; clear hhzz))) | (dsimp only; walk1) | (leave1; (try dsimp only)) | fail "no step"))
  rename Mk 3 => mk3; clear mk3
  refine Stop.out ?_
  refine for_list (F₀ := by k_asm) rfl ?_
  ((try dsimp only); (try k_fold); repeat' (first | (k_unfold; (try dsimp only)) | ((first | ((with_reducible show wpAny _ _ (call (Value.ref 307) _) _ _ _); refine' useV (fun b => c_fline (FieldAt.keeps (by assumption) (Fr.keep (by k_asm))) (by assumption) (by assumption) (by assumption) (by assumption) b) ?kF ?kN ?kX ?kT ?kh ?kd ?ku ?_; walk_at "ARGS"; intro t'z h'z tk'z F'z N'z) | ((with_reducible show wpAny _ _ (call (Value.ref 149) _) _ _ _); (try dsimp only [List.cons_append, List.nil_append]); refine' useV (fun b => c_word2 (FieldAt.keeps (by assumption) (Fr.keep (by k_asm))) (by assumption) b) ?kF ?kN ?kX ?kT ?kh ?kd ?ku ?_; walk_at "ARGS"; intro t'z h'z tk'z F'z N'z) | ((with_reducible show wpAny _ _ (call (Value.ref 300) _) _ _ _); refine' useV (fun b => c_ftext (FieldAt.keeps (by assumption) (Fr.keep (by k_asm))) (by assumption) b) ?kF ?kN ?kX ?kT ?kh ?kd ?ku ?_; walk_at "ARGS"; intro t'z h'z tk'z F'z N'z) | ((with_reducible show wpAny _ _ (call (Value.ref 286) _) _ _ _); refine' useV (fun b => c_dwords (by assumption) b) ?kF ?kN ?kX ?kT ?kh ?kd ?ku ?_; walk_at "ARGS"; intro t'z h'z tk'z F'z N'z) | ((with_reducible show wpAny _ _ (call (Value.ref 184) _) _ _ _); refine' useV (fun b => c_unfolded (by assumption) (by assumption) (by assumption) (by assumption) b) ?kF ?kN ?kX ?kT ?kh ?kd ?ku ?_; walk_at "ARGS"; intro t'z h'z tk'z F'z N'z) | with_reducible ((with_reducible show wpAny _ _ (call (Value.ref 293) _) _ _ _); refine' useV0 (fun b => c_within (by assumption) (by assumption) (by assumption) (by assumption) b) ?kF ?kN ?kX ?kT ?kh ?kd ?ku ?_; walk_at "ARGS"; intro h'z tk'z F'z N'z) | with_reducible ((with_reducible show wpAny _ _ (call (Value.ref 130) _) _ _ _); refine' useV (fun b => c_guess (by assumption) (by assumption) b) ?kF ?kN ?kX ?kT ?kh ?kd ?ku ?_; walk_at "ARGS"; intro t'z h'z tk'z F'z N'z) | with_reducible ((with_reducible show wpAny _ _ (call (Value.ref 66) _) _ _ _); refine' useV (fun b => c_lower_text (by assumption) (by assumption) b) ?kF ?kN ?kX ?kT ?kh ?kd ?ku ?_; walk_at "ARGS"; intro t'z h'z tk'z F'z N'z) | with_reducible ((with_reducible show wpAny _ _ (eval (PySem.Expr.Name _ _) _) _ _ _); (k_dflt (first | (refine' nameX_L ?Fh9 ?vh9 ?_ ?ah9 ?bh9; (case Fh9 => k_asm); (case ah9 => rfl); (case bh9 => rfl); (case vh9 => rfl); k_whole) | (refine' nameX_K ?Fh9 ?Xh9 ?Th9 ?eh9 ?_ ?ah9 ?bh9; (case Fh9 => k_asm); (case Xh9 => k_asm); (case Th9 => k_asm); (case ah9 => rfl); (case bh9 => rfl); (case eh9 => k_is); k_whole) | (refine' nameX_B ?Fh9 ?Xh9 ?Th9 ?eh9 ?vh9 ?nh9 ?_ ?ah9 ?bh9; (case Fh9 => k_asm); (case Xh9 => k_asm); (case Th9 => k_asm); (case ah9 => rfl); (case bh9 => rfl); (case eh9 => k_is); (case vh9 => boot_fast); (case nh9 => decide); k_whole)))) | with_reducible ((with_reducible show wpAny _ _ (spliced _) _ _ _); (k_dflt (first | refine args_cons ?_ | (refine args_nil ?_; (try simp only [List.cons_append, List.nil_append]))))) | with_reducible ((with_reducible show wpAny _ _ (exec (PySem.Stmt.For _ (PySem.Expr.Name _ _) _ _ _) _) _ _ _); ((rename Mk 3 => mk'z); refine Stop.mk ?_)) | with_reducible (k_closed; first | with_reducible refine PySem.W.ite_pos (by with_unfolding_all decide) ?_ | with_reducible refine PySem.W.ite_neg (by with_unfolding_all decide) ?_) | walk1); (try dsimp only); (try ((with_reducible show wpAny _ _ _ _ _ ⟨_, _, _, _ + _, _⟩); refine anyToks ?_; intro _)); (repeat ((first | with_reducible rename (_ < _ ∧ _) => hhzz | with_reducible rename (_ ≠ _ ∧ _) => hhzz | with_reducible rename ((_ ≠ _ ∧ _) ∧ _) => hhzz); have := hhzz.1; have := hhzz.2; clear hhzz))) | (dsimp only; walk1) | (leave1; (try dsimp only)) | fail "no step"))
  rename Fr _ _ _ _ => F2
  rename News _ _ _ _ => N2
  refine Stop.out ⟨_, vs, _, _, HdJ (mH wS pc) fs [(Str.ofString "fields", .ref FL), (Str.ofString "word", .str wS tw), (Str.ofString "octets", .bytes (wideL pc).toArray t)], rfl, F2, N2, fun i m news h hJ F N => isList_up hL F.keep, ⟨List.forall_mem_cons.mpr ⟨rfl, List.forall_mem_cons.mpr ⟨rfl, List.forall_mem_cons.mpr ⟨rfl, List.forall_mem_nil _⟩⟩⟩, rfl, fun j f hj => absurd hj (Nat.not_lt_zero _)⟩, ?_, ?_⟩
  · intro i v I oI h tk m news hi hv hJ F N off
    clear F2 N2
    obtain ⟨hm, rfl, hno⟩ := hJ
    have hm1 := hm _ (.head _)
    have hm2 := hm _ (.tail _ (.head _))
    have hm3 := hm _ (.tail _ (.tail _ (.head _)))
    dsimp only at hm1 hm2 hm3
    replace F := frSet3 F hm1 hm2 hm3
    have hi' : i < fs.length := by omega
    obtain ⟨a, rw', e1, e2, e3, e4⟩ := hf.2 i _ (List.getElem?_eq_getElem hi')
    generalize hfi : fs[i] = f at *
    have hfe : fs[i]? = some f := by rw [List.getElem?_eq_getElem hi', hfi]
    rw [e1] at hv
    obtain rfl : Value.ref a = v := Option.some.inj hv
    have hnl := name_len e4
    have hn : f.1.length ≤ 1000000 := by omega
    obtain ⟨_, _, _, _, _, _, _, _, z7, z8⟩ := e3.und
    have hr : ∀ c ∈ f.2, c ≤ 1000000 := fun c hc => by have := (z7 c hc).le; omega
    have hrl : f.2.length ≤ 1000000 := by omega
    have e2' := e2
    obtain ⟨dx, k1, k2, t1, t2, n, q1, q2⟩ := e2'
    ((try dsimp only); (try k_fold); repeat' (first | (k_unfold; (try dsimp only)) | ((first | ((with_reducible show wpAny _ _ (call (Value.ref 307) _) _ _ _); refine' useV (fun b => c_fline (FieldAt.keeps (by assumption) (Fr.keep (by k_asm))) (by assumption) (by assumption) (by assumption) (by assumption) b) ?kF ?kN ?kX ?kT ?kh ?kd ?ku ?_; walk_at "ARGS"; intro t'z h'z tk'z F'z N'z) | ((with_reducible show wpAny _ _ (call (Value.ref 149) _) _ _ _); (try dsimp only [List.cons_append, List.nil_append]); refine' useV (fun b => c_word2 (FieldAt.keeps (by assumption) (Fr.keep (by k_asm))) (by assumption) b) ?kF ?kN ?kX ?kT ?kh ?kd ?ku ?_; walk_at "ARGS"; intro t'z h'z tk'z F'z N'z) | ((with_reducible show wpAny _ _ (call (Value.ref 300) _) _ _ _); refine' useV (fun b => c_ftext (FieldAt.keeps (by assumption) (Fr.keep (by k_asm))) (by assumption) b) ?kF ?kN ?kX ?kT ?kh ?kd ?ku ?_; walk_at "ARGS"; intro t'z h'z tk'z F'z N'z) | ((with_reducible show wpAny _ _ (call (Value.ref 286) _) _ _ _); refine' useV (fun b => c_dwords (by assumption) b) ?kF ?kN ?kX ?kT ?kh ?kd ?ku ?_; walk_at "ARGS"; intro t'z h'z tk'z F'z N'z) | ((with_reducible show wpAny _ _ (call (Value.ref 184) _) _ _ _); refine' useV (fun b => c_unfolded (by assumption) (by assumption) (by assumption) (by assumption) b) ?kF ?kN ?kX ?kT ?kh ?kd ?ku ?_; walk_at "ARGS"; intro t'z h'z tk'z F'z N'z) | with_reducible ((with_reducible show wpAny _ _ (call (Value.ref 293) _) _ _ _); refine' useV0 (fun b => c_within (by assumption) (by assumption) (by assumption) (by assumption) b) ?kF ?kN ?kX ?kT ?kh ?kd ?ku ?_; walk_at "ARGS"; intro h'z tk'z F'z N'z) | with_reducible ((with_reducible show wpAny _ _ (call (Value.ref 130) _) _ _ _); refine' useV (fun b => c_guess (by assumption) (by assumption) b) ?kF ?kN ?kX ?kT ?kh ?kd ?ku ?_; walk_at "ARGS"; intro t'z h'z tk'z F'z N'z) | with_reducible ((with_reducible show wpAny _ _ (call (Value.ref 66) _) _ _ _); refine' useV (fun b => c_lower_text (by assumption) (by assumption) b) ?kF ?kN ?kX ?kT ?kh ?kd ?ku ?_; walk_at "ARGS"; intro t'z h'z tk'z F'z N'z) | with_reducible ((with_reducible show wpAny _ _ (eval (PySem.Expr.Name _ _) _) _ _ _); (k_dflt (first | (refine' nameX_L ?Fh9 ?vh9 ?_ ?ah9 ?bh9; (case Fh9 => k_asm); (case ah9 => rfl); (case bh9 => rfl); (case vh9 => rfl); k_whole) | (refine' nameX_K ?Fh9 ?Xh9 ?Th9 ?eh9 ?_ ?ah9 ?bh9; (case Fh9 => k_asm); (case Xh9 => k_asm); (case Th9 => k_asm); (case ah9 => rfl); (case bh9 => rfl); (case eh9 => k_is); k_whole) | (refine' nameX_B ?Fh9 ?Xh9 ?Th9 ?eh9 ?vh9 ?nh9 ?_ ?ah9 ?bh9; (case Fh9 => k_asm); (case Xh9 => k_asm); (case Th9 => k_asm); (case ah9 => rfl); (case bh9 => rfl); (case eh9 => k_is); (case vh9 => boot_fast); (case nh9 => decide); k_whole)))) | with_reducible ((with_reducible show wpAny _ _ (spliced _) _ _ _); (k_dflt (first | refine args_cons ?_ | (refine args_nil ?_; (try simp only [List.cons_append, List.nil_append]))))) | with_reducible ((with_reducible show wpAny _ _ (exec (PySem.Stmt.For _ (PySem.Expr.Name _ _) _ _ _) _) _ _ _); ((rename Mk 3 => mk'z); refine Stop.mk ?_)) | with_reducible (k_closed; first | with_reducible refine PySem.W.ite_pos (by with_unfolding_all decide) ?_ | with_reducible refine PySem.W.ite_neg (by with_unfolding_all decide) ?_) | walk1); (try dsimp only); (try ((with_reducible show wpAny _ _ _ _ _ ⟨_, _, _, _ + _, _⟩); refine anyToks ?_; intro _)); (repeat ((first | with_reducible rename (_ < _ ∧ _) => hhzz | with_reducible rename (_ ≠ _ ∧ _) => hhzz | with_reducible rename ((_ ≠ _ ∧ _) ∧ _) => hhzz); have := hhzz.1; have := hhzz.2; clear hhzz))) | (dsimp only; walk1) | (leave1; (try dsimp only)) | fail "no step"))
    all_goals rename (st _ == wS) = _ => g1
    all_goals rename Fr _ _ _ _ => F3
    all_goals rename News _ _ _ _ => N3
    · rename (wideL pc == []) = _ => g2
      exact Done.ret F3 (congrArg Value.bool (any_of hfe (by unfold mH; rw [g1, ← wideL_nil, g2]; rfl)).symm)
    · rename isIn _ _ = _ => g3
      exact Done.ret F3 (congrArg Value.bool (any_of hfe (by unfold mH; rw [g1, g3, Bool.or_true]; rfl)).symm)
    · rename (wideL pc == []) = _ => g2
      rename isIn _ _ = _ => g3
      exact ⟨_, _, _, [], rfl, F3, N3, trivial, List.forall_mem_cons.mpr ⟨rfl, List.forall_mem_cons.mpr ⟨rfl, List.forall_mem_cons.mpr ⟨rfl, List.forall_mem_nil _⟩⟩⟩, rfl, no_step hno hfe (by unfold mH; rw [g1, ← wideL_nil, g2, g3]; rfl)⟩
    · exact ⟨_, _, _, [], rfl, F3, N3, trivial, List.forall_mem_cons.mpr ⟨rfl, List.forall_mem_cons.mpr ⟨rfl, List.forall_mem_cons.mpr ⟨rfl, List.forall_mem_nil _⟩⟩⟩, rfl, no_step hno hfe (by unfold mH; rw [g1]; rfl)⟩
  · intro h tk m news hJ F N
    clear F2 N2
    obtain ⟨hm, rfl, hno⟩ := hJ
    have hm1 := hm _ (.head _)
    have hm2 := hm _ (.tail _ (.head _))
    have hm3 := hm _ (.tail _ (.tail _ (.head _)))
    dsimp only at hm1 hm2 hm3
    replace F := frSet3 F hm1 hm2 hm3
    ((try dsimp only); (try k_fold); repeat' (first | (k_unfold; (try dsimp only)) | ((first | ((with_reducible show wpAny _ _ (call (Value.ref 307) _) _ _ _); refine' useV (fun b => c_fline (FieldAt.keeps (by assumption) (Fr.keep (by k_asm))) (by assumption) (by assumption) (by assumption) (by assumption) b) ?kF ?kN ?kX ?kT ?kh ?kd ?ku ?_; walk_at "ARGS"; intro t'z h'z tk'z F'z N'z) | ((with_reducible show wpAny _ _ (call (Value.ref 149) _) _ _ _); (try dsimp only [List.cons_append, List.nil_append]); refine' useV (fun b => c_word2 (FieldAt.keeps (by assumption) (Fr.keep (by k_asm))) (by assumption) b) ?kF ?kN ?kX ?kT ?kh ?kd ?ku ?_; walk_at "ARGS"; intro t'z h'z tk'z F'z N'z) | ((with_reducible show wpAny _ _ (call (Value.ref 300) _) _ _ _); refine' useV (fun b => c_ftext (FieldAt.keeps (by assumption) (Fr.keep (by k_asm))) (by assumption) b) ?kF ?kN ?kX ?kT ?kh ?kd ?ku ?_; walk_at "ARGS"; intro t'z h'z tk'z F'z N'z) | ((with_reducible show wpAny _ _ (call (Value.ref 286) _) _ _ _); refine' useV (fun b => c_dwords (by assumption) b) ?kF ?kN ?kX ?kT ?kh ?kd ?ku ?_; walk_at "ARGS"; intro t'z h'z tk'z F'z N'z) | ((with_reducible show wpAny _ _ (call (Value.ref 184) _) _ _ _); refine' useV (fun b => c_unfolded (by assumption) (by assumption) (by assumption) (by assumption) b) ?kF ?kN ?kX ?kT ?kh ?kd ?ku ?_; walk_at "ARGS"; intro t'z h'z tk'z F'z N'z) | with_reducible ((with_reducible show wpAny _ _ (call (Value.ref 293) _) _ _ _); refine' useV0 (fun b => c_within (by assumption) (by assumption) (by assumption) (by assumption) b) ?kF ?kN ?kX ?kT ?kh ?kd ?ku ?_; walk_at "ARGS"; intro h'z tk'z F'z N'z) | with_reducible ((with_reducible show wpAny _ _ (call (Value.ref 130) _) _ _ _); refine' useV (fun b => c_guess (by assumption) (by assumption) b) ?kF ?kN ?kX ?kT ?kh ?kd ?ku ?_; walk_at "ARGS"; intro t'z h'z tk'z F'z N'z) | with_reducible ((with_reducible show wpAny _ _ (call (Value.ref 66) _) _ _ _); refine' useV (fun b => c_lower_text (by assumption) (by assumption) b) ?kF ?kN ?kX ?kT ?kh ?kd ?ku ?_; walk_at "ARGS"; intro t'z h'z tk'z F'z N'z) | with_reducible ((with_reducible show wpAny _ _ (eval (PySem.Expr.Name _ _) _) _ _ _); (k_dflt (first | (refine' nameX_L ?Fh9 ?vh9 ?_ ?ah9 ?bh9; (case Fh9 => k_asm); (case ah9 => rfl); (case bh9 => rfl); (case vh9 => rfl); k_whole) | (refine' nameX_K ?Fh9 ?Xh9 ?Th9 ?eh9 ?_ ?ah9 ?bh9; (case Fh9 => k_asm); (case Xh9 => k_asm); (case Th9 => k_asm); (case ah9 => rfl); (case bh9 => rfl); (case eh9 => k_is); k_whole) | (refine' nameX_B ?Fh9 ?Xh9 ?Th9 ?eh9 ?vh9 ?nh9 ?_ ?ah9 ?bh9; (case Fh9 => k_asm); (case Xh9 => k_asm); (case Th9 => k_asm); (case ah9 => rfl); (case bh9 => rfl); (case eh9 => k_is); (case vh9 => boot_fast); (case nh9 => decide); k_whole)))) | with_reducible ((with_reducible show wpAny _ _ (spliced _) _ _ _); (k_dflt (first | refine args_cons ?_ | (refine args_nil ?_; (try simp only [List.cons_append, List.nil_append]))))) | with_reducible ((with_reducible show wpAny _ _ (exec (PySem.Stmt.For _ (PySem.Expr.Name _ _) _ _ _) _) _ _ _); ((rename Mk 3 => mk'z); refine Stop.mk ?_)) | with_reducible (k_closed; first | with_reducible refine PySem.W.ite_pos (by with_unfolding_all decide) ?_ | with_reducible refine PySem.W.ite_neg (by with_unfolding_all decide) ?_) | walk1); (try dsimp only); (try ((with_reducible show wpAny _ _ _ _ _ ⟨_, _, _, _ + _, _⟩); refine anyToks ?_; intro _)); (repeat ((first | with_reducible rename (_ < _ ∧ _) => hhzz | with_reducible rename (_ ≠ _ ∧ _) => hhzz | with_reducible rename ((_ ≠ _ ∧ _) ∧ _) => hhzz); have := hhzz.1; have := hhzz.2; clear hhzz))) | (dsimp only; walk1) | (leave1; (try dsimp only)) | fail "no step"))
    rw [hsz] at hno
    exact Done.ret (by k_asm) (congrArg Value.bool (any_not hno).symm)

theorem frSet2 {h₀ h : Heap} {L : Addr} {m : Str → Option Value} {x1 x2 : Str} {v1 v2 : Value} (F : Fr h₀ L h m) (h1 : m x1 = some v1) (h2 : m x2 = some v2) :
    Fr h₀ L h (fun y => if y = x1 then some v1 else if y = x2 then some v2 else m y) := by
  have : (fun y => if y = x1 then some v1 else if y = x2 then some v2 else m y) = m := by
    funext y
    by_cases e1 : y = x1
    · rw [if_pos e1, e1, h1]
    · rw [if_neg e1]
      by_cases e2 : y = x2
      · rw [if_pos e2, e2, h2]
      · rw [if_neg e2]
  rw [this]; exact F
theorem c_head {FL : Addr} {vs : Array Value} {fs : List (List UInt8 × List Nat)} {pc : List Nat} {t : Tok} (hL : s.heap.IsList FL vs) (hf : FldsAt w.params s.heap vs fs) (hz : fs.length ≤ 1000) (hA : ∀ c ∈ pc, Alph c) (hpl : pc.length ≤ 10000) (b : Bs w vw lo mean mg mb s.heap) :
    Cl w 11 s (call (.ref 321) [.ref FL, .bytes (wideL pc).toArray t]) (fun v _ => v = .bool (fs.any (mL pc) || pc.isEmpty)) := by
  refine' enter (binds := [(Str.ofString "fields", .ref FL), (Str.ofString "octets", .bytes (wideL pc).toArray t)]) b ?k6 ?k7 ?k9 ?kB ?c5 ?c2 ?c3 ?c4 ?_
  ((case k6 => k_is); (case k7 => k_is); (case k9 => exact rfl); (case kB => exact locs rfl); (case c5 => decide); (case c2 => exact rfl); (case c3 => exact rfl); (case c4 => exact rfl))
  intro dp un fr gd h₁ tk hd hu F X T N
  have hx : (wideL pc).length ≤ 1000000 := by have := wideL_len pc; omega
  have hdec := dec_wide0 hA
  have hsz := hf.1
  have mk3 := Mk.on 3
  ((try dsimp only); (try k_fold); repeat' (first | (k_unfold; (try dsimp only)) | ((first | ((with_reducible show wpAny _ _ (call (Value.ref 307) _) _ _ _); refine' useV (fun b => c_fline (FieldAt.keeps (by assumption) (Fr.keep (by k_asm))) (by assumption) (by assumption) (by assumption) (by assumption) b) ?kF ?kN ?kX ?kT ?kh ?kd ?ku ?_; walk_at "ARGS"; intro t'z h'z tk'z F'z N'z) | ((with_reducible show wpAny _ _ (call (Value.ref 149) _) _ _ _); (try dsimp only [List.cons_append, List.nil_append]); refine' useV (fun b => c_word2 (FieldAt.keeps (by assumption) (Fr.keep (by k_asm))) (by assumption) b) ?kF ?kN ?kX ?kT ?kh ?kd ?ku ?_; walk_at "ARGS"; intro t'z h'z tk'z F'z N'z) | ((with_reducible show wpAny _ _ (call (Value.ref 300) _) _ _ _); refine' useV (fun b => c_ftext (FieldAt.keeps (by assumption) (Fr.keep (by k_asm))) (by assumption) b) ?kF ?kN ?kX ?kT ?kh ?kd ?ku ?_; walk_at "ARGS"; intro t'z h'z tk'z F'z N'z) | ((with_reducible show wpAny _ _ (call (Value.ref 286) _) _ _ _); refine' useV (fun b => c_dwords (by assumption) b) ?kF ?kN ?kX ?kT ?kh ?kd ?ku ?_; walk_at "ARGS"; intro t'z h'z tk'z F'z N'z) | ((with_reducible show wpAny _ _ (call (Value.ref 184) _) _ _ _); refine' useV (fun b => c_unfolded (by assumption) (by assumption) (by assumption) (by assumption) b) ?kF ?kN ?kX ?kT ?kh ?kd ?ku ?_; walk_at "ARGS"; intro t'z h'z tk'z F'z N'z) | with_reducible ((with_reducible show wpAny _ _ (call (Value.ref 293) _) _ _ _); refine' useV0 (fun b => c_within (by assumption) (by assumption) (by assumption) (by assumption) b) ?kF ?kN ?kX ?kT ?kh ?kd ?ku ?_; walk_at "ARGS"; intro h'z tk'z F'z N'z) | with_reducible ((with_reducible show wpAny _ _ (call (Value.ref 130) _) _ _ _); refine' useV (fun b => c_guess (by assumption) (by assumption) b) ?kF ?kN ?kX ?kT ?kh ?kd ?ku ?_; walk_at "ARGS"; intro t'z h'z tk'z F'z N'z) | with_reducible ((with_reducible show wpAny _ _ (call (Value.ref 66) _) _ _ _); refine' useV (fun b => c_lower_text (by assumption) (by assumption) b) ?kF ?kN ?kX ?kT ?kh ?kd ?ku ?_; walk_at "ARGS"; intro t'z h'z tk'z F'z N'z) | with_reducible ((with_reducible show wpAny _ _ (eval (PySem.Expr.Name _ _) _) _ _ _); (k_dflt (first | (refine' nameX_L ?Fh9 ?vh9 ?_ ?ah9 ?bh9; (case Fh9 => k_asm); (case ah9 => rfl); (case bh9 => rfl); (case vh9 => rfl); k_whole) | (refine' nameX_K ?Fh9 ?Xh9 ?Th9 ?eh9 ?_ ?ah9 ?bh9; (case Fh9 => k_asm); (case Xh9 => k_asm); (case Th9 => k_asm); (case ah9 => rfl); (case bh9 => rfl); (case eh9 => k_is); k_whole) | (refine' nameX_B ?Fh9 ?Xh9 ?Th9 ?eh9 ?vh9 ?nh9 ?_ ?ah9 ?bh9; (case Fh9 => k_asm); (case Xh9 => k_asm); (case Th9 => k_asm); (case ah9 => rfl); (case bh9 => rfl); (case eh9 => k_is); (case vh9 => boot_fast); (case nh9 => decide); k_whole)))) | with_reducible ((with_reducible show wpAny _ _ (spliced _) _ _ _); (k_dflt (first | refine args_cons ?_ | (refine args_nil ?_; (try simp only [List.cons_append, List.nil_append]))))) | with_reducible ((with_reducible show wpAny _ _ (exec (PySem.Stmt.For _ (PySem.Expr.Name _ _) _ _ _) _) _ _ _); ((rename Mk 3 => mk'z); refine Stop.mk ?_)) | with_reducible (k_closed; first | with_reducible refine PySem.W.ite_pos (by with_unfolding_all decide) ?_ | with_reducible refine PySem.W.ite_neg (by with_unfolding_all decide) ?_) | walk1); (try dsimp only); (try ((with_reducible show wpAny _ _ _ _ _ ⟨_, _, _, _ + _, _⟩); refine anyToks ?_; intro _)); (repeat ((first | with_reducible rename (_ < _ ∧ _) => hhzz | with_reducible rename (_ ≠ _ ∧ _) => hhzz | with_reducible rename ((_ ≠ _ ∧ _) ∧ _) => hhzz); have := hhzz.1; have := hhzz.2; clear hhzz))) | (dsimp only; walk1) | (leave1; (try dsimp only)) | fail "no step"))
  rename Mk 3 => mk3; clear mk3
  refine Stop.out ?_
  refine for_list (F₀ := by k_asm) rfl ?_
  ((try dsimp only); (try k_fold); repeat' (first | (k_unfold; (try dsimp only)) | ((first | ((with_reducible show wpAny _ _ (call (Value.ref 307) _) _ _ _); refine' useV (fun b => c_fline (FieldAt.keeps (by assumption) (Fr.keep (by k_asm))) (by assumption) (by assumption) (by assumption) (by assumption) b) ?kF ?kN ?kX ?kT ?kh ?kd ?ku ?_; walk_at "ARGS"; intro t'z h'z tk'z F'z N'z) | ((with_reducible show wpAny _ _ (call (Value.ref 149) _) _ _ _); (try dsimp only [List.cons_append, List.nil_append]); refine' useV (fun b => c_word2 (FieldAt.keeps (by assumption) (Fr.keep (by k_asm))) (by assumption) b) ?kF ?kN ?kX ?kT ?kh ?kd ?ku ?_; walk_at "ARGS"; intro t'z h'z tk'z F'z N'z) | ((with_reducible show wpAny _ _ (call (Value.ref 300) _) _ _ _); refine' useV (fun b => c_ftext (FieldAt.keeps (by assumption) (Fr.keep (by k_asm))) (by assumption) b) ?kF ?kN ?kX ?kT ?kh ?kd ?ku ?_; walk_at "ARGS"; intro t'z h'z tk'z F'z N'z) | ((with_reducible show wpAny _ _ (call (Value.ref 286) _) _ _ _); refine' useV (fun b => c_dwords (by assumption) b) ?kF ?kN ?kX ?kT ?kh ?kd ?ku ?_; walk_at "ARGS"; intro t'z h'z tk'z F'z N'z) | ((with_reducible show wpAny _ _ (call (Value.ref 184) _) _ _ _); refine' useV (fun b => c_unfolded (by assumption) (by assumption) (by assumption) (by assumption) b) ?kF ?kN ?kX ?kT ?kh ?kd ?ku ?_; walk_at "ARGS"; intro t'z h'z tk'z F'z N'z) | with_reducible ((with_reducible show wpAny _ _ (call (Value.ref 293) _) _ _ _); refine' useV0 (fun b => c_within (by assumption) (by assumption) (by assumption) (by assumption) b) ?kF ?kN ?kX ?kT ?kh ?kd ?ku ?_; walk_at "ARGS"; intro h'z tk'z F'z N'z) | with_reducible ((with_reducible show wpAny _ _ (call (Value.ref 130) _) _ _ _); refine' useV (fun b => c_guess (by assumption) (by assumption) b) ?kF ?kN ?kX ?kT ?kh ?kd ?ku ?_; walk_at "ARGS"; intro t'z h'z tk'z F'z N'z) | with_reducible ((with_reducible show wpAny _ _ (call (Value.ref 66) _) _ _ _); refine' useV (fun b => c_lower_text (by assumption) (by assumption) b) ?kF ?kN ?kX ?kT ?kh ?kd ?ku ?_; walk_at "ARGS"; intro t'z h'z tk'z F'z N'z) | with_reducible ((with_reducible show wpAny _ _ (eval (PySem.Expr.Name _ _) _) _ _ _); (k_dflt (first | (refine' nameX_L ?Fh9 ?vh9 ?_ ?ah9 ?bh9; (case Fh9 => k_asm); (case ah9 => rfl); (case bh9 => rfl); (case vh9 => rfl); k_whole) | (refine' nameX_K ?Fh9 ?Xh9 ?Th9 ?eh9 ?_ ?ah9 ?bh9; (case Fh9 => k_asm); (case Xh9 => k_asm); (case Th9 => k_asm); (case ah9 => rfl); (case bh9 => rfl); (case eh9 => k_is); k_whole) | (refine' nameX_B ?Fh9 ?Xh9 ?Th9 ?eh9 ?vh9 ?nh9 ?_ ?ah9 ?bh9; (case Fh9 => k_asm); (case Xh9 => k_asm); (case Th9 => k_asm); (case ah9 => rfl); (case bh9 => rfl); (case eh9 => k_is); (case vh9 => boot_fast); (case nh9 => decide); k_whole)))) | with_reducible ((with_reducible show wpAny _ _ (spliced _) _ _ _); (k_dflt (first | refine args_cons ?_ | (refine args_nil ?_; (try simp only [List.cons_append, List.nil_append]))))) | with_reducible ((with_reducible show wpAny _ _ (exec (PySem.Stmt.For _ (PySem.Expr.Name _ _) _ _ _) _) _ _ _); ((rename Mk 3 => mk'z); refine Stop.mk ?_)) | with_reducible (k_closed; first | with_reducible refine PySem.W.ite_pos (by with_unfolding_all decide) ?_ | with_reducible refine PySem.W.ite_neg (by with_unfolding_all decide) ?_) | walk1); (try dsimp only); (try ((with_reducible show wpAny _ _ _ _ _ ⟨_, _, _, _ + _, _⟩); refine anyToks ?_; intro _)); (repeat ((first | with_reducible rename (_ < _ ∧ _) => hhzz | with_reducible rename (_ ≠ _ ∧ _) => hhzz | with_reducible rename ((_ ≠ _ ∧ _) ∧ _) => hhzz); have := hhzz.1; have := hhzz.2; clear hhzz))) | (dsimp only; walk1) | (leave1; (try dsimp only)) | fail "no step"))
  rename Fr _ _ _ _ => F2
  rename News _ _ _ _ => N2
  refine Stop.out ⟨_, vs, _, _, HdJ (mL pc) fs [(Str.ofString "fields", .ref FL), (Str.ofString "octets", .bytes (wideL pc).toArray t)], rfl, F2, N2, fun i m news h hJ F N => isList_up hL F.keep, ⟨List.forall_mem_cons.mpr ⟨rfl, List.forall_mem_cons.mpr ⟨rfl, List.forall_mem_nil _⟩⟩, rfl, fun j f hj => absurd hj (Nat.not_lt_zero _)⟩, ?_, ?_⟩
  · intro i v I oI h tk m news hi hv hJ F N off
    clear F2 N2
    obtain ⟨hm, rfl, hno⟩ := hJ
    have hm1 := hm _ (.head _)
    have hm3 := hm _ (.tail _ (.head _))
    dsimp only at hm1 hm3
    replace F := frSet2 F hm1 hm3
    have hi' : i < fs.length := by omega
    obtain ⟨a, rw', e1, e2, e3, e4⟩ := hf.2 i _ (List.getElem?_eq_getElem hi')
    generalize hfi : fs[i] = f at *
    have hfe : fs[i]? = some f := by rw [List.getElem?_eq_getElem hi', hfi]
    rw [e1] at hv
    obtain rfl : Value.ref a = v := Option.some.inj hv
    have hnl := name_len e4
    have hn : f.1.length ≤ 1000 := by omega
    have hn2 : (f.1.map UInt8.toNat).length ≤ 1000 := by rw [List.length_map]; omega
    obtain ⟨_, _, _, _, _, _, _, _, z7, z8⟩ := e3.und
    have hr : ∀ c ∈ f.1.map UInt8.toNat ++ [58, 32] ++ f.2, c ≤ 1000000 := by
      intro c hc
      rcases List.mem_append.mp hc with hc | hc
      · rcases List.mem_append.mp hc with hc | hc
        · exact byte_small _ c hc
        · simp only [List.mem_cons, List.not_mem_nil, or_false] at hc; omega
      · have := (z7 c hc).le; omega
    have hrl : (f.1.map UInt8.toNat ++ [58, 32] ++ f.2).length ≤ 1000000 := by simp; omega
    have hr2 : f.2.length ≤ 1000 := by omega
    ((try dsimp only); (try k_fold); repeat' (first | (k_unfold; (try dsimp only)) | ((first | ((with_reducible show wpAny _ _ (call (Value.ref 307) _) _ _ _); refine' useV (fun b => c_fline (FieldAt.keeps (by assumption) (Fr.keep (by k_asm))) (by assumption) (by assumption) (by assumption) (by assumption) b) ?kF ?kN ?kX ?kT ?kh ?kd ?ku ?_; walk_at "ARGS"; intro t'z h'z tk'z F'z N'z) | ((with_reducible show wpAny _ _ (call (Value.ref 149) _) _ _ _); (try dsimp only [List.cons_append, List.nil_append]); refine' useV (fun b => c_word2 (FieldAt.keeps (by assumption) (Fr.keep (by k_asm))) (by assumption) b) ?kF ?kN ?kX ?kT ?kh ?kd ?ku ?_; walk_at "ARGS"; intro t'z h'z tk'z F'z N'z) | ((with_reducible show wpAny _ _ (call (Value.ref 300) _) _ _ _); refine' useV (fun b => c_ftext (FieldAt.keeps (by assumption) (Fr.keep (by k_asm))) (by assumption) b) ?kF ?kN ?kX ?kT ?kh ?kd ?ku ?_; walk_at "ARGS"; intro t'z h'z tk'z F'z N'z) | ((with_reducible show wpAny _ _ (call (Value.ref 286) _) _ _ _); refine' useV (fun b => c_dwords (by assumption) b) ?kF ?kN ?kX ?kT ?kh ?kd ?ku ?_; walk_at "ARGS"; intro t'z h'z tk'z F'z N'z) | ((with_reducible show wpAny _ _ (call (Value.ref 184) _) _ _ _); refine' useV (fun b => c_unfolded (by assumption) (by assumption) (by assumption) (by assumption) b) ?kF ?kN ?kX ?kT ?kh ?kd ?ku ?_; walk_at "ARGS"; intro t'z h'z tk'z F'z N'z) | with_reducible ((with_reducible show wpAny _ _ (call (Value.ref 293) _) _ _ _); refine' useV0 (fun b => c_within (by assumption) (by assumption) (by assumption) (by assumption) b) ?kF ?kN ?kX ?kT ?kh ?kd ?ku ?_; walk_at "ARGS"; intro h'z tk'z F'z N'z) | with_reducible ((with_reducible show wpAny _ _ (call (Value.ref 130) _) _ _ _); refine' useV (fun b => c_guess (by assumption) (by assumption) b) ?kF ?kN ?kX ?kT ?kh ?kd ?ku ?_; walk_at "ARGS"; intro t'z h'z tk'z F'z N'z) | with_reducible ((with_reducible show wpAny _ _ (call (Value.ref 66) _) _ _ _); refine' useV (fun b => c_lower_text (by assumption) (by assumption) b) ?kF ?kN ?kX ?kT ?kh ?kd ?ku ?_; walk_at "ARGS"; intro t'z h'z tk'z F'z N'z) | with_reducible ((with_reducible show wpAny _ _ (eval (PySem.Expr.Name _ _) _) _ _ _); (k_dflt (first | (refine' nameX_L ?Fh9 ?vh9 ?_ ?ah9 ?bh9; (case Fh9 => k_asm); (case ah9 => rfl); (case bh9 => rfl); (case vh9 => rfl); k_whole) | (refine' nameX_K ?Fh9 ?Xh9 ?Th9 ?eh9 ?_ ?ah9 ?bh9; (case Fh9 => k_asm); (case Xh9 => k_asm); (case Th9 => k_asm); (case ah9 => rfl); (case bh9 => rfl); (case eh9 => k_is); k_whole) | (refine' nameX_B ?Fh9 ?Xh9 ?Th9 ?eh9 ?vh9 ?nh9 ?_ ?ah9 ?bh9; (case Fh9 => k_asm); (case Xh9 => k_asm); (case Th9 => k_asm); (case ah9 => rfl); (case bh9 => rfl); (case eh9 => k_is); (case vh9 => boot_fast); (case nh9 => decide); k_whole)))) | with_reducible ((with_reducible show wpAny _ _ (spliced _) _ _ _); (k_dflt (first | refine args_cons ?_ | (refine args_nil ?_; (try simp only [List.cons_append, List.nil_append]))))) | with_reducible ((with_reducible show wpAny _ _ (exec (PySem.Stmt.For _ (PySem.Expr.Name _ _) _ _ _) _) _ _ _); ((rename Mk 3 => mk'z); refine Stop.mk ?_)) | with_reducible (k_closed; first | with_reducible refine PySem.W.ite_pos (by with_unfolding_all decide) ?_ | with_reducible refine PySem.W.ite_neg (by with_unfolding_all decide) ?_) | walk1); (try dsimp only); (try ((with_reducible show wpAny _ _ _ _ _ ⟨_, _, _, _ + _, _⟩); refine anyToks ?_; intro _)); (repeat ((first | with_reducible rename (_ < _ ∧ _) => hhzz | with_reducible rename (_ ≠ _ ∧ _) => hhzz | with_reducible rename ((_ ≠ _ ∧ _) ∧ _) => hhzz); have := hhzz.1; have := hhzz.2; clear hhzz))) | (dsimp only; walk1) | (leave1; (try dsimp only)) | fail "no step"))
    all_goals rename Fr _ _ _ _ => F3
    all_goals rename News _ _ _ _ => N3
    all_goals rename isIn _ _ = _ => g3
    · exact Done.ret F3 (congrArg Value.bool (by rw [any_of (M := mL pc) hfe g3]; rfl))
    · exact ⟨_, _, _, [], rfl, F3, N3, trivial, List.forall_mem_cons.mpr ⟨rfl, List.forall_mem_cons.mpr ⟨rfl, List.forall_mem_nil _⟩⟩, rfl, no_step hno hfe g3⟩
  · intro h tk m news hJ F N
    clear F2 N2
    obtain ⟨hm, rfl, hno⟩ := hJ
    have hm1 := hm _ (.head _)
    have hm3 := hm _ (.tail _ (.head _))
    dsimp only at hm1 hm3
    replace F := frSet2 F hm1 hm3
    ((try dsimp only); (try k_fold); repeat' (first | (k_unfold; (try dsimp only)) | ((first | ((with_reducible show wpAny _ _ (call (Value.ref 307) _) _ _ _); refine' useV (fun b => c_fline (FieldAt.keeps (by assumption) (Fr.keep (by k_asm))) (by assumption) (by assumption) (by assumption) (by assumption) b) ?kF ?kN ?kX ?kT ?kh ?kd ?ku ?_; walk_at "ARGS"; intro t'z h'z tk'z F'z N'z) | ((with_reducible show wpAny _ _ (call (Value.ref 149) _) _ _ _); (try dsimp only [List.cons_append, List.nil_append]); refine' useV (fun b => c_word2 (FieldAt.keeps (by assumption) (Fr.keep (by k_asm))) (by assumption) b) ?kF ?kN ?kX ?kT ?kh ?kd ?ku ?_; walk_at "ARGS"; intro t'z h'z tk'z F'z N'z) | ((with_reducible show wpAny _ _ (call (Value.ref 300) _) _ _ _); refine' useV (fun b => c_ftext (FieldAt.keeps (by assumption) (Fr.keep (by k_asm))) (by assumption) b) ?kF ?kN ?kX ?kT ?kh ?kd ?ku ?_; walk_at "ARGS"; intro t'z h'z tk'z F'z N'z) | ((with_reducible show wpAny _ _ (call (Value.ref 286) _) _ _ _); refine' useV (fun b => c_dwords (by assumption) b) ?kF ?kN ?kX ?kT ?kh ?kd ?ku ?_; walk_at "ARGS"; intro t'z h'z tk'z F'z N'z) | ((with_reducible show wpAny _ _ (call (Value.ref 184) _) _ _ _); refine' useV (fun b => c_unfolded (by assumption) (by assumption) (by assumption) (by assumption) b) ?kF ?kN ?kX ?kT ?kh ?kd ?ku ?_; walk_at "ARGS"; intro t'z h'z tk'z F'z N'z) | with_reducible ((with_reducible show wpAny _ _ (call (Value.ref 293) _) _ _ _); refine' useV0 (fun b => c_within (by assumption) (by assumption) (by assumption) (by assumption) b) ?kF ?kN ?kX ?kT ?kh ?kd ?ku ?_; walk_at "ARGS"; intro h'z tk'z F'z N'z) | with_reducible ((with_reducible show wpAny _ _ (call (Value.ref 130) _) _ _ _); refine' useV (fun b => c_guess (by assumption) (by assumption) b) ?kF ?kN ?kX ?kT ?kh ?kd ?ku ?_; walk_at "ARGS"; intro t'z h'z tk'z F'z N'z) | with_reducible ((with_reducible show wpAny _ _ (call (Value.ref 66) _) _ _ _); refine' useV (fun b => c_lower_text (by assumption) (by assumption) b) ?kF ?kN ?kX ?kT ?kh ?kd ?ku ?_; walk_at "ARGS"; intro t'z h'z tk'z F'z N'z) | with_reducible ((with_reducible show wpAny _ _ (eval (PySem.Expr.Name _ _) _) _ _ _); (k_dflt (first | (refine' nameX_L ?Fh9 ?vh9 ?_ ?ah9 ?bh9; (case Fh9 => k_asm); (case ah9 => rfl); (case bh9 => rfl); (case vh9 => rfl); k_whole) | (refine' nameX_K ?Fh9 ?Xh9 ?Th9 ?eh9 ?_ ?ah9 ?bh9; (case Fh9 => k_asm); (case Xh9 => k_asm); (case Th9 => k_asm); (case ah9 => rfl); (case bh9 => rfl); (case eh9 => k_is); k_whole) | (refine' nameX_B ?Fh9 ?Xh9 ?Th9 ?eh9 ?vh9 ?nh9 ?_ ?ah9 ?bh9; (case Fh9 => k_asm); (case Xh9 => k_asm); (case Th9 => k_asm); (case ah9 => rfl); (case bh9 => rfl); (case eh9 => k_is); (case vh9 => boot_fast); (case nh9 => decide); k_whole)))) | with_reducible ((with_reducible show wpAny _ _ (spliced _) _ _ _); (k_dflt (first | refine args_cons ?_ | (refine args_nil ?_; (try simp only [List.cons_append, List.nil_append]))))) | with_reducible ((with_reducible show wpAny _ _ (exec (PySem.Stmt.For _ (PySem.Expr.Name _ _) _ _ _) _) _ _ _); ((rename Mk 3 => mk'z); refine Stop.mk ?_)) | with_reducible (k_closed; first | with_reducible refine PySem.W.ite_pos (by with_unfolding_all decide) ?_ | with_reducible refine PySem.W.ite_neg (by with_unfolding_all decide) ?_) | walk1); (try dsimp only); (try ((with_reducible show wpAny _ _ _ _ _ ⟨_, _, _, _ + _, _⟩); refine anyToks ?_; intro _)); (repeat ((first | with_reducible rename (_ < _ ∧ _) => hhzz | with_reducible rename (_ ≠ _ ∧ _) => hhzz | with_reducible rename ((_ ≠ _ ∧ _) ∧ _) => hhzz); have := hhzz.1; have := hhzz.2; clear hhzz))) | (dsimp only; walk1) | (leave1; (try dsimp only)) | fail "no step"))
    rw [hsz] at hno
    exact Done.ret (by k_asm) (congrArg Value.bool (by rw [any_not hno, ← wideL_nil]; rfl))
end

section
variable {prog : Program} {w : World} {A : Around} {E : Value → Shared → Prop} {s : Shared} {env : Env}
/-- the tests of a clause -/
noncomputable abbrev testsOf (ifs : List Expr) (env : Env) : Sem Bool := forIn ifs true fun c r => if r = true then do let ok ← isTrue c env (eval c env); pure (ForInStep.yield ok) else pure (ForInStep.yield r)

theorem lct_loop {elt target iter : Expr} {ifs : List Expr} {scope : Scope} {pos : Pos} {it acc : Value} {env : Env} {R : Result → Shared → Prop} (I : Nat → Shared → Prop)
    (turn : ∀ n s, I n s → ∀ E', wpAny (model prog w) A (pyNext it) (fun r s₁ => match r with
      | none => R (.ok .next) s₁
      | some v => wpAny (model prog w) A (letOwnedTupleGo target it v) (fun _ s₀ => wpAny (model prog w) A (assign target env v) (fun _ s₂ =>
          wpAny (model prog w) A (testsOf ifs env) (fun ok s₃ => if ok = true then wpAny (model prog w) A (eval elt env) (fun x s₄ =>
            wpAny (model prog w) A (call (.builtin "list.append") [acc, x]) (fun _ s₅ => ∃ m, m < n ∧ I m s₅) E' s₄) E' s₃
            else ∃ m, m < n ∧ I m s₃) E' s₂) E' s₀) E' s₁) E' s)
    (n : Nat) (h : I n s) : codeAny (model prog w) A (.compLoop (.ListComp elt [⟨target, iter, ifs, 0⟩] scope pos) 0 it acc env) R s := by
  refine codeAny_loop rfl I (fun n s hI => ?_) n h
  show wpAny _ A ((compTurn (.ListComp elt [⟨target, iter, ifs, 0⟩] scope pos) 0 it acc env).onRaise (fun x => do noteFrame x env; theTreesLotGoes x)) _ _ s
  refine wpAny_noted ?_
  rw [compTurn_list]
  refine wpAny_bind (wpAny_standAt (wpAny_bind (wpAny_mono (turn n s hI _) (fun r s₁ h₁ => ?_) fun _ _ h' => h')))
  cases r with
  | none => exact wpAny_pure h₁
  | some v =>
    refine wpAny_bind (wpAny_mono h₁ (fun _ s₀ h₀' => ?_) fun _ _ h' => h')
    refine wpAny_bind (wpAny_mono h₀' (fun _ s₂ h₂ => ?_) fun _ _ h' => h')
    refine wpAny_bind (wpAny_mono h₂ (fun okb s₃ h₃ => ?_) fun _ _ h' => h')
    cases okb with
    | false => exact wpAny_pure ⟨rfl, h₃⟩
    | true => exact wpAny_bind (wpAny_bind (wpAny_mono h₃ (fun x s₄ h₄ => wpAny_bind (wpAny_mono h₄ (fun _ s₅ h₅ => wpAny_pure (wpAny_pure ⟨rfl, h₅⟩)) fun _ _ h' => h')) fun _ _ h' => h'))

theorem assign3 {env : Env} {a b c : Str} {pa pb pc tp : Pos} {kk : Nat} {T : Addr} {x y z : Value} {m : Str → Option Value} {Q : Unit → Shared → Prop} (hh : A.handled = none) (ht : s.heap.IsTuple T #[x, y, z])
    (ha : env.kindOf a = some .local) (hb : env.kindOf b = some .local) (hc : env.kindOf c = some .local) (hp : (env.scope.kind == .class || (env.scope.kind == .module && env.locals != env.globals)) = false) (hn : s.heap.Ns env.locals m)
    (h : ∀ (h' : Heap) (tk : Nat), h'.Ns env.locals (fun q => if q = c then some z else if q = b then some y else if q = a then some x else m q) → (∀ d o, d ≠ env.locals → s.heap.get? d = some o → h'.get? d = some o) → Q () { s with heap := h', toks := tk }) :
    wpAny (model prog w) A (assign (.Tuple [.Name a pa, .Name b pb, .Name c pc] kk tp) env (.ref T)) Q E s := by
  refine wpAny_assign_Tuple hh ht rfl rfl fun h₁ he₁ => ?_
  have hL : env.locals ≠ s.heap.objs.size := Nat.ne_of_lt hn.lt
  have hn₁ : h₁.Ns env.locals m := hn.at' fun o e => he₁ _ o hL e
  have up₁ : ∀ c o, s.heap.get? c = some o → h₁.get? c = some o := fun c o e => he₁ c o (Nat.ne_of_lt (Heap.lt_size e)) e
  show wpAny _ _ (assignInOrder [assign (.Name a pa) env, assign (.Name b pb) env, assign (.Name c pc) env] [x, y, z]) _ _ _
  refine assignInOrder_cons (wpAny_assign_Name (wpAny_storeName_local ha hn₁ (fun h₂ hn₂ hs₂ => ?_) hp))
  refine assignInOrder_cons (wpAny_assign_Name (wpAny_storeName_local hb hn₂ (fun h₃ hn₃ hs₃ => ?_) hp))
  refine assignInOrder_cons (wpAny_assign_Name (wpAny_storeName_local hc hn₃ (fun h₄ hn₄ hs₄ => ?_) hp))
  refine assignInOrder_nil ?_
  exact h h₄ _ hn₄ fun d o hd e => hs₄.extBut d o hd (hs₃.extBut d o hd (hs₂.extBut d o hd (up₁ d o e)))

/-- the tests and the element, on an item, from any state that keeps H -/
noncomputable def QT (prog : Program) (w : World) (A : Around) (env : Env) (scope : Scope) (cl : List (Str × Addr)) (x1 x2 x3 : Str) (ifs : List Expr) (elt : Expr) (H : Heap) (its : Array Value) (p : Nat → Bool) (G : Nat → Value → Prop) : Prop :=
  ∀ i v, its[i]? = some v → ∃ T v1 v2 v3, v = .ref T ∧ H.IsTuple T #[v1, v2, v3] ∧ ∀ C s₃ m₃ E', H.objs.size ≤ C → s₃.heap.Ns C m₃ → m₃ x1 = some v1 → m₃ x2 = some v2 → m₃ x3 = some v3 → Kp H s₃.heap →
    wpAny (model prog w) A (testsOf ifs (compEnvC scope cl C env)) (fun ok s₄ => ok = p i ∧ Keeps s₃ s₄ ∧ (ok = true → wpAny (model prog w) A (eval elt (compEnvC scope cl C env)) (fun y s₅ => G i y ∧ Keeps s₄ s₅) E' s₄)) E' s₃

theorem lct_block {elt iter : Expr} {ifs : List Expr} {x1 x2 x3 : Str} {p1 p2 p3 tp : Pos} {kk : Nat} {scope : Scope} {cl : List (Str × Addr)} {pos : Pos} {s₁ : Shared} {ax : Addr} {its : Array Value} {p : Nat → Bool} {G : Nat → Value → Prop} {RR : Value → Addr → Result → Shared → Prop}
    (hh : A.handled = none) (hl : s₁.heap.IsList ax its) (hsz : its.size ≤ sizeLine)
    (hcell : ∀ y ∈ scope.names, y.2 ≠ .cell) (hkind : scope.kind = .function) (hx1 : scope.names.lookup x1 = some .local) (hx2 : scope.names.lookup x2 = some .local) (hx3 : scope.names.lookup x3 = some .local) (h12 : x1 ≠ x2) (h13 : x1 ≠ x3) (h23 : x2 ≠ x3)
    (hq : QT prog w A env scope cl x1 x2 x3 ifs elt s₁.heap its p G)
    (hRR : ∀ D C h' tk m' ys, s₁.heap.get? D = none → s₁.heap.get? C = none → D ≠ C → h'.Ns C m' → h'.get? D = some (LCg.lst ys) → Paired G ((List.range its.size).filter p) ys → Kp s₁.heap h' → RR (.ref D) C (.ok .next) { s₁ with heap := h', toks := tk }) :
    wpAny (model prog w) A (newList []) (fun acc s₃ => wpAny (model prog w) A (newFunctionEnv scope env.globals cl [] env.qual none .none (some env)) (fun cenv s₄ =>
      codeAny (model prog w) A (.compStart (.ListComp elt [⟨.Tuple [.Name x1 p1, .Name x2 p2, .Name x3 p3] kk tp, iter, ifs, 0⟩] scope pos) 0 (.ref s₁.heap.objs.size) acc { cenv with scope := relabel scope env }) (RR acc cenv.locals) s₄) E s₃) E
      { s₁ with heap := s₁.heap.push { cls := .type "list_iterator", data := .fields #[.ref ax, .int 0 0] } } := by
  have hlt : ax < s₁.heap.objs.size := by obtain ⟨_, e, _⟩ := hl; exact Heap.lt_size e
  generalize hI : s₁.heap.objs.size = I at *
  generalize hH1 : s₁.heap.push { cls := .type "list_iterator", data := .fields #[.ref ax, .int 0 0] } = H1
  have hit : H1.IsListIter I ax 0 := by rw [← hH1, ← hI]; exact ⟨_, Heap.get?_push_size _ rfl, rfl, rfl⟩
  have hl1 : H1.IsList ax its := by rw [← hH1]; exact hl.push _
  have up1 : Kp s₁.heap H1 := fun b o e => by rw [← hH1]; exact Heap.get?_push_of_some _ e
  have hI1 : H1.objs.size = I + 1 := by rw [← hH1, Heap.size_push, hI]
  refine wpAny_newObj_type (wpAny_newFunctionEnv hcell (by intro y hy; simp at hy) (fun h₁ hns₁ hsb₁ => ?_) hkind)
  dsimp only at hns₁ hsb₁ ⊢
  generalize hH2 : H1.push { cls := .type "list", dict := none, data := .seq ([] : List Value).toArray } = H2 at hns₁ hsb₁ ⊢
  have hC : H2.objs.size = I + 2 := by rw [← hH2, Heap.size_push, hI1]
  have hD1 : H1.objs.size ≠ H2.objs.size := by rw [hC, hI1]; exact Nat.ne_of_lt (Nat.lt_succ_self _)
  have old : ∀ b o, H1.get? b = some o → h₁.get? b = some o := fun b o e => hsb₁.extBut b o (by have := Heap.lt_size e; rw [hC]; rw [hI1] at this; exact Nat.ne_of_lt (Nat.lt_succ_of_lt this)) (Heap.get?_push_of_some _ (hH2 ▸ Heap.get?_push_of_some _ e))
  have hacc : h₁.get? H1.objs.size = some (LCg.lst []) := hsb₁.extBut _ _ hD1 (Heap.get?_push_of_some _ (hH2 ▸ Heap.get?_push_size _ rfl))
  have fresh : ∀ a, I ≤ a → s₁.heap.get? a = none := fun a ha => by
    cases e : s₁.heap.get? a with
    | none => rfl
    | some o' => have := Heap.lt_size e; rw [hI] at this; exact absurd this (Nat.not_lt.mpr ha)
  generalize hCe : H2.objs.size = C at *
  generalize hDe : H1.objs.size = D at *
  have hDI : D ≠ I := by rw [hI1]; exact Nat.ne_of_gt (Nat.lt_succ_self _)
  have hCI : C ≠ I := by rw [hC]; exact Nat.ne_of_gt (Nat.lt_succ_of_lt (Nat.lt_succ_self _))
  have hCD : C ≠ D := Ne.symm hD1
  have W := Walks.list (prog := prog) (w := w) hh I ax (Nat.ne_of_lt hlt) its
  have low : ∀ {b o}, s₁.heap.get? b = some o → b ≠ I ∧ b ≠ C ∧ b ≠ D := fun {b o} e => by
    have := Heap.lt_size e
    rw [hI] at this
    exact ⟨Nat.ne_of_lt this, by rw [hC]; exact Nat.ne_of_lt (Nat.lt_succ_of_lt (Nat.lt_succ_of_lt this)), by rw [hI1]; exact Nat.ne_of_lt (Nat.lt_succ_of_lt this)⟩
  have loop : ∀ s₃ : Shared, s₃ = { s₁ with heap := h₁, toks := s₁.toks + ([] : List (Str × Value)).length } →
      codeAny (model prog w) A (.compLoop (.ListComp elt [⟨.Tuple [.Name x1 p1, .Name x2 p2, .Name x3 p3] kk tp, iter, ifs, 0⟩] scope pos) 0 (.ref I) (.ref D) (compEnvC scope cl C env)) (RR (.ref D) C) s₃ := by
    rintro s₃ rfl
    refine lct_loop (fun k s' => ∃ h' tk i ys m', s' = { s₁ with heap := h', toks := tk } ∧ i ≤ its.size ∧ k = its.size + 1 - i ∧ ys.length ≤ i ∧ h'.IsListIter I ax i ∧ h'.Ns C m' ∧ h'.get? D = some (LCg.lst ys) ∧ Kp s₁.heap h' ∧ Paired G ((List.range i).filter p) ys) ?_ (its.size + 1)
      ⟨h₁, _, 0, [], _, rfl, Nat.zero_le _, rfl, Nat.le_refl _, (by obtain ⟨o, e, r⟩ := hit; exact ⟨o, old _ _ e, r⟩), hns₁, hacc, fun b o e => old b o (up1 b o e), .nil⟩
    rintro k s' ⟨h', tk, i, ys, m', rfl, hi, rfl, hyl, hit', hn', hD', hk', hP⟩ E'
    have hl' : h'.IsList ax its := by obtain ⟨o, e, r⟩ := hl; exact ⟨o, hk' _ _ e, r⟩
    by_cases hlti : i < its.size
    · refine W.item i _ _ _ hlti ⟨hit', hl'⟩ fun v h₂ tk₂ hv hst₂ hk₂ => ?_
      obtain ⟨T, v1, v2, v3, rfl, hT, hgo⟩ := hq i v hv
      dsimp only
      refine wpAny_letOwnedTupleGo_listiter (s := { s₁ with heap := h₂, toks := tk₂ }) hst₂.1 ?_
      have hk₂' : ∀ b o, b ≠ I → h'.get? b = some o → h₂.get? b = some o := fun b o hb e => hk₂ b o (by simpa using hb) e
      have hT₂ : h₂.IsTuple T #[v1, v2, v3] := by obtain ⟨o, e, r⟩ := hT; exact ⟨o, hk₂' _ _ (low e).1 (hk' _ _ e), r⟩
      refine assign3 (env := compEnvC scope cl C env) hh hT₂ (lookup_relabel_local hx1) (lookup_relabel_local hx2) (lookup_relabel_local hx3) (by simp [compEnvC, relabel, hkind]) (hn'.at' fun o e => hk₂' _ o hCI e) fun h₃ tk₃ hn₃ hs₃ => ?_
      have kp₃ : Kp s₁.heap h₃ := fun b o e => hs₃ b o (low e).2.1 (hk₂' b o (low e).1 (hk' b o e))
      refine wpAny_mono (hgo C _ _ _ (by rw [hI, hC]; exact Nat.le_add_right _ _) hn₃ (by simp [h12, h13]) (by simp [h23]) (by simp) kp₃) (fun ok s₄ h₄ => ?_) fun _ _ e => e
      obtain ⟨hok, ⟨h₄, tk₄, rfl, hk₄⟩, helt⟩ := h₄
      have it₃ : h₃.IsListIter I ax (i + 1) := by obtain ⟨o, e, r⟩ := hst₂.1; exact ⟨o, hs₃ _ _ (Ne.symm hCI) e, r⟩
      have d₃ : h₃.get? D = some (LCg.lst ys) := hs₃ _ _ (Ne.symm hCD) (hk₂' _ _ hDI hD')
      cases ok with
      | false =>
        simp only [Bool.false_eq_true, if_false]
        refine ⟨its.size + 1 - (i + 1), by omega, h₄, tk₄, i + 1, ys, _, rfl, hlti, rfl, Nat.le_succ_of_le hyl, (by obtain ⟨o, e, r⟩ := it₃; exact ⟨o, hk₄ _ _ e, r⟩), hn₃.at' fun o e => hk₄ _ o e, hk₄ _ _ d₃, fun b o e => hk₄ b o (kp₃ b o e), ?_⟩
        rw [List.range_succ, List.filter_append, List.filter_cons_of_neg (by rw [← hok]; exact Bool.false_ne_true), List.filter_nil, List.append_nil]; exact hP
      | true =>
        simp only [if_true]
        refine wpAny_mono (helt rfl) (fun y s₅ h₅ => ?_) fun _ _ e => e
        obtain ⟨hG, h₅, tk₅, rfl, hk₅⟩ := h₅
        refine append_at (hsz := by show ys.toArray.size ≤ sizeLine; rw [List.size_toArray]; exact Nat.le_trans hyl (Nat.le_trans hi hsz)) (hk₅ _ _ (hk₄ _ _ d₃)) fun h₆ hs₆ hD₆ => ?_
        refine ⟨its.size + 1 - (i + 1), by omega, h₆, tk₅, i + 1, ys ++ [y], _, rfl, hlti, rfl, by rw [List.length_append, List.length_singleton]; exact Nat.succ_le_succ hyl, (by obtain ⟨o, e, r⟩ := it₃; exact ⟨o, hs₆.extBut _ _ (Ne.symm hDI) (hk₅ _ _ (hk₄ _ _ e)), r⟩),
          (hn₃.at' fun o e => hs₆.extBut _ o hCD (hk₅ _ o (hk₄ _ o e))), hD₆.trans (congrArg some (LCg.lst_snoc ys y)), fun b o e => hs₆.extBut b o (low e).2.2 (hk₅ b o (hk₄ b o (kp₃ b o e))), ?_⟩
        rw [List.range_succ, List.filter_append, List.filter_cons_of_pos (by rw [← hok]), List.filter_nil]
        exact hP.snoc hG
    · obtain rfl : i = its.size := Nat.le_antisymm hi (Nat.not_lt.mp hlti)
      refine W.done _ _ _ ⟨hit', hl'⟩ fun h₂ tk₂ hk₂ => ?_
      have hk₂' : ∀ b o, b ≠ I → h'.get? b = some o → h₂.get? b = some o := fun b o hb e => hk₂ b o (by simpa using hb) e
      exact hRR D C h₂ tk₂ _ ys (fresh _ (by rw [hI1]; exact Nat.le_succ _)) (fresh _ (by rw [hC]; exact Nat.le_add_right _ _)) (Ne.symm hCD) (hn'.at' fun o e => hk₂' _ o hCI e) (hk₂' _ _ hDI hD') hP fun b o e => hk₂' b o (low e).1 (hk' b o e)
  exact codeAny_compStart_list (loop _ rfl) (W.self 0 _ _ _ ⟨by obtain ⟨o, e, r⟩ := hit; exact ⟨o, old _ _ e, r⟩, by obtain ⟨o, e, r⟩ := hl1; exact ⟨o, old _ _ e, r⟩⟩ (loop _ rfl))

theorem lct_eval {elt iter : Expr} {ifs : List Expr} {x1 x2 x3 : Str} {p1 p2 p3 tp : Pos} {kk : Nat} {scope : Scope} {cl : List (Str × Addr)} {pos : Pos} {Q : Value → Shared → Prop} {h₀ : Heap} {L : Addr} {mx : Str → Option Value} (_F₀ : Fr h₀ L s.heap mx) (hh : A.handled = none)
    (hclos : closureFor scope env = pure cl) (hcell : ∀ y ∈ scope.names, y.2 ≠ .cell) (hkind : scope.kind = .function) (hnames : ∀ y ∈ scope.names, y.2 = .local → scope.names.lookup y.1 = some .local)
    (hx1 : scope.names.lookup x1 = some .local) (hx2 : scope.names.lookup x2 = some .local) (hx3 : scope.names.lookup x3 = some .local) (h12 : x1 ≠ x2) (h13 : x1 ≠ x3) (h23 : x2 ≠ x3)
    (h : wpAny (model prog w) A (eval iter env) (fun xv s₁ => Stop (∃ (ax : Addr) (its : Array Value) (p : Nat → Bool) (G : Nat → Value → Prop) (m : Str → Option Value) (news : List (Addr × Obj)), xv = .ref ax ∧ Fr h₀ L s₁.heap m ∧ News h₀ L s₁.heap news ∧ s₁.heap.IsList ax its ∧ its.size ≤ sizeLine ∧
      QT prog w A env scope cl x1 x2 x3 ifs elt s₁.heap its p G ∧
      (∀ D h' tk ys, Fr h₀ L h' m → News h₀ L h' ((D, LCg.lst ys) :: news) → LCg.Off1 D news → Paired G ((List.range its.size).filter p) ys → Q (.ref D) { s₁ with heap := h', toks := tk }))) E s)
    (hs : ∀ x, foldedSetIterable iter env x = pure x := by intro _; rfl) :
    wpAny (model prog w) A (eval (.ListComp elt [⟨.Tuple [.Name x1 p1, .Name x2 p2, .Name x3 p3] kk tp, iter, ifs, 0⟩] scope pos) env) Q E s := by
  rw [eval_ListComp]
  refine wpAny_comprehension_free (use := none) rfl hs hclos hkind hnames (wpAny_mono h (fun xv s₁ h₁ => ?_) fun _ _ e => e)
  obtain ⟨ax, its, p, G, m, news, rfl, F, N, hl, hsz, hq, hQ⟩ := h₁
  refine wpAny_pyIter_list hl ?_
  refine lct_block (RR := fun acc C => compPost (model prog w) A E none Q acc C) hh hl hsz hcell hkind hx1 hx2 hx3 h12 h13 h23 hq ?_
  intro D C h' tk m' ys hD hC hDC hn hobj hP hk
  refine ⟨m', hn, fun h'' hs'' => hQ D h'' tk ys ?_ ?_ (offNew N hD) hP⟩
  · exact F.keeps fun b o e => hs''.extBut b o (by rintro rfl; rw [hC] at e; cases e) (hk b o e)
  · exact addNew F N (fun b o e => hs''.extBut b o (by rintro rfl; rw [hC] at e; cases e) (hk b o e)) hD (hs''.extBut _ _ hDC hobj)

theorem lct_assign {elt iter : Expr} {ifs : List Expr} {x1 x2 x3 y : Str} {p1 p2 p3 tp py : Pos} {kk : Nat} {scope : Scope} {cl : List (Str × Addr)} {pos spos : Pos} {Q : Flow → Shared → Prop} {h₀ : Heap} {L : Addr} {mx : Str → Option Value} (_F₀ : Fr h₀ L s.heap mx) (hh : A.handled = none) (hLe : env.locals = L)
    (hsw : swapsWith (.ListComp elt [⟨.Tuple [.Name x1 p1, .Name x2 p2, .Name x3 p3] kk tp, iter, ifs, 0⟩] scope pos) (some (.Name y py)) spos.line env = pure true)
    (hclos : closureFor scope env = pure cl) (hcell : ∀ y ∈ scope.names, y.2 ≠ .cell) (hkind : scope.kind = .function) (hnames : ∀ y ∈ scope.names, y.2 = .local → scope.names.lookup y.1 = some .local)
    (hx1 : scope.names.lookup x1 = some .local) (hx2 : scope.names.lookup x2 = some .local) (hx3 : scope.names.lookup x3 = some .local) (h12 : x1 ≠ x2) (h13 : x1 ≠ x3) (h23 : x2 ≠ x3)
    (hy : env.kindOf y = some .local) (hp : (env.scope.kind == .class || (env.scope.kind == .module && env.locals != env.globals)) = false)
    (h : wpAny (model prog w) A (eval iter env) (fun xv s₁ => Stop (∃ (ax : Addr) (its : Array Value) (p : Nat → Bool) (G : Nat → Value → Prop) (m : Str → Option Value) (news : List (Addr × Obj)), xv = .ref ax ∧ Fr h₀ L s₁.heap m ∧ News h₀ L s₁.heap news ∧ s₁.heap.IsList ax its ∧ its.size ≤ sizeLine ∧
      QT prog w A env scope cl x1 x2 x3 ifs elt s₁.heap its p G ∧
      (∀ D h' tk ys, Fr h₀ L h' (fun z => if z = y then some (.ref D) else m z) → News h₀ L h' ((D, LCg.lst ys) :: news) → LCg.Off1 D news → Paired G ((List.range its.size).filter p) ys → Q .next { s₁ with heap := h', toks := tk }))) E s)
    (hs : ∀ x, foldedSetIterable iter env x = pure x := by intro _; rfl) :
    wpAny (model prog w) A (exec (.Assign [.Name y py] (.ListComp elt [⟨.Tuple [.Name x1 p1, .Name x2 p2, .Name x3 p3] kk tp, iter, ifs, 0⟩] scope pos) spos) env) Q E s := by
  subst hLe
  rw [exec_Assign_Name_used _ _ _ _ hsw]
  refine wpAny_bind (wpAny_standAt (wpAny_bind ?_))
  show wpAny _ A (do let _ ← comprehension (.ListComp elt [⟨.Tuple [.Name x1 p1, .Name x2 p2, .Name x3 p3] kk tp, iter, ifs, 0⟩] scope pos) scope env _ (newList []) false (eval iter env) (some (assign (.Name y py) env))) _ _ s
  refine wpAny_bind (wpAny_mono (wpAny_comprehension_free (use := some (assign (.Name y py) env)) (Q := fun _ s' => Q .next s') rfl hs hclos hkind hnames
    (wpAny_mono h (fun xv s₁ h₁ => ?_) fun _ _ e => e)) (fun _ s' hq => wpAny_pure (wpAny_pure hq)) fun _ _ e => e)
  obtain ⟨ax, its, p, G, m, news, rfl, F, N, hl, hsz, hq, hQ⟩ := h₁
  refine wpAny_pyIter_list hl ?_
  refine lct_block (RR := fun acc C => compPost (model prog w) A E (some (assign (.Name y py) env)) (fun _ s' => Q .next s') acc C) hh hl hsz hcell hkind hx1 hx2 hx3 h12 h13 h23 hq ?_
  intro D C h' tk m' ys hD hC hDC hn hobj hP hk
  have F' := F.keeps hk
  have N' := addNew F N hk hD hobj
  show wpAny _ A (assign (.Name y py) env (.ref D)) _ _ _
  refine wpAny_assign_Name (wpAny_storeName_local hy F'.ns (fun h₂ hn₂ hs₂ => ?_) hp)
  have hL₀ : h₀.get? env.locals = none := Heap.get?_none_of_le F'.above
  have F₂ : Fr h₀ env.locals h₂ (fun z => if z = y then some (.ref D) else m z) := ⟨hn₂, fun b o e => hs₂.extBut b o (fun q => by rw [q, hL₀] at e; cases e) (F'.keep b o e), F'.above⟩
  have hC₀ : h₀.get? C = none := by
    cases e : h₀.get? C with
    | none => rfl
    | some o => have := F.keep _ _ e; rw [hC] at this; cases this
  have hCL : C ≠ env.locals := by
    rintro rfl
    obtain ⟨oL, _, _, e, _⟩ := F.ns
    rw [hC] at e; cases e
  refine ⟨m', hn.sameBut hs₂ hCL, fun h'' hs'' => hQ D h'' _ ys (F₂.change hs'' hCL hC₀) (fun q hq => ?_) (offNew N hD) hP⟩
  have z : h₂.get? q.1 = some q.2 := hs₂.extBut _ _ (N' q hq).2.1 (N' q hq).1
  refine ⟨hs''.extBut _ _ ?_ z, (N' q hq).2⟩
  rcases List.mem_cons.mp hq with rfl | hq
  · exact hDC
  · intro e
    have := (N q hq).1
    rw [e, hC] at this; cases this
end

section
variable {prog : Program} {w : World} {A : Around} {E : Value → Shared → Prop} {s : Shared} {env : Env} {h₀ : Heap} {L : Addr} {m : Str → Option Value}
theorem rest_ind {elt : Expr} {x : Str} {scope : Scope} {cl : List (Str × Addr)} {S : List (Addr × Obj) → Prop} {P : Nat → Value → Prop} {Fin : List Value → List (Addr × Obj) → Prop} {news₀ : List (Addr × Obj)} {n : Nat} (J : Nat → List Value → List (Addr × Obj) → Prop)
    (h0 : J 0 [] news₀)
    (step : ∀ i v ys news I oI C oC D m₂ h tk (E' : Value → Shared → Prop), i < n → J i ys news → P i v → LCg.NsObj oC m₂ → m₂ x = some v → Fr h₀ L h m → News h₀ L h ((I, oI) :: (C, oC) :: (D, LCg.lst ys) :: news) → LCg.Off3 I C D news → ((@Ne Nat I C) ∧ (@Ne Nat I D) ∧ (@Ne Nat C D)) →
      wpAny (model prog w) A (eval elt (compEnvC scope cl C env)) (LCg.CompEnd h₀ L m { s with heap := h, toks := tk } I oI C oC D (LCg.lst ys) S (fun y news' => J (i + 1) (ys ++ [y]) news')) E' { s with heap := h, toks := tk })
    (done : ∀ ys news, J n ys news → Fin ys news) : LCg.CompRest prog w A h₀ L m env elt x scope cl s S P Fin n 0 [] news₀ := by
  have key : ∀ k i ys news, i + k = n → J i ys news → LCg.CompRest prog w A h₀ L m env elt x scope cl s S P Fin k i ys news := by
    intro k
    induction k with
    | zero =>
      intro i ys news hik hJ
      have : i = n := by omega
      subst this
      exact LCg.CompRest.zero (done ys news hJ)
    | succ k ih =>
      intro i ys news hik hJ
      refine LCg.CompRest.succ fun v I oI C oC D m₂ h tk E' hP hC hx F N off hne => ?_
      refine wpAny_mono (step i v ys news I oI C oC D m₂ h tk E' (by omega) hJ hP hC hx F N off hne) (fun y s' hc => ?_) fun _ _ e => e
      obtain ⟨h', tk', news', e, F', N', off', hS, hJ'⟩ := hc
      exact ⟨h', tk', news', e, F', N', off', hS, ih (i + 1) (ys ++ [y]) news' (by omega) hJ'⟩
  exact key n 0 [] news₀ (by omega) h0
theorem ld_cel {x : Str} {pos : Pos} {v : Value} {C c : Addr} {o : Obj} {scope : Scope} {cl : List (Str × Addr)} {news : List (Addr × Obj)} {Q : Value → Shared → Prop} (N : News h₀ L s.heap news) (hc : cl.lookup x = some c) (hm : (c, o) ∈ news) (hd : o.data = .cell (some v)) (h : Q v s)
    (hk : (compEnvC scope cl C env).scope.kind = .function := by rfl) (hl : (compEnvC scope cl C env).kindOf x = some .cell := by rfl) (hb : (x == ("__debug__" : Str)) = false := by decide) :
    wpAny (model prog w) A (eval (.Name x pos) (compEnvC scope cl C env)) Q E s := wpAny_Name (wpAny_loadName_cell hk hl hc ⟨o, (N _ hm).1, hd⟩ h) hb
end
section
variable {w : World} {vw : Program} {lo : List Str} {mean : ExcName → Option Value} {mg mb : Str → Option Value} {s : Shared}
noncomputable abbrev fldD (P : Params) (nm rw' : List UInt8) (k1 k2 td te : Tok) (n : Nat) : Obj := dictOf [⟨PyData.keyHash P (Str.ofString "name"), .str (Str.ofString "name") k1, .bytes (List.toArray nm) td⟩, ⟨PyData.keyHash P (Str.ofString "raw"), .str (Str.ofString "raw") k2, .bytes (List.toArray rw') te⟩] n
theorem useLf {A : Around} {Q E : Value → Shared → Prop} {h₀ : Heap} {L : Addr} {m : Str → Option Value} {news : List (Addr × Obj)} {B S : Addr} {p q : Int} {t1 t2 : Tok} {n : Nat} {vs : List Value} {ns : List Int} {g : Obj → List (Addr × Obj)}
    (F : Fr h₀ L s.heap m) (N : News h₀ L s.heap news) (U : UpdF B (bagO S p q t1 t2 n) news g) (X : (hd.heap_39 w.params).In h₀) (T : Top vw lo mean mg mb h₀)
    (hS : s.heap.IsList S vs.toArray) (hSB : S ≠ B) (hi : IntsAre vs ns) (hz : ns.length ≤ 1000000) (hp : 0 ≤ p)
    (hh : A.handled = none) (hd : A.depth + 4 < recursionLimit) (hu : A.units + 8 * 4 < cLine)
    (h : ∀ D x dx nm rw' row k1 k2 ta tb td te n1 n2 p' q' t1' t2' n' h' tk, Fr h₀ L h' m → News h₀ L h' ((D, tupO [.ref x, .str (st (nm.map UInt8.toNat)) ta, .str (st row) tb] n1) :: (x, instObj 159 dx) :: (dx, fldD w.params nm rw' k1 k2 td te n2) :: g (bagO S p' q' t1' t2' n')) →
      LCg.Off1 D news → LCg.Off1 x news → LCg.Off1 dx news → nm ∈ lawNames → FieldSpec rw' row → 0 ≤ p' → Q (.ref D) { s with heap := h', toks := tk }) : wpAny (model Pg w) A (call (.ref 347) [.ref B]) Q E s := by
  obtain ⟨pre, post, rfl, hg, a, c⟩ := U.split
  have hB := N (B, bagO S p q t1 t2 n) (List.mem_append_right _ (.head _))
  have st' : h₀.StaysIn (hideAll s.heap [B]) := fun b o e => hideAll_get _ (F.keep b o e) fun hm => by
    rw [List.mem_singleton.mp hm, hB.2.2] at e; cases e
  have hS' : (hideAll s.heap [B]).IsList S vs.toArray := by
    obtain ⟨o, e, r⟩ := hS
    exact ⟨o, hideAll_get _ e fun hm => hSB (List.mem_singleton.mp hm), r⟩
  refine c_lawfield hp hB.1 hS' hSB hi hz (⟨X.keeps st', T.keeps st'⟩ : Ms w vw lo mean mg mb B s.heap) A Q E hh hd hu fun v h' tk k pp => ?_
  obtain ⟨D, x, dx, nm, rw', row, k1, k2, ta, tb, td, te, n1, n2, p', q', t1', t2', n', rfl, d1, d2, d3, e1, e2, e3, hnm, hfs, hp', hB'⟩ := pp
  have keep : ∀ b o, b ≠ B → s.heap.get? b = some o → h'.get? b = some o := fun b o hb e => k b o (hideAll_get _ e fun hm => hb (List.mem_singleton.mp hm))
  have F' : Fr h₀ L h' m := ⟨F.ns.at' fun o e => keep L o (Ne.symm hB.2.1) e, fun b o e => k b o (st' b o e), F.above⟩
  refine h D x dx nm rw' row k1 k2 ta tb td te n1 n2 p' q' t1' t2' n' h' tk F' (addAt F (addAt F (addAt F ?_ d3 e3) d2 e2) d1 e1) (offNew N d1) (offNew N d2) (offNew N d3) hnm hfs hp'
  rw [hg]
  intro x hx
  rcases List.mem_append.mp hx with hx | hx
  · have z := N x (List.mem_append_left _ hx)
    exact ⟨keep _ _ (a x hx) z.1, z.2⟩
  · rcases List.mem_cons.mp hx with rfl | hx
    · exact ⟨hB', hB.2⟩
    · have z := N x (List.mem_append_right _ (.tail _ hx))
      exact ⟨keep _ _ (c x hx) z.1, z.2⟩
end
/-- an entry of told, borne by the ledger's tail -/
noncomputable def TE (P : Params) (tl : List (Addr × Obj)) (v : Value) (f : List UInt8 × List Nat) : Prop :=
  ∃ D x dx rw' ta tb td te k1 k2 n1 n2, v = .ref D ∧ (D, tupO [.ref x, .str (st (f.1.map UInt8.toNat)) ta, .str (st f.2) tb] n1) ∈ tl ∧ (x, instObj 159 dx) ∈ tl ∧ (dx, fldD P f.1 rw' k1 k2 td te n2) ∈ tl ∧ f.1 ∈ lawNames ∧ FieldSpec rw' f.2
noncomputable def TL (P : Params) (vs : List Value) (fs : List (List UInt8 × List Nat)) (tl : List (Addr × Obj)) : Prop :=
  vs.length = fs.length ∧ ∀ (i : Nat) (f : List UInt8 × List Nat), fs[i]? = some f → ∃ v, vs[i]? = some v ∧ TE P tl v f
theorem TE.more {P : Params} {tl tl' : List (Addr × Obj)} {v : Value} {f : List UInt8 × List Nat} (h : TE P tl v f) (k : ∀ p ∈ tl, p ∈ tl') : TE P tl' v f := by
  obtain ⟨D, x, dx, rw', ta, tb, td, te, k1, k2, n1, n2, e, a, b, c, d⟩ := h
  exact ⟨D, x, dx, rw', ta, tb, td, te, k1, k2, n1, n2, e, k _ a, k _ b, k _ c, d⟩
theorem TL.snoc {P : Params} {vs : List Value} {fs : List (List UInt8 × List Nat)} {tl tl' : List (Addr × Obj)} {v : Value} {f : List UInt8 × List Nat} (h : TL P vs fs tl) (k : ∀ p ∈ tl, p ∈ tl') (hv : TE P tl' v f) : TL P (vs ++ [v]) (fs ++ [f]) tl' := by
  refine ⟨by simp [h.1], fun i g hg => ?_⟩
  rcases Nat.lt_or_ge i fs.length with hi | hi
  · rw [List.getElem?_append_left hi] at hg
    obtain ⟨u, hu, te⟩ := h.2 i g hg
    exact ⟨u, by rw [List.getElem?_append_left (by rw [h.1]; exact hi)]; exact hu, te.more k⟩
  · rw [List.getElem?_append_right hi] at hg
    have h0 : i - fs.length = 0 := by
      rcases Nat.eq_zero_or_pos (i - fs.length) with h | h
      · exact h
      · rw [List.getElem?_eq_none (show [f].length ≤ _ from h)] at hg; cases hg
    rw [h0] at hg
    simp only [List.getElem?_cons_zero, Option.some.injEq] at hg
    subst hg
    have : i = vs.length := by rw [h.1]; omega
    subst this
    exact ⟨v, by simp, hv⟩
inductive TJ (P : Params) (B S cw cs cb : Addr) (ow os ob : Obj) (sv : List Value) (i : Nat) (ys : List Value) (news : List (Addr × Obj)) : Prop
  | mk (fs : List (List UInt8 × List Nat)) (tl : List (Addr × Obj)) (p q : Int) (t1 t2 : Tok) (n : Nat) (h1 : fs.length = i) (h2 : TL P ys fs tl) (h3 : ∀ r ∈ tl, r.1 ≠ B) (h4 : ∀ r ∈ tl, r.1 ≠ cw) (h5 : ∀ r ∈ tl, r.1 ≠ cs) (h6 : 0 ≤ p)
    (h7 : news = (cw, ow) :: (cs, os) :: (cb, ob) :: (B, bagO S p q t1 t2 n) :: (S, LCg.lst sv) :: tl) : TJ P B S cw cs cb ow os ob sv i ys news

section
variable {prog : Program} {w : World} {A : Around} {E : Value → Shared → Prop} {s : Shared} {Q : Value → Shared → Prop} {h₀ : Heap} {L : Addr} {m : Str → Option Value} {news : List (Addr × Obj)}
theorem ne_nil {l b : Addr} {ys : List Value} (hl : s.heap.IsList l ys.toArray) (hb : s.heap.IsList b #[]) (hu : A.units < cLine) (h : Q (.bool (!ys.isEmpty)) s) : wpAny (model prog w) A (compareOp .NotEq (.ref l) (.ref b)) Q E s := by
  show wpAny (model prog w) A (richCompare .NotEq (.ref l) (.ref b)) Q E s
  cases ys with
  | nil => exact SeqAt.RcNeAt.lists (e := fun _ => true) hl hb rfl hu (fun j h1 => absurd h1 (Nat.not_lt_zero _)) prog w E Q h
  | cons y r => exact SeqAt.RcNeAt.lists_lengths hl hb (by simp) hu prog w E Q h
theorem slice_in (l : List Nat) (a b : Option Int) : ∃ l', Txt.slice (st l) a b = st l' ∧ l'.length ≤ l.length ∧ ∀ c ∈ l', c ∈ l := by
  unfold Txt.slice
  split
  · exact ⟨l, rfl, Nat.le_refl _, fun c h => h⟩
  · have e : (st l).length = l.length := st_len l
    refine ⟨(Builtin.Str.strSliceIndices a b 1 (st l).length).filterMap ((st l).cps[·]?), rfl, ?_, ?_⟩
    · exact Nat.le_trans (List.length_filterMap_le _ _) (by rw [e]; exact sliceIndices_le a b _)
    · intro c hc
      obtain ⟨i, _, h⟩ := List.mem_filterMap.mp hc
      have e2 : (st l).cps = l.toArray := rfl
      rw [e2] at h
      exact List.mem_of_getElem? (by simpa using h)
theorem slice_st {value slice : PySem.Expr} {l : List Nat} {t : Tok} {i j : Int} {ui uj : Tok} (hF : Fr h₀ L s.heap m) (hN : News h₀ L s.heap news) (hl : l.length ≤ 1000000)
    (h : ∀ l' h' t' k, Fr h₀ L h' m → News h₀ L h' news → l'.length ≤ l.length → (∀ c ∈ l', c ∈ l) → Q (.str (st l') t') { s with heap := h', toks := k })
    (hs : subscripted slice false (.str (st l) t) (.ref s.heap.objs.size) = operate [.ref s.heap.objs.size, .str (st l) t] (getItem (.str (st l) t) (.ref s.heap.objs.size)) := by with_unfolding_all rfl)
    (ht : ∀ r, letTemporaryGo value (.str (st l) t) r = pure () := by intro _; with_unfolding_all rfl) :
    wpAny (model prog w) A (subscriptTail value slice (.str (st l) t) (.ref s.heap.objs.size)) Q E { s with heap := s.heap.push { cls := .type "slice", data := .fields #[.int i ui, .int j uj, .none] } } :=
  slice_strN_ss hF hN (fun h' t' k a b => by obtain ⟨l', e, h1, h2⟩ := slice_in l (some i) (some j); rw [e]; exact h l' h' t' k a b h1 h2) hs ht (by rw [st_len, sizeLine_eq]; omega)
theorem pick_told {value slice : PySem.Expr} {P : Params} {Tl : Addr} {ys : List Value} {fs : List (List UInt8 × List Nat)} {tl : List (Addr × Obj)} {r : Int} {u : Tok} (hT : TL P ys fs tl) (N : News h₀ L s.heap news) (hm : (Tl, LCg.lst ys) ∈ news) (h0 : 0 ≤ r) (h1 : r < (ys.length : Int)) (hz : ys.length ≤ 1000000)
    (h : ∀ D x (nm : Str) ta row tb n1, (∃ nb, (nb, row) ∈ fs) → (D, tupO [.ref x, .str nm ta, .str (st row) tb] n1) ∈ tl → Q (.ref D) s)
    (hs : subscripted slice false (.ref Tl) (.int r u) = operate [.ref Tl, .int r u] (getItem (.ref Tl) (.int r u)) := by with_unfolding_all rfl) :
    wpAny (model prog w) A (subscriptTail value slice (.ref Tl) (.int r u)) Q E s := by
  have hl : s.heap.IsList Tl ys.toArray := News.isList N hm
  have hlt : r.toNat < fs.length := by have := hT.1; omega
  obtain ⟨v, hv, D, x, dx, rw', ta, tb, td, te, k1, k2, n1, n2, rfl, a, b, c, d⟩ := hT.2 r.toNat _ (List.getElem?_eq_getElem hlt)
  exact tail_any hl.typeIs slot_list_getitem.lookup (wpAny_getItem_list hl h0 (by omega) (x := .ref D) (by simpa using hv) (h D x _ ta _ tb n1 ⟨_, List.getElem_mem hlt⟩ a)) hs
theorem pick_two {value slice : PySem.Expr} {D : Addr} {a b c : Value} {n : Nat} {u : Tok} (N : News h₀ L s.heap news) (hm : (D, tupO [a, b, c] n) ∈ news) (h : Q c s)
    (hs : subscripted slice false (.ref D) (.int 2 u) = operate [.ref D, .int 2 u] (getItem (.ref D) (.int 2 u)) := by with_unfolding_all rfl) :
    wpAny (model prog w) A (subscriptTail value slice (.ref D) (.int 2 u)) Q E s :=
  item_tupleT (l := [a, b, c]) (j := 2) (x := c) (show s.heap.IsTuple D #[a, b, c] from ⟨_, (N _ hm).1, rfl, n, rfl⟩) (by decide) (by decide) rfl rfl h hs
end
/-- told, fields, and what they tell -/
noncomputable def TF (P : Params) (ys fys : List Value) (fs : List (List UInt8 × List Nat)) (tl : List (Addr × Obj)) : Prop :=
  ys.length = fs.length ∧ fys.length = fs.length ∧ ∀ (i : Nat) (f : List UInt8 × List Nat), fs[i]? = some f → ∃ D x dx rw' ta tb td te k1 k2 n1 n2, ys[i]? = some (.ref D) ∧ fys[i]? = some (.ref x) ∧
    (D, tupO [.ref x, .str (st (f.1.map UInt8.toNat)) ta, .str (st f.2) tb] n1) ∈ tl ∧ (x, instObj 159 dx) ∈ tl ∧ (dx, fldD P f.1 rw' k1 k2 td te n2) ∈ tl ∧ f.1 ∈ lawNames ∧ FieldSpec rw' f.2
/-- the first of an entry -/
noncomputable def GF (P : Params) (ys : List Value) (fs : List (List UInt8 × List Nat)) (tl : List (Addr × Obj)) (i : Nat) (y : Value) : Prop :=
  ∀ f, fs[i]? = some f → ∃ D x dx rw' ta tb td te k1 k2 n1 n2, ys[i]? = some (.ref D) ∧ y = .ref x ∧
    (D, tupO [.ref x, .str (st (f.1.map UInt8.toNat)) ta, .str (st f.2) tb] n1) ∈ tl ∧ (x, instObj 159 dx) ∈ tl ∧ (dx, fldD P f.1 rw' k1 k2 td te n2) ∈ tl ∧ f.1 ∈ lawNames ∧ FieldSpec rw' f.2
theorem paired_get {α β : Type} {F : α → β → Prop} : ∀ {as : List α} {bs : List β}, Paired F as bs → ∀ (i : Nat) (a : α), as[i]? = some a → ∃ b, bs[i]? = some b ∧ F a b
  | _, _, .nil, i, a, h => by simp at h
  | _, _, .cons h r, 0, a, e => by simp only [List.getElem?_cons_zero, Option.some.injEq] at e; subst e; exact ⟨_, rfl, h⟩
  | _, _, .cons h r, i + 1, a, e => by simpa using paired_get r i a (by simpa using e)
theorem TF.of {P : Params} {ys fys : List Value} {fs : List (List UInt8 × List Nat)} {tl : List (Addr × Obj)} (h : TL P ys fs tl) (hp : Paired (GF P ys fs tl) ((List.range ys.toArray.size).filter fun _ => true) fys) : TF P ys fys fs tl := by
  have e : (List.range ys.toArray.size).filter (fun _ => true) = List.range ys.length := by
    rw [List.size_toArray]; exact List.filter_eq_self.mpr fun _ _ => rfl
  rw [e] at hp
  have hl := paired_len hp
  rw [List.length_range] at hl
  refine ⟨h.1, by rw [← hl, h.1], fun i f hf => ?_⟩
  have hi : i < fs.length := by
    rcases Nat.lt_or_ge i fs.length with hi | hi
    · exact hi
    · rw [List.getElem?_eq_none hi] at hf; cases hf
  obtain ⟨y, hy, hG⟩ := paired_get hp i i (by rw [List.getElem?_range (by rw [h.1]; exact hi)])
  obtain ⟨D, x, dx, rw', ta, tb, td, te, k1, k2, n1, n2, a1, rfl, a2, a3, a4, a5, a6⟩ := hG f hf
  exact ⟨D, x, dx, rw', ta, tb, td, te, k1, k2, n1, n2, a1, hy, a2, a3, a4, a5, a6⟩
theorem TF.told {P : Params} {ys fys : List Value} {fs : List (List UInt8 × List Nat)} {tl : List (Addr × Obj)} (h : TF P ys fys fs tl) : TL P ys fs tl :=
  ⟨h.1, fun i f hf => by
    obtain ⟨D, x, dx, rw', ta, tb, td, te, k1, k2, n1, n2, a1, hy, a2, a3, a4, a5, a6⟩ := h.2.2 i f hf
    exact ⟨_, a1, D, x, dx, rw', ta, tb, td, te, k1, k2, n1, n2, rfl, a2, a3, a4, a5, a6⟩⟩
theorem TF.flds {P : Params} {ys fys : List Value} {fs : List (List UInt8 × List Nat)} {tl : List (Addr × Obj)} {h₀ h : Heap} {L : Addr} (t : TF P ys fys fs tl) (N : News h₀ L h tl) : FldsAt P h fys.toArray fs :=
  ⟨by rw [List.size_toArray]; exact t.2.1, fun i f hf => by
    obtain ⟨D, x, dx, rw', ta, tb, td, te, k1, k2, n1, n2, a1, hy, a2, a3, a4, a5, a6⟩ := t.2.2 i f hf
    exact ⟨x, rw', by simpa using hy, ⟨dx, k1, k2, td, te, n2, (N _ a3).1, (N _ a4).1⟩, a6, a5⟩⟩
/-- which entries are told -/
noncomputable def pM (M : List UInt8 × List Nat → Bool) (fs : List (List UInt8 × List Nat)) (i : Nat) : Bool := match fs[i]? with | some f => M f | none => false
theorem pM_some {M : List UInt8 × List Nat → Bool} {fs : List (List UInt8 × List Nat)} {i : Nat} {f : List UInt8 × List Nat} (h : fs[i]? = some f) : pM M fs i = M f := by unfold pM; rw [h]
theorem any_filter (M : List UInt8 × List Nat → Bool) (fs : List (List UInt8 × List Nat)) : (!((List.range fs.length).filter (pM M fs)).isEmpty) = fs.any M := by
  rw [Bool.eq_iff_iff, Bool.not_eq_true', List.isEmpty_eq_false_iff_exists_mem, List.any_eq_true]
  constructor
  · rintro ⟨i, hi⟩
    obtain ⟨h1, h2⟩ := List.mem_filter.mp hi
    have h3 := List.mem_range.mp h1
    exact ⟨fs[i], List.getElem_mem h3, by rw [← pM_some (M := M) (List.getElem?_eq_getElem h3)]; exact h2⟩
  · rintro ⟨f, hf, hm⟩
    obtain ⟨i, hi, e⟩ := List.getElem_of_mem hf
    refine ⟨i, List.mem_filter.mpr ⟨List.mem_range.mpr hi, ?_⟩⟩
    rw [pM_some (List.getElem?_eq_getElem hi), e]; exact hm
theorem any_paired {M : List UInt8 × List Nat → Bool} {fs : List (List UInt8 × List Nat)} {ys zs : List Value} {G : Nat → Value → Prop} (hl : ys.length = fs.length) (h : Paired G ((List.range ys.toArray.size).filter (pM M fs)) zs) : (!zs.isEmpty) = fs.any M := by
  rw [← any_filter M fs]
  have e := paired_len h
  rw [List.size_toArray, hl] at e
  congr 1
  generalize (List.range fs.length).filter (pM M fs) = l at e
  cases l <;> cases zs <;> simp_all

/-- from any state that keeps H: a test that ends in b -/
noncomputable def EvT (w : World) (A : Around) (H : Heap) (c : Sem Bool) (b : Bool) : Prop :=
  ∀ (s : Shared) (Q : Bool → Shared → Prop) (E : Value → Shared → Prop), Kp H s.heap → (∀ h' tk, Kp s.heap h' → Q b { s with heap := h', toks := tk }) → wpAny (model Pg w) A c Q E s
section
variable {w : World} {A : Around} {H : Heap} {env : Env} {vw : Program} {lo : List Str} {mean : ExcName → Option Value} {mg mb : Str → Option Value} {P R : Value → Prop}
theorem EvT.one {c : Expr} {b : Bool} (h : EvT w A H (isTrue c env (eval c env)) b) : EvT w A H (testsOf [c] env) b := fun s Q E k q => wpAny_tests_one (h s Q E k q)
theorem EvT.nil : EvT w A H (testsOf [] env) true := fun s Q E _ q => wpAny_tests_nil (q s.heap s.toks (Kp.refl _))
theorem EvT.cmp {l r : Expr} {op : CmpOp} {p : Pos} {whole : Sem Value} {b : Bool} {P1 P2 : Value → Prop} (hl : Ev w A H (eval l env) P1) (hr : Ev w A H (eval r env) P2)
    (hc : ∀ v u, P1 v → P2 u → Ev w A H (compareOp op v u) (fun z => z = .bool b)) (hm : behindInMarks op r = false := by with_unfolding_all rfl) : EvT w A H (isTrue (.Compare l [op] [r] p) env whole) b := fun s Q E k q =>
  wpAny_isTrue_Compare1 (hl _ _ _ k fun v ha ta ka pa => hr _ _ _ (k.trans ka) fun u hb tb kb pb => hc v u pa pb _ _ _ ((k.trans ka).trans kb) fun z hz tz kz pz => by
    subst pz
    exact wpAny_truthy_bool (q hz tz ((ka.trans kb).trans kz))) hm
theorem EvT.and2 {a c : Expr} {p : Pos} {whole : Sem Value} {b1 b2 : Bool} (h1 : EvT w A H (isTrue a env (eval a env)) b1) (h2 : EvT w A H (isTrue c env (eval c env)) b2) : EvT w A H (isTrue (.BoolOp .And [a, c] p) env whole) (b1 && b2) := fun s Q E k q => by
  refine isTrue_and (h1 s _ E k fun h' tk k1 => ?_)
  cases b1 with
  | false => exact q h' tk k1
  | true =>
    simp only [if_true]
    refine isTrue_and (h2 _ _ E (k.trans k1) fun h2' tk2 k2 => ?_)
    cases b2 with
    | false => exact q h2' tk2 (k1.trans k2)
    | true =>
      simp only [if_true]
      exact isTrue_and_nil (q h2' tk2 (k1.trans k2))
theorem Ev.addS {a b : List Nat} {t u : Tok} (hl : a.length + b.length ≤ 1000000) : Ev w A H (binaryOp .Add (.str (st a) t) (.str (st b) u)) (fun r => ∃ t, r = .str (st (a ++ b)) t) := fun s Q E _ q =>
  sadd rfl rfl hl fun t k => q _ s.heap k (Kp.refl _) ⟨t, rfl⟩
theorem Ev.eqS {x y : Str} {t u : Tok} : Ev w A H (compareOp .Eq (.str x t) (.str y u)) (fun r => r = .bool (x == y)) := fun s Q E _ q =>
  PyProof.Rows.eq_str (q _ s.heap _ (Kp.refl _) rfl)
theorem Ev.smallC {f e : Expr} {pos : Pos} {l : List Nat} (b : Bs w vw lo mean mg mb H) (hf : Ev w A H (eval f env) (fun r => r = .ref 342)) (he : Ev w A H (eval e env) (fun v => ∃ t, v = .str (st l) t))
    (hh : A.handled = none) (hd : A.depth + 2 < recursionLimit) (hu : A.units + 8 * 2 < cLine) (hc : ∀ c ∈ l, Alph c) (hl : l.length ≤ 1000000)
    (h1 : starEach (e :: []) env = (false, eval e env) :: starEach [] env := by rfl)
    (h2 : eval (.Call f [e] [] pos) env = (do callWith pos (← eval f env) [] (backTo pos (starEach [e] env)) (backToKw pos (keywordEach [] env))) := by rfl) :
    Ev w A H (eval (.Call f [e] [] pos) env) (fun v => ∃ t, v = .str (st (l.map lowN)) t) :=
  Ev.callK b hf (by k_is) he hh hd hu (fun v s p k => by obtain ⟨t, rfl⟩ := p; exact c_small hc hl (b.keeps k)) h1 h2
end
section
variable {w : World} {A : Around} {env : Env} {scope : Scope} {cl : List (Str × Addr)} {ifs : List Expr} {elt : Expr} {h₀ H : Heap} {L : Addr} {news : List (Addr × Obj)}
theorem QT.told {x1 x2 x3 : Str} {P : Params} {ys : List Value} {fs : List (List UInt8 × List Nat)} {tl : List (Addr × Obj)} {M : List UInt8 × List Nat → Bool} {G : Nat → Value → Prop} (t : TL P ys fs tl) (N : News h₀ L H news) (sub : ∀ p ∈ tl, p ∈ news)
    (ht : ∀ (f : List UInt8 × List Nat) x ta tb C (s₃ : Shared) (m₃ : Str → Option Value), f ∈ fs → f.1 ∈ lawNames → (∃ rw', FieldSpec rw' f.2) → s₃.heap.Ns C m₃ → m₃ x1 = some (.ref x) → m₃ x2 = some (.str (st (f.1.map UInt8.toNat)) ta) → m₃ x3 = some (.str (st f.2) tb) → Kp H s₃.heap → EvT w A s₃.heap (testsOf ifs (compEnvC scope cl C env)) (M f))
    (he : ∀ i (f : List UInt8 × List Nat) x ta tb C (s₃ : Shared) (m₃ : Str → Option Value), fs[i]? = some f → TE P tl (ys.getD i .none) f → (∃ D n1, ys[i]? = some (.ref D) ∧ (D, tupO [.ref x, .str (st (f.1.map UInt8.toNat)) ta, .str (st f.2) tb] n1) ∈ tl ∧ ∃ dx rw' td te k1 k2 n2, (x, instObj 159 dx) ∈ tl ∧ (dx, fldD P f.1 rw' k1 k2 td te n2) ∈ tl ∧ f.1 ∈ lawNames ∧ FieldSpec rw' f.2) →
      s₃.heap.Ns C m₃ → m₃ x1 = some (.ref x) → Ev w A s₃.heap (eval elt (compEnvC scope cl C env)) (G i)) :
    QT Pg w A env scope cl x1 x2 x3 ifs elt H ys.toArray (pM M fs) G := by
  intro i v hv
  have hv' : ys[i]? = some v := by simpa using hv
  have hi : i < fs.length := by
    rw [← t.1]
    rcases Nat.lt_or_ge i ys.length with h | h
    · exact h
    · rw [List.getElem?_eq_none h] at hv'; cases hv'
  have hf := List.getElem?_eq_getElem hi
  generalize fs[i] = f at hf
  obtain ⟨v', e, hTE⟩ := t.2 i f hf
  rw [hv'] at e
  obtain rfl := Option.some.inj e
  have hTE' := hTE
  obtain ⟨D, x, dx, rw', ta, tb, td, te, k1, k2, n1, n2, rfl, a, b, c, d, e⟩ := hTE'
  refine ⟨D, _, _, _, rfl, ⟨_, (N _ (sub _ a)).1, rfl, n1, rfl⟩, ?_⟩
  intro C s₃ m₃ E' hC hn q1 q2 q3 hk
  refine ht f x ta tb C s₃ m₃ (List.mem_of_getElem? hf) d ⟨_, e⟩ hn q1 q2 q3 hk s₃ _ E' (Kp.refl _) fun h' tk k => ⟨(pM_some hf).symm, ⟨h', tk, rfl, k⟩, fun _ => ?_⟩
  have hg : ys.getD i .none = .ref D := by rw [List.getD_eq_getElem?_getD, hv']; rfl
  refine he i f x ta tb C s₃ m₃ hf (hg ▸ hTE) ⟨D, n1, hv', a, dx, rw', td, te, k1, k2, n2, b, c, d, e⟩ hn q1 _ _ E' k fun r h2 tk2 kk p => ⟨p, h2, tk2, rfl, kk⟩
end
theorem FieldSpec.ok {rw' : List UInt8} {row : List Nat} (h : FieldSpec rw' row) : (∀ c ∈ row, Alph c) ∧ row.length ≤ 100 := by
  obtain ⟨_, _, _, _, _, _, _, _, z7, z8⟩ := h.und
  exact ⟨z7, z8⟩
theorem name_alph {nm : List UInt8} (h : nm ∈ lawNames) : ∀ c ∈ nm.map UInt8.toNat, Alph c := by
  revert nm; decide

local macro_rules | `(tactic| k_all) => `(tactic| assumption)
theorem TF.of2 {P : Params} {ys fys : List Value} {fs : List (List UInt8 × List Nat)} {tl : List (Addr × Obj)} (h : TL P ys fs tl) (hp : Paired (GF P ys fs tl) ((List.range ys.toArray.size).filter (pM (fun _ => true) fs)) fys) : TF P ys fys fs tl := by
  refine TF.of h ?_
  have e : (List.range ys.toArray.size).filter (pM (fun _ => true) fs) = (List.range ys.toArray.size).filter fun _ => true := by
    refine List.filter_congr fun i hi => ?_
    have hi := List.mem_range.mp hi
    rw [List.size_toArray, h.1] at hi
    exact pM_some (List.getElem?_eq_getElem hi)
  rw [← e]; exact hp
theorem told_end {P : Params} {s₁ : Shared} {h₀ h' : Heap} {L I C D D' x' dx' B S cw cs cb : Addr} {oI oC oD ow os ob oB : Obj} {m : Str → Option Value} {sv zs : List Value} {tl : List (Addr × Obj)} {nm rw' : List UInt8} {row : List Nat}
    {k1 k2 ta tb td te : Tok} {n1 n2 : Nat} {p q : Int} {t1 t2 : Tok} {n i : Nat} {tk : Nat} {fs : List (List UInt8 × List Nat)}
    (F : Fr h₀ L h' m) (N : News h₀ L h' ((D', tupO [.ref x', .str (st (nm.map UInt8.toNat)) ta, .str (st row) tb] n1) :: (x', instObj 159 dx') :: (dx', fldD P nm rw' k1 k2 td te n2) :: (I, oI) :: (C, oC) :: (D, oD) :: (cw, ow) :: (cs, os) :: (cb, ob) :: (B, bagO S p q t1 t2 n) :: (S, LCg.lst sv) :: tl))
    (o1 : LCg.Off1 D' ((I, oI) :: (C, oC) :: (D, oD) :: (cw, ow) :: (cs, os) :: (cb, ob) :: (B, oB) :: (S, LCg.lst sv) :: tl)) (o2 : LCg.Off1 x' ((I, oI) :: (C, oC) :: (D, oD) :: (cw, ow) :: (cs, os) :: (cb, ob) :: (B, oB) :: (S, LCg.lst sv) :: tl))
    (o3 : LCg.Off1 dx' ((I, oI) :: (C, oC) :: (D, oD) :: (cw, ow) :: (cs, os) :: (cb, ob) :: (B, oB) :: (S, LCg.lst sv) :: tl))
    (off : LCg.Off3 I C D ((cw, ow) :: (cs, os) :: (cb, ob) :: (B, oB) :: (S, LCg.lst sv) :: tl)) (hp : 0 ≤ p) (hlen : fs.length = i) (hT : TL P zs fs tl)
    (hB : ∀ r ∈ tl, r.1 ≠ B) (hcw : ∀ r ∈ tl, r.1 ≠ cw) (hcs : ∀ r ∈ tl, r.1 ≠ cs) (hnm : nm ∈ lawNames) (hfs : FieldSpec rw' row) :
    LCg.CompEnd h₀ L m s₁ I oI C oC D oD (fun _ => True) (fun y news' => TJ P B S cw cs cb ow os ob sv (i + 1) (zs ++ [y]) news') (.ref D') { s₁ with heap := h', toks := tk } := by
  have a1 := o1; have a2 := o2; have a3 := o3; have a4 := off
  simp only [LCg.Off1] at a1 a2 a3
  refine LCg.CompEnd.intro F N _ (by kcf_all) ?_ trivial ⟨fs ++ [(nm, row)], (D', _) :: (x', _) :: (dx', _) :: tl, p, q, t1, t2, n, by rw [List.length_append, hlen]; rfl, hT.snoc (fun r hr => .tail _ (.tail _ (.tail _ hr))) ⟨D', x', dx', rw', ta, tb, td, te, k1, k2, n1, n2, rfl, .head _, .tail _ (.head _), .tail _ (.tail _ (.head _)), hnm, hfs⟩, ?_, ?_, ?_, hp, rfl⟩
  · simp only [LCg.Off3] at a4 ⊢
    obtain ⟨b1, b2, b3, b4, b5, b6⟩ := a4
    exact ⟨b1, b2, b3, b4, b5, ⟨Ne.symm a1.1, Ne.symm a1.2.1, Ne.symm a1.2.2.1⟩, ⟨Ne.symm a2.1, Ne.symm a2.2.1, Ne.symm a2.2.2.1⟩, ⟨Ne.symm a3.1, Ne.symm a3.2.1, Ne.symm a3.2.2.1⟩, b6⟩
  · exact List.forall_mem_cons.mpr ⟨Ne.symm a1.2.2.2.2.2.2.1, List.forall_mem_cons.mpr ⟨Ne.symm a2.2.2.2.2.2.2.1, List.forall_mem_cons.mpr ⟨Ne.symm a3.2.2.2.2.2.2.1, hB⟩⟩⟩
  · exact List.forall_mem_cons.mpr ⟨Ne.symm a1.2.2.2.1, List.forall_mem_cons.mpr ⟨Ne.symm a2.2.2.2.1, List.forall_mem_cons.mpr ⟨Ne.symm a3.2.2.2.1, hcw⟩⟩⟩
  · exact List.forall_mem_cons.mpr ⟨Ne.symm a1.2.2.2.2.1, List.forall_mem_cons.mpr ⟨Ne.symm a2.2.2.2.2.1, List.forall_mem_cons.mpr ⟨Ne.symm a3.2.2.2.2.1, hcs⟩⟩⟩
theorem TL.rows {P : Params} {ys : List Value} {fs : List (List UInt8 × List Nat)} {tl : List (Addr × Obj)} (h : TL P ys fs tl) : ∀ f ∈ fs, (∀ c ∈ f.2, Alph c) ∧ f.2.length ≤ 100 := by
  intro f hf
  obtain ⟨i, hi, e⟩ := List.getElem_of_mem hf
  obtain ⟨v, _, D, x, dx, rw', ta, tb, td, te, k1, k2, n1, n2, _, _, _, _, _, hs⟩ := h.2 i f (by rw [List.getElem?_eq_getElem hi, e])
  exact hs.ok
section
variable {prog : Program} {w : World} {A : Around} {E : Value → Shared → Prop} {s : Shared} {Q : Value → Shared → Prop} {h₀ : Heap} {L : Addr} {m : Str → Option Value} {news : List (Addr × Obj)}
theorem ne_nilD {l b : Addr} {ys : List Value} (hl : s.heap.IsList l ys.toArray) (hb : s.heap.IsList b #[]) (hu : A.units < cLine) (h : Q (.bool (decide ((0 : Int) < (ys.length : Int)))) s) : wpAny (model prog w) A (compareOp .NotEq (.ref l) (.ref b)) Q E s := by
  refine ne_nil hl hb hu ?_
  have e : (!ys.isEmpty) = decide ((0 : Int) < (ys.length : Int)) := by
    cases ys with
    | nil => rfl
    | cons y r => rw [decide_eq_true (by simp only [List.length_cons]; omega)]; rfl
  rw [e]; exact h
theorem len_lst {l : Addr} {zs : List Value} (hl : s.heap.IsList l zs.toArray) (hz : zs.length ≤ 1000000) (h : ∀ t k, Q (.int (zs.length : Int) t) { s with toks := k }) : wpAny (model prog w) A (call (.builtin "len") [.ref l]) Q E s :=
  PyProof.Rows.len_list hl (by rw [List.size_toArray]; omega) (by have := h (s.toks + 1) (s.toks + 1 + 1); simpa using this)
theorem len_st {a : List Nat} {c : Nat} {u : Tok} (hz : a.length ≤ 1000000) (h : ∀ t k, Q (.int ((a.length : Int) + 1) t) { s with toks := k }) : wpAny (model prog w) A (call (.builtin "len") [.str (st (a ++ [c])) u]) Q E s := by
  have e2 : (st (a ++ [c])).length = a.length + 1 := by rw [st_len, List.length_append]; rfl
  refine PyProof.Rows.len_str ?_ ?_
  · rw [e2]; omega
  · rw [e2]; have := h (s.toks + 1) (s.toks + 1 + 1); exact_mod_cast this
theorem pick_five {value slice : PySem.Expr} {a : Addr} {r : Int} {u t1 t2 t3 t4 t5 : Tok} {n : Nat} (N : News h₀ L s.heap news) (hm : (a, tupO [.str (Str.ofString "") t1, .str (Str.ofString "subject: t") t2, .str (Str.ofString "ä") t3, .str (Str.ofString "Ä") t4, .str (Str.ofString ": ") t5] n) ∈ news)
    (h0 : 0 ≤ r) (h1 : r < 5) (h : ∀ pc t, (∀ c ∈ pc, Alph c) → pc.length ≤ 10 → Q (.str (st pc) t) s)
    (hs : subscripted slice false (.ref a) (.int r u) = operate [.ref a, .int r u] (getItem (.ref a) (.int r u)) := by with_unfolding_all rfl) :
    wpAny (model prog w) A (subscriptTail value slice (.ref a) (.int r u)) Q E s := by
  rw [show Str.ofString "" = st [] from by decide +kernel, show Str.ofString "subject: t" = st [115, 117, 98, 106, 101, 99, 116, 58, 32, 116] from by decide +kernel, show Str.ofString "ä" = st [228] from by decide +kernel, show Str.ofString "Ä" = st [196] from by decide +kernel, show Str.ofString ": " = st [58, 32] from by decide +kernel] at hm
  refine tup_pick ⟨_, (N _ hm).1, rfl, n, rfl⟩ h0 h1 (Nat.le_of_ble_eq_true rfl) ?_ hs
  intro v hv
  simp only [List.mem_cons, List.not_mem_nil, or_false] at hv
  rcases hv with rfl | rfl | rfl | rfl | rfl
  all_goals exact h _ _ (by decide) (by decide)
end
inductive PJ (cw cs cb B Fl Tl S : Addr) (ob : Obj) (sv fys zs : List Value) (tl : List (Addr × Obj)) (pc : List Nat) (m : Str → Option Value) (news : List (Addr × Obj)) : Prop
  | mk (tp : Tok) (ow os : Obj) (vw' vs' : Option Value) (p q : Int) (t1 t2 : Tok) (n : Nat) (h1 : m (Str.ofString "told") = some (.ref Tl)) (h2 : m (Str.ofString "fields") = some (.ref Fl)) (h3 : m (Str.ofString "piece") = some (.str (st pc) tp)) (h4 : ow.data = .cell vw') (h5 : os.data = .cell vs') (h6 : 0 ≤ p)
    (h7 : news = (cw, ow) :: (cs, os) :: (cb, ob) :: (B, bagO S p q t1 t2 n) :: (Fl, LCg.lst fys) :: (Tl, LCg.lst zs) :: (S, LCg.lst sv) :: tl) : PJ cw cs cb B Fl Tl S ob sv fys zs tl pc m news
inductive Mid (h₀ : Heap) (L : Addr) (s : Shared) (I : Addr) (oI : Obj) (J : List Nat → Jn) (f : Flow) (s' : Shared) : Prop
  | mk (e : f = .next) (pc : List Nat) (h : Heap) (tk : Nat) (m : Str → Option Value) (news : List (Addr × Obj)) (h1 : ∀ c ∈ pc, Alph c) (h2 : pc.length ≤ 1000) (h3 : s' = { s with heap := h, toks := tk }) (h4 : Fr h₀ L h m) (h5 : News h₀ L h ((I, oI) :: news)) (h6 : J pc m news) : Mid h₀ L s I oI J f s'
inductive LJ (cw cs cb B Fl Tl S : Addr) (ob : Obj) (sv fys zs : List Value) (tl : List (Addr × Obj)) (_i : Nat) (m : Str → Option Value) (news : List (Addr × Obj)) : Prop
  | mk (ow os : Obj) (vw' vs' : Option Value) (p q : Int) (t1 t2 : Tok) (n : Nat) (h1 : m (Str.ofString "told") = some (.ref Tl)) (h2 : m (Str.ofString "fields") = some (.ref Fl)) (h4 : ow.data = .cell vw') (h5 : os.data = .cell vs') (h6 : 0 ≤ p)
    (h7 : news = (cw, ow) :: (cs, os) :: (cb, ob) :: (B, bagO S p q t1 t2 n) :: (Fl, LCg.lst fys) :: (Tl, LCg.lst zs) :: (S, LCg.lst sv) :: tl) : LJ cw cs cb B Fl Tl S ob sv fys zs tl _i m news
inductive LawB (h₀ : Heap) (L : Addr) (ys : List Value) (h : Heap) : Prop
  | mk (B S : Addr) (q : Int) (t1 t2 : Tok) (n : Nat) (ow os ob : Obj) (vw' vs' : Option Value) (m : Str → Option Value) (h1 : Fr h₀ L h m) (h2 : News h₀ L h [(L + 1 + 1 + 1, ow), (L + 1 + 1, os), (L + 1, ob), (B, bagO S 0 q t1 t2 n), (S, LCg.lst ys)])
    (h3 : ow.data = .cell vw') (h4 : os.data = .cell vs') (h5 : ob.data = .cell (some (.ref B))) (n1 : @Ne Nat S B) (n2 : @LT.lt Nat _ (L + 1 + 1 + 1) B) (n3 : @Ne Nat S (L + 1 + 1 + 1)) (n4 : @Ne Nat S (L + 1 + 1)) (n5 : @Ne Nat S (L + 1)) : LawB h₀ L ys h
noncomputable def LawAt (w : World) (body : List Stmt) (scope : Scope) : Prop := ∃ (oc : Value) (od : Option Addr) (osl : Array (Option Value)) (name qual : Str) (params : Arguments) (dV kV doc pm : Value) (an : Option Addr) (cdv ct : Value), (hd.heap_39 w.params).lookup 352 = some ⟨oc, od, .func (fnOf name qual params body scope dV kV doc pm an cdv ct), osl⟩
theorem LawAt.inj {w : World} {body body' : List Stmt} {scope scope' : Scope} {G : Prop} {oc : Value} {od : Option Addr} {osl : Array (Option Value)} {name qual : Str} {params : Arguments} {dV kV doc pm : Value} {an : Option Addr} {cdv ct : Value} (h : LawAt w body scope)
    (e : (hd.heap_39 w.params).lookup 352 = some ⟨oc, od, .func (fnOf name qual params body' scope' dV kV doc pm an cdv ct), osl⟩) (k : body = body' → scope = scope' → G) : G := by
  obtain ⟨oc2, od2, osl2, name2, qual2, params2, dV2, kV2, doc2, pm2, an2, cdv2, ct2, e2⟩ := h
  rw [e2] at e
  injection e with e
  injection e with _ _ e _
  injection e with e
  unfold fnOf at e
  injection e
  exact k (FuncBody.stmts.inj (by assumption)) (by assumption)
/-- the parts of the loop's body -/
noncomputable def lawTurn : List Stmt → List Stmt
  | [_, _, _, .For _ _ b _ _, _] => b
  | _ => []
noncomputable def lawS (k : Nat) (body : List Stmt) : Stmt := nthS k (lawTurn body)
structure LF (L B Fl D S : Addr) (tl : List (Addr × Obj)) : Prop where
  a1 : @Ne Nat S B
  a2 : @LT.lt Nat _ (L + 1 + 1 + 1) B
  a3 : @Ne Nat S (L + 1 + 1 + 1)
  a4 : @Ne Nat S (L + 1 + 1)
  a5 : @Ne Nat S (L + 1)
  b1 : @Ne Nat (L + 1 + 1 + 1) D
  b2 : @Ne Nat (L + 1 + 1) D
  b3 : @Ne Nat (L + 1) D
  b4 : @Ne Nat B D
  b5 : @Ne Nat S D
  c0 : @Ne Nat D Fl
  c1 : @Ne Nat (L + 1 + 1 + 1) Fl
  c2 : @Ne Nat (L + 1 + 1) Fl
  c3 : @Ne Nat (L + 1) Fl
  c4 : @Ne Nat B Fl
  c5 : @Ne Nat S Fl
  f1 : @Ne Nat (L + 1 + 1 + 1) B
  f2 : @Ne Nat (L + 1 + 1) B
  f3 : @Ne Nat (L + 1) B
  g1 : @Ne Nat (L + 1 + 1) (L + 1 + 1 + 1)
  g2 : @Ne Nat (L + 1) (L + 1 + 1 + 1)
  g3 : @Ne Nat (L + 1) (L + 1 + 1)
  d1 : ∀ r ∈ tl, r.1 ≠ B
  d2 : ∀ r ∈ tl, r.1 ≠ L + 1 + 1 + 1
  d3 : ∀ r ∈ tl, r.1 ≠ L + 1 + 1
structure LI (L B Fl D S I : Addr) : Prop where
  e1 : @Ne Nat (L + 1 + 1 + 1) I
  e2 : @Ne Nat (L + 1 + 1) I
  e3 : @Ne Nat (L + 1) I
  e4 : @Ne Nat B I
  e5 : @Ne Nat Fl I
  e6 : @Ne Nat D I
  e7 : @Ne Nat S I
theorem ne_lows {L B : Nat} (h : L + 1 + 1 + 1 < B) : (L + 1 + 1 + 1 ≠ B ∧ L + 1 + 1 ≠ B ∧ L + 1 ≠ B) ∧ L + 1 + 1 ≠ L + 1 + 1 + 1 ∧ L + 1 ≠ L + 1 + 1 + 1 ∧ L + 1 ≠ L + 1 + 1 := by omega

section
variable {w : World} {vw : Program} {lo : List Str} {mean : ExcName → Option Value} {mg mb : Str → Option Value} {s : Shared} {h₀ : Heap} {L B Fl D S I : Addr} {ob oI ow os : Obj} {sv fys zs : List Value} {tl : List (Addr × Obj)} {m : Str → Option Value}
  {p q : Int} {t1 t2 : Tok} {n : Nat} {vw' vs' : Option Value} {dp un : Nat} {fr : Option (List Env)} {gd : Option (List Code)} {body : List Stmt} {scope : Scope} {sn : List Int} {fs : List (List UInt8 × List Nat)}
theorem law_if1 {r : Int} {tr tw : Tok} {wd : List Nat} {pre : List (Addr × Obj)} (hb : LawAt w body scope) (hdp : dp + 15 < recursionLimit) (hup : un + 8 * 15 < cLine) (X : (hd.heap_39 w.params).In h₀) (T : Top vw lo mean mg mb h₀)
    (hf : LF L B Fl D S tl) (hi : LI L B Fl D S I) (hsv : IntsAre sv sn) (hz : sn.length ≤ 1000000) (hcb : ob.data = .cell (some (.ref B))) (hTL : TL w.params zs fs tl) (hzz : zs.length ≤ 1000000)
    (F : Fr h₀ L s.heap m) (hm1 : m (Str.ofString "told") = some (.ref D)) (hm2 : m (Str.ofString "fields") = some (.ref Fl)) (hm3 : m (Str.ofString "way") = some (.int r tr)) (hm4 : m (Str.ofString "piece") = some (.str (st wd) tw)) (hwa : ∀ c ∈ wd, Alph c) (hwl : wd.length ≤ 7)
    (N : News h₀ L s.heap (pre ++ (I, oI) :: (L + 1 + 1 + 1, ow) :: (L + 1 + 1, os) :: (L + 1, ob) :: (B, bagO S p q t1 t2 n) :: (Fl, LCg.lst fys) :: (D, LCg.lst zs) :: (S, LCg.lst sv) :: tl)) (hw : ow.data = .cell vw') (hs : os.data = .cell vs') (hp : 0 ≤ p) :
    wpAny (model Pg w) ⟨none, dp, fr, gd, un⟩ (exec (lawS 1 body) (envOfC (Str.ofString "law") scope L 352 (.ref 351))) (Mid h₀ L s I oI (PJ (L + 1 + 1 + 1) (L + 1 + 1) (L + 1) B Fl D S ob sv fys zs tl)) (fun _ _ => False) s := by
  ((rename LawAt _ _ _ => hbzz); refine' LawAt.inj hbzz ?k6 ?kk; (case k6 => k_is); intro e1zz e2zz; subst e1zz e2zz; clear hbzz)
  obtain ⟨h, g, d, tk, osx⟩ := s
  replace N := cb_drop (news := (I, oI) :: (L + 1 + 1 + 1, ow) :: (L + 1 + 1, os) :: (L + 1, ob) :: (B, bagO S p q t1 t2 n) :: (Fl, LCg.lst fys) :: (D, LCg.lst zs) :: (S, LCg.lst sv) :: tl) N (fun p hp => List.mem_append_right _ hp)
  replace F := frSet4 F hm1 hm2 hm3 hm4
  obtain ⟨a1, a2, a3, a4, a5, b1, b2, b3, b4, b5, c0, c1, c2, c3, c4, c5, f1, f2, f3, g1, g2, g3, d1, d2, d3⟩ := hf
  obtain ⟨e1, e2, e3, e4, e5, e6, e7⟩ := hi
  clear hm1 hm2 hm3 hm4
  dsimp only [lawS, lawTurn, nthS]
  ((try dsimp only); (try k_fold); repeat' (first | (k_unfold; (try dsimp only)) | ((first | with_reducible ((with_reducible show wpAny _ _ (subscriptTail (Expr.Tuple _ _ _) _ (Value.ref _) (Value.int _ _)) _ _ _); k_dflt (refine pick_five (by k_asm) (by k_mem) (by assumption) (by assumption) ?_); intro pc'z tp'z hpa'z hpl'z) | with_reducible ((with_reducible show wpAny _ _ (subscriptTail _ _ (Value.str (st _) _) (Value.ref _)) _ _ _); k_dflt (refine slice_st (s := ⟨_, _, _, _, _⟩) (by k_asm) (by k_asm) (by (try simp only [List.length_append, List.length_cons, List.length_nil]); omega) ?_); intro l'z h'z t'z k'z F'z N'z hs1'z hs2'z) | with_reducible ((with_reducible show wpAny _ _ (subscriptTail (Expr.Subscript _ _ _) _ (Value.ref _) (Value.int 2 _)) _ _ _); k_dflt (refine pick_two (by k_asm) (by kcf_m) ?_)) | with_reducible ((with_reducible show wpAny _ _ (subscriptTail (Expr.Name _ _) _ (Value.ref _) (Value.int _ _)) _ _ _); k_dflt (refine pick_told (by assumption) (by k_asm) (by k_mem) (by assumption) (by assumption) (by omega) ?_); intro D'z x'z nm'z ta'z row'z tb'z n1'z hrow'z hmem'z; (have hrow1'z := (TL.rows (by assumption) _ (Exists.choose_spec hrow'z)).1); (have hrow2'z := (TL.rows (by assumption) _ (Exists.choose_spec hrow'z)).2); (try dsimp only at hrow1'z hrow2'z)) | with_reducible ((with_reducible show wpAny _ _ (compareOp CmpOp.NotEq (Value.ref _) (Value.ref _)) _ _ _); k_dflt (refine ne_nilD (News.isList (by k_asm) (by k_mem)) (News.isList (by k_asm) (by k_mem)) (by (try dsimp only); omega) ?_)) | with_reducible ((with_reducible show wpAny _ _ (call (Value.builtin _) [Value.str (st (_ ++ [32])) _]) _ _ _); refine len_st (by omega) ?_; intro t'z k'z) | with_reducible ((with_reducible show wpAny _ _ (call (Value.builtin _) [Value.ref _]) _ _ _); k_dflt (refine len_lst (News.isList (by k_asm) (by k_mem)) (by assumption) ?_); intro t'z k'z) | ((with_reducible show wpAny _ _ (call (Value.ref 330) _) _ _ _); refine' useTake ?kF ?kN ?kUh9 ?kX ?kT ?kSh9 ?kSBh9 ?kih9 ?kzh9 ?kph9 ?kmh9 ?kh ?kd ?ku ?_; (case kF => k_asm); (case kN => k_asm); (case kUh9 => k_updF); (case kX => k_asm); (case kT => k_asm); (case kSh9 => exact News.isList (by k_asm) (by k_mem)); (case kSBh9 => assumption); (case kih9 => assumption); (case kzh9 => assumption); (case kph9 => assumption); (case kmh9 => (first | decide | omega)); (case kh => exact rfl); (case kd => (try dsimp only); omega); (case ku => (try dsimp only); omega); intro r t'z p'z q'z t1'z t2'z n'z h'z tk'z F'z N'z hr1 hr2 hp'z) | with_reducible ((with_reducible show wpAny _ _ (binaryOp PySem.Operator.Add (Value.str _ _) (Value.str _ _)) _ _ _); (refine sadd (by with_reducible first | exact ofS0 | exact ofS9 | exact ofS32 | exact ofSae | exact rfl) (by with_reducible first | exact ofS0 | exact ofS9 | exact ofS32 | exact ofSae | exact rfl) (by (try simp only [List.length_append, List.length_cons, List.length_nil]); omega) ?_; intro t'z k'z)) | with_reducible ((with_reducible show wpAny _ _ (newTuple _) _ _ _); (k_dflt (refine' kup_newTuple ?Fh9 ?Nh9 ?_ ?zh9; (case Fh9 => k_asm); (case Nh9 => k_asm); (case zh9 => kmk_size)); intro D'z h'z F'z N'z l1zz; (try k_lt l1zz); (try k_sweep))) | with_reducible ((with_reducible show wpAny _ _ (eval (PySem.Expr.Name _ _) _) _ _ _); (k_dflt (first | (refine' nameX_L ?Fh9 ?vh9 ?_ ?ah9 ?bh9; (case Fh9 => k_asm); (case ah9 => rfl); (case bh9 => rfl); (case vh9 => rfl); k_whole) | (refine' nameX_K ?Fh9 ?Xh9 ?Th9 ?eh9 ?_ ?ah9 ?bh9; (case Fh9 => k_asm); (case Xh9 => k_asm); (case Th9 => k_asm); (case ah9 => rfl); (case bh9 => rfl); (case eh9 => k_is); k_whole) | (refine' nameX_B ?Fh9 ?Xh9 ?Th9 ?eh9 ?vh9 ?nh9 ?_ ?ah9 ?bh9; (case Fh9 => k_asm); (case Xh9 => k_asm); (case Th9 => k_asm); (case ah9 => rfl); (case bh9 => rfl); (case eh9 => k_is); (case vh9 => boot_fast); (case nh9 => decide); k_whole)))) | with_reducible ((with_reducible show wpAny _ _ (spliced _) _ _ _); (k_dflt (first | refine args_cons ?_ | (refine args_nil ?_; (try simp only [List.cons_append, List.nil_append]))))) | with_reducible (k_closed; first | with_reducible refine PySem.W.ite_pos (by with_unfolding_all decide) ?_ | with_reducible refine PySem.W.ite_neg (by with_unfolding_all decide) ?_) | walk1); (try dsimp only); (try ((with_reducible show wpAny _ _ _ _ _ ⟨_, _, _, _ + _, _⟩); refine anyToks ?_; intro _)); (repeat ((first | with_reducible rename (_ < _ ∧ _) => hhzz | with_reducible rename (_ ≠ _ ∧ _) => hhzz | with_reducible rename ((_ ≠ _ ∧ _) ∧ _) => hhzz); have := hhzz.1; have := hhzz.2; clear hhzz))) | (dsimp only; walk1) | (leave1; (try dsimp only)) | fail "no step"))
  all_goals rename Fr _ _ _ _ => F3
  all_goals rename News _ _ _ _ => N3
  all_goals refine ⟨rfl, _, _, _, _, (L + 1 + 1 + 1, ow) :: (L + 1 + 1, os) :: (L + 1, ob) :: (B, bagO S _ _ _ _ _) :: (Fl, LCg.lst fys) :: (D, LCg.lst zs) :: (S, LCg.lst sv) :: tl, ?_, ?_, rfl, F3, cb_drop N3 (by kcf_all), _, _, _, _, _, _, _, _, _, _, rfl, rfl, rfl, hw, hs, ?_, rfl⟩
  all_goals first
    | assumption
    | omega
    | (rename (List.length _ ≤ List.length (_ ++ _)) => q2; rw [List.length_append] at q2; simp only [List.length_cons, List.length_nil] at q2; omega)
    | (rename ∀ c ∈ _, c ∈ _ ++ [32] => q1; rename ∀ c ∈ _, Alph c => q2; intro c hc; rcases List.mem_append.mp (q1 c hc) with hh | hh; (exact q2 c hh); (rw [List.mem_singleton.mp hh]; exact .inl (by decide)))
end

section
variable {w : World} {vw : Program} {lo : List Str} {mean : ExcName → Option Value} {mg mb : Str → Option Value} {s : Shared} {h₀ : Heap} {L B Fl D S I : Addr} {ob oI ow os : Obj} {sv fys zs : List Value} {tl : List (Addr × Obj)} {m : Str → Option Value}
  {p q : Int} {t1 t2 : Tok} {n : Nat} {vw' vs' : Option Value} {dp un : Nat} {fr : Option (List Env)} {gd : Option (List Code)} {body : List Stmt} {scope : Scope} {sn : List Int} {fs : List (List UInt8 × List Nat)}
theorem upA {c : Nat} (h : Alph c) : Alph (upN c) := by
  unfold upN Alph at *
  split <;> omega
theorem law_if2 {tp : Tok} {pc : List Nat} (hb : LawAt w body scope) (hdp : dp + 15 < recursionLimit) (hup : un + 8 * 15 < cLine) (X : (hd.heap_39 w.params).In h₀) (T : Top vw lo mean mg mb h₀)
    (hf : LF L B Fl D S tl) (hi : LI L B Fl D S I) (hsv : IntsAre sv sn) (hz : sn.length ≤ 1000000) (hcb : ob.data = .cell (some (.ref B)))
    (F : Fr h₀ L s.heap m) (hm1 : m (Str.ofString "told") = some (.ref D)) (hm2 : m (Str.ofString "fields") = some (.ref Fl)) (hm3 : m (Str.ofString "piece") = some (.str (st pc) tp)) (hpa : ∀ c ∈ pc, Alph c) (hpl : pc.length ≤ 1000)
    (N : News h₀ L s.heap ((I, oI) :: (L + 1 + 1 + 1, ow) :: (L + 1 + 1, os) :: (L + 1, ob) :: (B, bagO S p q t1 t2 n) :: (Fl, LCg.lst fys) :: (D, LCg.lst zs) :: (S, LCg.lst sv) :: tl)) (hw : ow.data = .cell vw') (hs : os.data = .cell vs') (hp : 0 ≤ p) :
    wpAny (model Pg w) ⟨none, dp, fr, gd, un⟩ (exec (lawS 2 body) (envOfC (Str.ofString "law") scope L 352 (.ref 351))) (Mid h₀ L s I oI (PJ (L + 1 + 1 + 1) (L + 1 + 1) (L + 1) B Fl D S ob sv fys zs tl)) (fun _ _ => False) s := by
  ((rename LawAt _ _ _ => hbzz); refine' LawAt.inj hbzz ?k6 ?kk; (case k6 => k_is); intro e1zz e2zz; subst e1zz e2zz; clear hbzz)
  obtain ⟨h, g, d, tk, osx⟩ := s
  replace F := frSet3 F hm1 hm2 hm3
  obtain ⟨a1, a2, a3, a4, a5, b1, b2, b3, b4, b5, c0, c1, c2, c3, c4, c5, f1, f2, f3, g1, g2, g3, d1, d2, d3⟩ := hf
  obtain ⟨e1, e2, e3, e4, e5, e6, e7⟩ := hi
  clear hm1 hm2 hm3
  dsimp only [lawS, lawTurn, nthS]
  have mk1 := Mk.on 1
  ((try dsimp only); (try k_fold); repeat' (first | (k_unfold; (try dsimp only)) | ((first | ((with_reducible show wpAny _ _ (call (Value.ref 330) _) _ _ _); refine' useTake ?kF ?kN ?kUh9 ?kX ?kT ?kSh9 ?kSBh9 ?kih9 ?kzh9 ?kph9 ?kmh9 ?kh ?kd ?ku ?_; (case kF => k_asm); (case kN => k_asm); (case kUh9 => k_updF); (case kX => k_asm); (case kT => k_asm); (case kSh9 => exact News.isList (by k_asm) (by k_mem)); (case kSBh9 => assumption); (case kih9 => assumption); (case kzh9 => assumption); (case kph9 => assumption); (case kmh9 => (first | decide | omega)); (case kh => exact rfl); (case kd => (try dsimp only); omega); (case ku => (try dsimp only); omega); intro r t'z p'z q'z t1'z t2'z n'z h'z tk'z F'z N'z hr1 hr2 hp'z) | with_reducible ((with_reducible show wpAny _ _ (eval (PySem.Expr.Name _ _) _) _ _ _); (k_dflt (first | (refine' nameX_L ?Fh9 ?vh9 ?_ ?ah9 ?bh9; (case Fh9 => k_asm); (case ah9 => rfl); (case bh9 => rfl); (case vh9 => rfl); k_whole) | (refine' nameX_K ?Fh9 ?Xh9 ?Th9 ?eh9 ?_ ?ah9 ?bh9; (case Fh9 => k_asm); (case Xh9 => k_asm); (case Th9 => k_asm); (case ah9 => rfl); (case bh9 => rfl); (case eh9 => k_is); k_whole) | (refine' nameX_B ?Fh9 ?Xh9 ?Th9 ?eh9 ?vh9 ?nh9 ?_ ?ah9 ?bh9; (case Fh9 => k_asm); (case Xh9 => k_asm); (case Th9 => k_asm); (case ah9 => rfl); (case bh9 => rfl); (case eh9 => k_is); (case vh9 => boot_fast); (case nh9 => decide); k_whole)))) | with_reducible ((with_reducible show wpAny _ _ (spliced _) _ _ _); (k_dflt (first | refine args_cons ?_ | (refine args_nil ?_; (try simp only [List.cons_append, List.nil_append]))))) | with_reducible ((with_reducible show wpAny _ _ (eval (PySem.Expr.ListComp _ _ _ _) _) _ _ _); ((rename Mk 1 => mk'z); refine Stop.mk ?_)) | walk1); (try dsimp only); (try ((with_reducible show wpAny _ _ _ _ _ ⟨_, _, _, _ + _, _⟩); refine anyToks ?_; intro _)); (repeat ((first | with_reducible rename (_ < _ ∧ _) => hhzz | with_reducible rename (_ ≠ _ ∧ _) => hhzz | with_reducible rename ((_ ≠ _ ∧ _) ∧ _) => hhzz); have := hhzz.1; have := hhzz.2; clear hhzz))) | (dsimp only; walk1) | (leave1; (try dsimp only)) | fail "no step"))
  · rename Mk 1 => mk1; clear mk1
    rename Fr _ _ _ _ => F2
    rename News _ _ _ _ => N2
    refine Stop.out ?_
    refine lc_str pc (fun c v => ∃ t, v = .str (st [upN c]) t) (by with_unfolding_all rfl) (by decide) rfl (by decide) rfl rfl ?_
    ((try dsimp only); (try k_fold); repeat' (first | (k_unfold; (try dsimp only)) | ((first | ((with_reducible show wpAny _ _ (call (Value.ref 330) _) _ _ _); refine' useTake ?kF ?kN ?kUh9 ?kX ?kT ?kSh9 ?kSBh9 ?kih9 ?kzh9 ?kph9 ?kmh9 ?kh ?kd ?ku ?_; (case kF => k_asm); (case kN => k_asm); (case kUh9 => k_updF); (case kX => k_asm); (case kT => k_asm); (case kSh9 => exact News.isList (by k_asm) (by k_mem)); (case kSBh9 => assumption); (case kih9 => assumption); (case kzh9 => assumption); (case kph9 => assumption); (case kmh9 => (first | decide | omega)); (case kh => exact rfl); (case kd => (try dsimp only); omega); (case ku => (try dsimp only); omega); intro r t'z p'z q'z t1'z t2'z n'z h'z tk'z F'z N'z hr1 hr2 hp'z) | with_reducible ((with_reducible show wpAny _ _ (eval (PySem.Expr.Name _ _) _) _ _ _); (k_dflt (first | (refine' nameX_L ?Fh9 ?vh9 ?_ ?ah9 ?bh9; (case Fh9 => k_asm); (case ah9 => rfl); (case bh9 => rfl); (case vh9 => rfl); k_whole) | (refine' nameX_K ?Fh9 ?Xh9 ?Th9 ?eh9 ?_ ?ah9 ?bh9; (case Fh9 => k_asm); (case Xh9 => k_asm); (case Th9 => k_asm); (case ah9 => rfl); (case bh9 => rfl); (case eh9 => k_is); k_whole) | (refine' nameX_B ?Fh9 ?Xh9 ?Th9 ?eh9 ?vh9 ?nh9 ?_ ?ah9 ?bh9; (case Fh9 => k_asm); (case Xh9 => k_asm); (case Th9 => k_asm); (case ah9 => rfl); (case bh9 => rfl); (case eh9 => k_is); (case vh9 => boot_fast); (case nh9 => decide); k_whole)))) | with_reducible ((with_reducible show wpAny _ _ (spliced _) _ _ _); (k_dflt (first | refine args_cons ?_ | (refine args_nil ?_; (try simp only [List.cons_append, List.nil_append]))))) | with_reducible ((with_reducible show wpAny _ _ (eval (PySem.Expr.ListComp _ _ _ _) _) _ _ _); ((rename Mk 1 => mk'z); refine Stop.mk ?_)) | walk1); (try dsimp only); (try ((with_reducible show wpAny _ _ _ _ _ ⟨_, _, _, _ + _, _⟩); refine anyToks ?_; intro _)); (repeat ((first | with_reducible rename (_ < _ ∧ _) => hhzz | with_reducible rename (_ ≠ _ ∧ _) => hhzz | with_reducible rename ((_ ≠ _ ∧ _) ∧ _) => hhzz); have := hhzz.1; have := hhzz.2; clear hhzz))) | (dsimp only; walk1) | (leave1; (try dsimp only)) | fail "no step"))
    refine Stop.out ⟨_, rfl, by rw [sizeLine_eq]; omega, ?_, ?_⟩
    · intro C a u s₃ m₃ E' ha hC hn hm hk
      have b₃ : Bs w vw lo mean mg mb s₃.heap := Bs.keeps ⟨X, T⟩ (Kp.trans F2.keep hk)
      have hA := hpa a ha
      refine Ev.keeps (H := s₃.heap) (P := fun v => ∃ t, v = .str (st [upN a]) t) ?_ (Kp.refl _)
      refine Ev.ifc (c := decide (97 ≤ a ∧ a ≤ 122)) (P1 := fun v => v = .str (st [a]) u) (P2 := fun v => ∃ t, v = .str (Str.ofString "abcdefghijklmnopqrstuvwxyz") t) (Ev.loc hn hm rfl rfl) Ev.str ?_ ?_ ?_
      · rintro v u' rfl ⟨t', rfl⟩
        exact Ev.inS.imp fun z e => by rw [e, in_little hA]
      · intro hcc
        have hcc' := of_decide_eq_true hcc
        have hlow : upN a = a - 32 := if_pos hcc'
        rw [hlow]
        refine Ev.callB (P := fun v => ∃ t, v = .int ((a - 32 : Nat) : Int) t) (Ev.blt b₃ (by k_is) (by boot_fast) rfl rfl rfl rfl) ?_ ?_
        · refine Ev.bin (P1 := fun v => ∃ t, v = .int (a : Int) t) (P2 := fun v => ∃ t, v = .int 32 t) ?_ Ev.int ?_
          · refine Ev.callB (Ev.blt b₃ (by k_is) (by boot_fast) rfl rfl rfl rfl) (Ev.loc hn hm rfl rfl) ?_
            rintro v rfl
            exact Ev.ord
          · rintro v u' ⟨t', rfl⟩ ⟨t'', rfl⟩
            exact Ev.subI.imp fun z h => by obtain ⟨q, rfl⟩ := h; exact ⟨q, by rw [Int.ofNat_sub (by omega)]; rfl⟩
        · rintro v ⟨t', rfl⟩
          exact (Ev.chr (by omega) (by omega)).imp fun v h => by rw [Int.toNat_natCast] at h; exact h
      · intro hcc
        have hcc' := of_decide_eq_false hcc
        have hlow : upN a = a := if_neg hcc'
        rw [hlow]
        exact (Ev.loc hn hm rfl rfl).imp fun v h => ⟨_, h⟩
    intro D' h' tk' nn ys hk hD hobj hpp
    have F' := F2.keeps hk
    have N' := addNew F2 N2 hk hD hobj
    clear F2 N2
    ((try dsimp only); (try k_fold); repeat' (first | (k_unfold; (try dsimp only)) | ((first | ((with_reducible show wpAny _ _ (call (Value.ref 330) _) _ _ _); refine' useTake ?kF ?kN ?kUh9 ?kX ?kT ?kSh9 ?kSBh9 ?kih9 ?kzh9 ?kph9 ?kmh9 ?kh ?kd ?ku ?_; (case kF => k_asm); (case kN => k_asm); (case kUh9 => k_updF); (case kX => k_asm); (case kT => k_asm); (case kSh9 => exact News.isList (by k_asm) (by k_mem)); (case kSBh9 => assumption); (case kih9 => assumption); (case kzh9 => assumption); (case kph9 => assumption); (case kmh9 => (first | decide | omega)); (case kh => exact rfl); (case kd => (try dsimp only); omega); (case ku => (try dsimp only); omega); intro r t'z p'z q'z t1'z t2'z n'z h'z tk'z F'z N'z hr1 hr2 hp'z) | with_reducible ((with_reducible show wpAny _ _ (eval (PySem.Expr.Name _ _) _) _ _ _); (k_dflt (first | (refine' nameX_L ?Fh9 ?vh9 ?_ ?ah9 ?bh9; (case Fh9 => k_asm); (case ah9 => rfl); (case bh9 => rfl); (case vh9 => rfl); k_whole) | (refine' nameX_K ?Fh9 ?Xh9 ?Th9 ?eh9 ?_ ?ah9 ?bh9; (case Fh9 => k_asm); (case Xh9 => k_asm); (case Th9 => k_asm); (case ah9 => rfl); (case bh9 => rfl); (case eh9 => k_is); k_whole) | (refine' nameX_B ?Fh9 ?Xh9 ?Th9 ?eh9 ?vh9 ?nh9 ?_ ?ah9 ?bh9; (case Fh9 => k_asm); (case Xh9 => k_asm); (case Th9 => k_asm); (case ah9 => rfl); (case bh9 => rfl); (case eh9 => k_is); (case vh9 => boot_fast); (case nh9 => decide); k_whole)))) | with_reducible ((with_reducible show wpAny _ _ (spliced _) _ _ _); (k_dflt (first | refine args_cons ?_ | (refine args_nil ?_; (try simp only [List.cons_append, List.nil_append]))))) | with_reducible ((with_reducible show wpAny _ _ (eval (PySem.Expr.ListComp _ _ _ _) _) _ _ _); ((rename Mk 1 => mk'z); refine Stop.mk ?_)) | walk1); (try dsimp only); (try ((with_reducible show wpAny _ _ _ _ _ ⟨_, _, _, _ + _, _⟩); refine anyToks ?_; intro _)); (repeat ((first | with_reducible rename (_ < _ ∧ _) => hhzz | with_reducible rename (_ ≠ _ ∧ _) => hhzz | with_reducible rename ((_ ≠ _ ∧ _) ∧ _) => hhzz); have := hhzz.1; have := hhzz.2; clear hhzz))) | (dsimp only; walk1) | (leave1; (try dsimp only)) | fail "no step"))
    refine join_list (News.isList N' (.head _)) (paired_strs hpp) ?_ ?_
    · rw [sum_ones, show (Str.ofString "").length = 0 from by decide +kernel]; omega
    intro t' k'
    have e : Txt.join (Str.ofString "") (pc.map fun c => st [upN c]) = st (pc.map upN) := join_map upN pc
    rw [e]
    ((try dsimp only); (try k_fold); repeat' (first | (k_unfold; (try dsimp only)) | ((first | ((with_reducible show wpAny _ _ (call (Value.ref 330) _) _ _ _); refine' useTake ?kF ?kN ?kUh9 ?kX ?kT ?kSh9 ?kSBh9 ?kih9 ?kzh9 ?kph9 ?kmh9 ?kh ?kd ?ku ?_; (case kF => k_asm); (case kN => k_asm); (case kUh9 => k_updF); (case kX => k_asm); (case kT => k_asm); (case kSh9 => exact News.isList (by k_asm) (by k_mem)); (case kSBh9 => assumption); (case kih9 => assumption); (case kzh9 => assumption); (case kph9 => assumption); (case kmh9 => (first | decide | omega)); (case kh => exact rfl); (case kd => (try dsimp only); omega); (case ku => (try dsimp only); omega); intro r t'z p'z q'z t1'z t2'z n'z h'z tk'z F'z N'z hr1 hr2 hp'z) | with_reducible ((with_reducible show wpAny _ _ (eval (PySem.Expr.Name _ _) _) _ _ _); (k_dflt (first | (refine' nameX_L ?Fh9 ?vh9 ?_ ?ah9 ?bh9; (case Fh9 => k_asm); (case ah9 => rfl); (case bh9 => rfl); (case vh9 => rfl); k_whole) | (refine' nameX_K ?Fh9 ?Xh9 ?Th9 ?eh9 ?_ ?ah9 ?bh9; (case Fh9 => k_asm); (case Xh9 => k_asm); (case Th9 => k_asm); (case ah9 => rfl); (case bh9 => rfl); (case eh9 => k_is); k_whole) | (refine' nameX_B ?Fh9 ?Xh9 ?Th9 ?eh9 ?vh9 ?nh9 ?_ ?ah9 ?bh9; (case Fh9 => k_asm); (case Xh9 => k_asm); (case Th9 => k_asm); (case ah9 => rfl); (case bh9 => rfl); (case eh9 => k_is); (case vh9 => boot_fast); (case nh9 => decide); k_whole)))) | with_reducible ((with_reducible show wpAny _ _ (spliced _) _ _ _); (k_dflt (first | refine args_cons ?_ | (refine args_nil ?_; (try simp only [List.cons_append, List.nil_append]))))) | with_reducible ((with_reducible show wpAny _ _ (eval (PySem.Expr.ListComp _ _ _ _) _) _ _ _); ((rename Mk 1 => mk'z); refine Stop.mk ?_)) | walk1); (try dsimp only); (try ((with_reducible show wpAny _ _ _ _ _ ⟨_, _, _, _ + _, _⟩); refine anyToks ?_; intro _)); (repeat ((first | with_reducible rename (_ < _ ∧ _) => hhzz | with_reducible rename (_ ≠ _ ∧ _) => hhzz | with_reducible rename ((_ ≠ _ ∧ _) ∧ _) => hhzz); have := hhzz.1; have := hhzz.2; clear hhzz))) | (dsimp only; walk1) | (leave1; (try dsimp only)) | fail "no step"))
    rename Fr _ _ _ _ => F3
    rename News _ _ _ _ => N3
    refine ⟨rfl, _, _, _, _, (L + 1 + 1 + 1, ow) :: (L + 1 + 1, os) :: (L + 1, ob) :: (B, bagO S _ _ _ _ _) :: (Fl, LCg.lst fys) :: (D, LCg.lst zs) :: (S, LCg.lst sv) :: tl, ?_, ?_, rfl, F3, cb_drop N3 (by kcf_all), _, _, _, _, _, _, _, _, _, _, rfl, rfl, rfl, hw, hs, ?_, rfl⟩
    · intro c hc
      obtain ⟨a, ha, rfl⟩ := List.mem_map.mp hc
      exact upA (hpa a ha)
    · rw [List.length_map]; exact hpl
    · assumption
  · rename Fr _ _ _ _ => F3
    rename News _ _ _ _ => N3
    exact ⟨rfl, _, _, _, _, (L + 1 + 1 + 1, ow) :: (L + 1 + 1, os) :: (L + 1, ob) :: (B, bagO S _ _ _ _ _) :: (Fl, LCg.lst fys) :: (D, LCg.lst zs) :: (S, LCg.lst sv) :: tl, hpa, hpl, rfl, F3, cb_drop N3 (by kcf_all), _, _, _, _, _, _, _, _, _, _, rfl, rfl, rfl, hw, hs, by assumption, rfl⟩
end

section
variable {w : World} {vw : Program} {lo : List Str} {mean : ExcName → Option Value} {mg mb : Str → Option Value} {s : Shared} {h₀ : Heap} {L B Fl D S I : Addr} {ob oI ow os : Obj} {sv fys zs : List Value} {tl : List (Addr × Obj)} {m : Str → Option Value}
  {p q : Int} {t1 t2 : Tok} {n : Nat} {vw' vs' : Option Value} {dp un : Nat} {fr : Option (List Env)} {gd : Option (List Code)} {body : List Stmt} {scope : Scope} {sn : List Int} {fs : List (List UInt8 × List Nat)}
/-- inner loop: one turn's body -/
noncomputable def lawInner (body : List Stmt) : List Stmt := match lawS 6 body with
  | .For _ _ b _ _ => b
  | _ => []
noncomputable def dropS : Nat → List Stmt → List Stmt
  | 0, l => l
  | _, [] => []
  | k + 1, _ :: r => dropS k r
theorem lowA {c : Nat} (h : Alph c) : Alph (lowN c) := by
  unfold lowN Alph at *
  split <;> omega
theorem names_len {nm : List UInt8} (h : nm ∈ lawNames) : (nm.map UInt8.toNat).length ≤ 7 := by rw [List.length_map]; exact name_len h
theorem low_map {l : List Nat} (h : ∀ c ∈ l, Alph c) : ∀ c ∈ l.map lowN, Alph c := by
  intro c hc
  obtain ⟨a, ha, rfl⟩ := List.mem_map.mp hc
  exact lowA (h a ha)
theorem isIn_nil (r : List Nat) : isIn [] r = true := by
  refine (StrLaws.found_iff _ _).mpr ⟨0, by rw [st_len]; simp, ?_⟩
  simp [Builtin.Str.subAt, st_len]
  rfl
theorem st_empty (pc : List Nat) : (st pc == Str.ofString "") = pc.isEmpty := by
  rw [ofS0]
  cases pc with
  | nil => decide +kernel
  | cons c r =>
    rw [List.isEmpty_cons, beq_eq_false_iff_ne]
    intro e
    exact List.cons_ne_nil _ _ (st_inj e)
theorem wh1 {x y : Bool} (h : x = true) : (x || y) = x := by rw [h]; rfl
theorem wh2 {x : Bool} {pc : List Nat} (h : x = false) : (x || pc.isEmpty) = (st pc == Str.ofString "") := by rw [h, st_empty]; rfl
end
section
variable {prog : Program} {w : World} {A : Around} {E : Value → Shared → Prop} {s : Shared} {Q : Value → Shared → Prop} {h₀ : Heap} {L : Addr} {m : Str → Option Value} {news : List (Addr × Obj)}
theorem ne_same {a b : Bool} (e : a = b) (h : Q (.bool false) s) : wpAny (model prog w) A (compareOp .NotEq (.bool a) (.bool b)) Q E s := by
  subst e
  exact PyProof.Rows.ne_bool (by simpa using h)
theorem ne_any {l b : Addr} {ys : List Value} {r : Bool} (hl : s.heap.IsList l ys.toArray) (hb : s.heap.IsList b #[]) (hu : A.units < cLine) (e : (!ys.isEmpty) = r) (h : Q (.bool r) s) : wpAny (model prog w) A (compareOp .NotEq (.ref l) (.ref b)) Q E s := by
  subst e; exact ne_nil hl hb hu h
end
section
variable {w : World} {vw : Program} {lo : List Str} {mean : ExcName → Option Value} {mg mb : Str → Option Value} {s : Shared} {h₀ : Heap} {L Fl : Addr} {fys zs : List Value} {tl news : List (Addr × Obj)} {fs : List (List UInt8 × List Nat)}
theorem c_head2 {pc : List Nat} {t : Tok} (hTF : TF w.params zs fys fs tl) (hfl : fs.length ≤ 6) (hA : ∀ c ∈ pc, Alph c) (hpl : pc.length ≤ 1000) (N : News h₀ L s.heap news) (hm : (Fl, LCg.lst fys) ∈ news) (sub : ∀ p ∈ tl, p ∈ news) (b : Bs w vw lo mean mg mb s.heap) :
    Cl w 11 s (call (.ref 321) [.ref Fl, .bytes (wideL pc).toArray t]) (fun v _ => v = .bool (fs.any (mL pc) || pc.isEmpty)) :=
  c_head (News.isList N hm) (hTF.flds (cb_drop N sub)) (by omega) hA (by omega) b
theorem c_header2 {wS : Str} {pc : List Nat} {t tw : Tok} (hTF : TF w.params zs fys fs tl) (hfl : fs.length ≤ 6) (hA : ∀ c ∈ pc, Alph c) (hpl : pc.length ≤ 1000) (N : News h₀ L s.heap news) (hm : (Fl, LCg.lst fys) ∈ news) (sub : ∀ p ∈ tl, p ∈ news) (b : Bs w vw lo mean mg mb s.heap) :
    Cl w 10 s (call (.ref 314) [.ref Fl, .str wS tw, .bytes (wideL pc).toArray t]) (fun v _ => v = .bool (fs.any (mH wS pc))) :=
  c_header (News.isList N hm) (hTF.flds (cb_drop N sub)) (by omega) hA (by omega) b
end
theorem Mid.nxt {h₀ : Heap} {L I : Addr} {s s' : Shared} {oI : Obj} {J : List Nat → Jn} {f : Flow} (h : Mid h₀ L s I oI J f s') : f = .next := by
  cases h; assumption
theorem Mid.to {h₀ : Heap} {L I : Addr} {s t s' : Shared} {oI : Obj} {J : List Nat → Jn} {f : Flow} (h : Mid h₀ L s I oI J f s') (e1 : s.gens = t.gens) (e2 : s.drawn = t.drawn) (e3 : s.os = t.os) : Mid h₀ L t I oI J f s' := by
  obtain ⟨e, pc, h, tk, m, news, h1, h2, h3, h4, h5, h6⟩ := h
  exact ⟨e, pc, h, tk, m, news, h1, h2, by rw [h3, e1, e2, e3], h4, h5, h6⟩

section
variable {w : World} {vw : Program} {lo : List Str} {mean : ExcName → Option Value} {mg mb : Str → Option Value} {s : Shared} {h₀ : Heap} {L B Fl D S I : Addr} {ob oI ow os : Obj} {sv fys zs : List Value} {tl : List (Addr × Obj)} {m : Str → Option Value}
  {p q : Int} {t1 t2 : Tok} {n : Nat} {vw' vs' : Option Value} {dp un : Nat} {fr : Option (List Env)} {gd : Option (List Code)} {body : List Stmt} {scope : Scope} {sn : List Int} {fs : List (List UInt8 × List Nat)}
inductive IJ (cw cs cb B Fl Tl S I Tp : Addr) (ob os oI : Obj) (sv fys zs : List Value) (tl : List (Addr × Obj)) (oT : Obj) (vO : Value) (_i : Nat) (m : Str → Option Value) (news : List (Addr × Obj)) : Prop
  | mk (ow : Obj) (vw' : Option Value) (p q : Int) (t1 t2 : Tok) (n : Nat) (h1 : m (Str.ofString "told") = some (.ref Tl)) (h2 : m (Str.ofString "fields") = some (.ref Fl)) (h3 : m (Str.ofString "octets") = some vO) (h4 : ow.data = .cell vw') (h6 : 0 ≤ p)
    (h7 : news = (Tp, oT) :: (I, oI) :: (cw, ow) :: (cs, os) :: (cb, ob) :: (B, bagO S p q t1 t2 n) :: (Fl, LCg.lst fys) :: (Tl, LCg.lst zs) :: (S, LCg.lst sv) :: tl) : IJ cw cs cb B Fl Tl S I Tp ob os oI sv fys zs tl oT vO _i m news
theorem IJ.tup {cw cs cb B Fl Tl S I Tp L : Addr} {ob os oI : Obj} {sv fys zs vs : List Value} {tl news : List (Addr × Obj)} {vO : Value} {i n : Nat} {m : Str → Option Value} {h₀ h : Heap} (hJ : IJ cw cs cb B Fl Tl S I Tp ob os oI sv fys zs tl (tupO vs n) vO i m news) (N : News h₀ L h news) : h.IsTuple Tp vs.toArray := by
  obtain ⟨_, _, _, _, _, _, _, _, _, _, _, _, rfl⟩ := hJ
  exact ⟨_, (N _ (.head _)).1, rfl, _, rfl⟩
theorem law_words {tO ts : Tok} {pc : List Nat} {pre : List (Addr × Obj)} (hb : LawAt w body scope) (hdp : dp + 15 < recursionLimit) (hup : un + 8 * 15 < cLine) (X : (hd.heap_39 w.params).In h₀) (T : Top vw lo mean mg mb h₀)
    (hf : LF L B Fl D S tl) (hi : LI L B Fl D S I) (hTF : TF w.params zs fys fs tl) (hfl : fs.length ≤ 6)
    (F : Fr h₀ L s.heap m) (hm1 : m (Str.ofString "told") = some (.ref D)) (hm2 : m (Str.ofString "fields") = some (.ref Fl)) (hm3 : m (Str.ofString "octets") = some (.bytes (wideL pc).toArray tO)) (hpa : ∀ c ∈ pc, Alph c) (hpl : pc.length ≤ 1000)
    (N : News h₀ L s.heap (pre ++ (I, oI) :: (L + 1 + 1 + 1, ow) :: (L + 1 + 1, os) :: (L + 1, ob) :: (B, bagO S p q t1 t2 n) :: (Fl, LCg.lst fys) :: (D, LCg.lst zs) :: (S, LCg.lst sv) :: tl)) (hw : ow.data = .cell vw') (hsm : os.data = .cell (some (.str (st (pc.map lowN)) ts))) (hp : 0 ≤ p) :
    wpAny (model Pg w) ⟨none, dp, fr, gd, un⟩ (exec (lawS 6 body) (envOfC (Str.ofString "law") scope L 352 (.ref 351))) (Mid h₀ L s I oI (fun _ => LJ (L + 1 + 1 + 1) (L + 1 + 1) (L + 1) B Fl D S ob sv fys zs tl 0)) (fun _ _ => False) s := by
  ((rename LawAt _ _ _ => hbzz); refine' LawAt.inj hbzz ?k6 ?kk; (case k6 => k_is); intro e1zz e2zz; subst e1zz e2zz; clear hbzz)
  obtain ⟨h, g, d, tk, osx⟩ := s
  replace N := cb_drop (news := (I, oI) :: (L + 1 + 1 + 1, ow) :: (L + 1 + 1, os) :: (L + 1, ob) :: (B, bagO S p q t1 t2 n) :: (Fl, LCg.lst fys) :: (D, LCg.lst zs) :: (S, LCg.lst sv) :: tl) N (fun p hp => List.mem_append_right _ hp)
  replace F := frSet3 F hm1 hm2 hm3
  obtain ⟨a1, a2, a3, a4, a5, b1, b2, b3, b4, b5, c0, c1, c2, c3, c4, c5, f1, f2, f3, g1, g2, g3, d1, d2, d3⟩ := hf
  obtain ⟨e1, e2, e3, e4, e5, e6, e7⟩ := hi
  clear hm1 hm2 hm3
  dsimp only [lawS, lawTurn, nthS]
  refine for_tup (F₀ := F) rfl ?_
  ((try dsimp only); (try k_fold); repeat' (first | (k_unfold; (try dsimp only)) | ((first | with_reducible ((with_reducible show wpAny _ _ (compareOp CmpOp.NotEq (Value.bool _) (Value.bool _)) _ _ _); (refine ne_same (by first | exact rfl | exact wh1 (by assumption) | exact wh2 (by assumption)) ?_)) | with_reducible ((with_reducible show wpAny _ _ (compareOp CmpOp.NotEq (Value.ref _) (Value.ref _)) _ _ _); k_dflt (refine ne_any (News.isList (by k_asm) (by k_mem)) (News.isList (by k_asm) (by k_mem)) (by (try dsimp only); omega) (by assumption) ?_)) | with_reducible ((with_reducible show wpAny _ _ (call (Value.ref 314) _) _ _ _); k_dflt (refine' useV0 (fun b => c_header2 (by assumption) (by assumption) (by assumption) (by assumption) (by k_asm) (by k_mem) (by kcf_all) b) ?kF ?kN ?kX ?kT ?kh ?kd ?ku ?_; walk_at "ARGS"); intro h'z tk'z F'z N'z) | with_reducible ((with_reducible show wpAny _ _ (newTuple _) _ _ _); (k_dflt (refine' kup_newTuple ?Fh9 ?Nh9 ?_ ?zh9; (case Fh9 => k_asm); (case Nh9 => k_asm); (case zh9 => kmk_size)); intro D'z h'z F'z N'z l1zz; (try k_lt l1zz); (try k_sweep))) | with_reducible ((with_reducible show wpAny _ _ (eval (PySem.Expr.Name _ _) _) _ _ _); (k_dflt (first | (refine' nameX_L ?Fh9 ?vh9 ?_ ?ah9 ?bh9; (case Fh9 => k_asm); (case ah9 => rfl); (case bh9 => rfl); (case vh9 => rfl); k_whole) | (refine' nameX_K ?Fh9 ?Xh9 ?Th9 ?eh9 ?_ ?ah9 ?bh9; (case Fh9 => k_asm); (case Xh9 => k_asm); (case Th9 => k_asm); (case ah9 => rfl); (case bh9 => rfl); (case eh9 => k_is); k_whole) | (refine' nameX_B ?Fh9 ?Xh9 ?Th9 ?eh9 ?vh9 ?nh9 ?_ ?ah9 ?bh9; (case Fh9 => k_asm); (case Xh9 => k_asm); (case Th9 => k_asm); (case ah9 => rfl); (case bh9 => rfl); (case eh9 => k_is); (case vh9 => boot_fast); (case nh9 => decide); k_whole)))) | with_reducible ((with_reducible show wpAny _ _ (spliced _) _ _ _); (k_dflt (first | refine args_cons ?_ | (refine args_nil ?_; (try simp only [List.cons_append, List.nil_append]))))) | with_reducible ((with_reducible show wpAny _ _ (eval (PySem.Expr.ListComp _ _ _ _) _) _ _ _); ((rename Mk 1 => mk'z); refine Stop.mk ?_)) | with_reducible (k_closed; first | with_reducible refine PySem.W.ite_pos (by with_unfolding_all decide) ?_ | with_reducible refine PySem.W.ite_neg (by with_unfolding_all decide) ?_) | walk1); (try dsimp only); (try ((with_reducible show wpAny _ _ _ _ _ ⟨_, _, _, _ + _, _⟩); refine anyToks ?_; intro _)); (repeat ((first | with_reducible rename (_ < _ ∧ _) => hhzz | with_reducible rename (_ ≠ _ ∧ _) => hhzz | with_reducible rename ((_ ≠ _ ∧ _) ∧ _) => hhzz); have := hhzz.1; have := hhzz.2; clear hhzz))) | (dsimp only; walk1) | (leave1; (try dsimp only)) | fail "no step"))
  rename Fr _ _ _ _ => F2
  rename News _ _ _ _ => N2
  refine Stop.out ⟨_, _, _, _, IJ (L + 1 + 1 + 1) (L + 1 + 1) (L + 1) B Fl D S I _ ob os oI sv fys zs tl _ (.bytes (wideL pc).toArray tO), rfl, F2, N2, fun i m news h hJ F N => IJ.tup hJ N, ⟨_, _, _, _, _, _, _, rfl, rfl, rfl, hw, hp, rfl⟩, ?_, ?_⟩
  · intro i v I2 oI2 h tk m' news hi2 hv hJ F N off
    clear F2 N2
    obtain ⟨ow, vw', p, q, t1, t2, n, hm1, hm2, hm3, hw, hp, rfl⟩ := hJ
    obtain ⟨wS, tw, rfl⟩ : ∃ wS tw, v = .str wS tw := by
      rcases i with _ | _ | _ | i
      · exact ⟨_, _, (Option.some.inj hv).symm⟩
      · exact ⟨_, _, (Option.some.inj hv).symm⟩
      · exact ⟨_, _, (Option.some.inj hv).symm⟩
      · exact absurd hi2 (by show ¬ (i + 1 + 1 + 1 < 3); omega)
    replace F := frSet3 F hm1 hm2 hm3
    have off1 := off
    simp only [LCg.Off1] at off
    have mk1 := Mk.on 1
    ((try dsimp only); (try k_fold); repeat' (first | (k_unfold; (try dsimp only)) | ((first | with_reducible ((with_reducible show wpAny _ _ (compareOp CmpOp.NotEq (Value.bool _) (Value.bool _)) _ _ _); (refine ne_same (by first | exact rfl | exact wh1 (by assumption) | exact wh2 (by assumption)) ?_)) | with_reducible ((with_reducible show wpAny _ _ (compareOp CmpOp.NotEq (Value.ref _) (Value.ref _)) _ _ _); k_dflt (refine ne_any (News.isList (by k_asm) (by k_mem)) (News.isList (by k_asm) (by k_mem)) (by (try dsimp only); omega) (by assumption) ?_)) | with_reducible ((with_reducible show wpAny _ _ (call (Value.ref 314) _) _ _ _); k_dflt (refine' useV0 (fun b => c_header2 (by assumption) (by assumption) (by assumption) (by assumption) (by k_asm) (by k_mem) (by kcf_all) b) ?kF ?kN ?kX ?kT ?kh ?kd ?ku ?_; walk_at "ARGS"); intro h'z tk'z F'z N'z) | with_reducible ((with_reducible show wpAny _ _ (newTuple _) _ _ _); (k_dflt (refine' kup_newTuple ?Fh9 ?Nh9 ?_ ?zh9; (case Fh9 => k_asm); (case Nh9 => k_asm); (case zh9 => kmk_size)); intro D'z h'z F'z N'z l1zz; (try k_lt l1zz); (try k_sweep))) | with_reducible ((with_reducible show wpAny _ _ (eval (PySem.Expr.Name _ _) _) _ _ _); (k_dflt (first | (refine' nameX_L ?Fh9 ?vh9 ?_ ?ah9 ?bh9; (case Fh9 => k_asm); (case ah9 => rfl); (case bh9 => rfl); (case vh9 => rfl); k_whole) | (refine' nameX_K ?Fh9 ?Xh9 ?Th9 ?eh9 ?_ ?ah9 ?bh9; (case Fh9 => k_asm); (case Xh9 => k_asm); (case Th9 => k_asm); (case ah9 => rfl); (case bh9 => rfl); (case eh9 => k_is); k_whole) | (refine' nameX_B ?Fh9 ?Xh9 ?Th9 ?eh9 ?vh9 ?nh9 ?_ ?ah9 ?bh9; (case Fh9 => k_asm); (case Xh9 => k_asm); (case Th9 => k_asm); (case ah9 => rfl); (case bh9 => rfl); (case eh9 => k_is); (case vh9 => boot_fast); (case nh9 => decide); k_whole)))) | with_reducible ((with_reducible show wpAny _ _ (spliced _) _ _ _); (k_dflt (first | refine args_cons ?_ | (refine args_nil ?_; (try simp only [List.cons_append, List.nil_append]))))) | with_reducible ((with_reducible show wpAny _ _ (eval (PySem.Expr.ListComp _ _ _ _) _) _ _ _); ((rename Mk 1 => mk'z); refine Stop.mk ?_)) | with_reducible (k_closed; first | with_reducible refine PySem.W.ite_pos (by with_unfolding_all decide) ?_ | with_reducible refine PySem.W.ite_neg (by with_unfolding_all decide) ?_) | walk1); (try dsimp only); (try ((with_reducible show wpAny _ _ _ _ _ ⟨_, _, _, _ + _, _⟩); refine anyToks ?_; intro _)); (repeat ((first | with_reducible rename (_ < _ ∧ _) => hhzz | with_reducible rename (_ ≠ _ ∧ _) => hhzz | with_reducible rename ((_ ≠ _ ∧ _) ∧ _) => hhzz); have := hhzz.1; have := hhzz.2; clear hhzz))) | (dsimp only; walk1) | (leave1; (try dsimp only)) | fail "no step"))
    rename Mk 1 => mk1; clear mk1
    rename Fr _ _ _ _ => F2
    rename News _ _ _ _ => N2
    rename (_ = Data.cell (some (Value.str wS _))) => hwd
    refine Stop.out ?_
    refine lct_eval F2 rfl (by with_unfolding_all rfl) (by decide) rfl (by decide) rfl rfl rfl (by decide) (by decide) (by decide) ?_
    ((try dsimp only); (try k_fold); repeat' (first | (k_unfold; (try dsimp only)) | ((first | with_reducible ((with_reducible show wpAny _ _ (compareOp CmpOp.NotEq (Value.bool _) (Value.bool _)) _ _ _); (refine ne_same (by first | exact rfl | exact wh1 (by assumption) | exact wh2 (by assumption)) ?_)) | with_reducible ((with_reducible show wpAny _ _ (compareOp CmpOp.NotEq (Value.ref _) (Value.ref _)) _ _ _); k_dflt (refine ne_any (News.isList (by k_asm) (by k_mem)) (News.isList (by k_asm) (by k_mem)) (by (try dsimp only); omega) (by assumption) ?_)) | with_reducible ((with_reducible show wpAny _ _ (call (Value.ref 314) _) _ _ _); k_dflt (refine' useV0 (fun b => c_header2 (by assumption) (by assumption) (by assumption) (by assumption) (by k_asm) (by k_mem) (by kcf_all) b) ?kF ?kN ?kX ?kT ?kh ?kd ?ku ?_; walk_at "ARGS"); intro h'z tk'z F'z N'z) | with_reducible ((with_reducible show wpAny _ _ (newTuple _) _ _ _); (k_dflt (refine' kup_newTuple ?Fh9 ?Nh9 ?_ ?zh9; (case Fh9 => k_asm); (case Nh9 => k_asm); (case zh9 => kmk_size)); intro D'z h'z F'z N'z l1zz; (try k_lt l1zz); (try k_sweep))) | with_reducible ((with_reducible show wpAny _ _ (eval (PySem.Expr.Name _ _) _) _ _ _); (k_dflt (first | (refine' nameX_L ?Fh9 ?vh9 ?_ ?ah9 ?bh9; (case Fh9 => k_asm); (case ah9 => rfl); (case bh9 => rfl); (case vh9 => rfl); k_whole) | (refine' nameX_K ?Fh9 ?Xh9 ?Th9 ?eh9 ?_ ?ah9 ?bh9; (case Fh9 => k_asm); (case Xh9 => k_asm); (case Th9 => k_asm); (case ah9 => rfl); (case bh9 => rfl); (case eh9 => k_is); k_whole) | (refine' nameX_B ?Fh9 ?Xh9 ?Th9 ?eh9 ?vh9 ?nh9 ?_ ?ah9 ?bh9; (case Fh9 => k_asm); (case Xh9 => k_asm); (case Th9 => k_asm); (case ah9 => rfl); (case bh9 => rfl); (case eh9 => k_is); (case vh9 => boot_fast); (case nh9 => decide); k_whole)))) | with_reducible ((with_reducible show wpAny _ _ (spliced _) _ _ _); (k_dflt (first | refine args_cons ?_ | (refine args_nil ?_; (try simp only [List.cons_append, List.nil_append]))))) | with_reducible ((with_reducible show wpAny _ _ (eval (PySem.Expr.ListComp _ _ _ _) _) _ _ _); ((rename Mk 1 => mk'z); refine Stop.mk ?_)) | with_reducible (k_closed; first | with_reducible refine PySem.W.ite_pos (by with_unfolding_all decide) ?_ | with_reducible refine PySem.W.ite_neg (by with_unfolding_all decide) ?_) | walk1); (try dsimp only); (try ((with_reducible show wpAny _ _ _ _ _ ⟨_, _, _, _ + _, _⟩); refine anyToks ?_; intro _)); (repeat ((first | with_reducible rename (_ < _ ∧ _) => hhzz | with_reducible rename (_ ≠ _ ∧ _) => hhzz | with_reducible rename ((_ ≠ _ ∧ _) ∧ _) => hhzz); have := hhzz.1; have := hhzz.2; clear hhzz))) | (dsimp only; walk1) | (leave1; (try dsimp only)) | fail "no step"))
    refine Stop.out ⟨D, zs.toArray, pM (mH wS pc) fs, fun _ _ => True, _, _, rfl, F2, N2, News.isList N2 (by k_mem), by rw [sizeLine_eq, List.size_toArray, hTF.1]; exact Nat.le_trans hfl (by decide), QT.told hTF.told N2 (by kcf_all) ?_ (fun _ _ _ _ _ _ _ _ _ _ _ _ _ => Ev.int.imp fun _ _ => trivial), ?_⟩
    · intro f x ta tb C s₃ m₃ hfm hnm ⟨rw', hfs⟩ hn q1 q2 q3 hk
      have b₃ : Bs w vw lo mean mg mb s₃.heap := Bs.keeps ⟨X, T⟩ (Kp.trans F2.keep hk)
      have hok := hfs.ok
      have hnl := names_len hnm
      have e : ((st ((f.1.map UInt8.toNat).map lowN) == wS) && isIn (pc.map lowN) (f.2.map lowN)) = mH wS pc f := by
        unfold mH
        cases pc with
        | nil => rw [show isIn (List.map lowN []) (f.2.map lowN) = true from isIn_nil _]; rfl
        | cons c r => rfl
      rw [← e]
      refine EvT.one (EvT.and2 (EvT.cmp (P1 := fun v => ∃ t, v = .str (st ((f.1.map UInt8.toNat).map lowN)) t) (P2 := fun v => v = .str wS tw) ?_ ?_ ?_) (EvT.cmp (P1 := fun v => ∃ t, v = .str (st (pc.map lowN)) t) (P2 := fun v => ∃ t, v = .str (st (f.2.map lowN)) t) ?_ ?_ ?_))
      · exact Ev.smallC b₃ (Ev.glob b₃ (by k_is) rfl rfl rfl) ((Ev.loc hn q2 rfl rfl).imp fun v e => ⟨_, e⟩) rfl (by dsimp only; omega) (by dsimp only; omega) (name_alph hnm) (by omega)
      · exact Ev.cel rfl ⟨_, hk _ _ (N2 _ (.tail _ (.tail _ (.tail _ (.head _))))).1, hwd⟩ rfl rfl
      · rintro v u ⟨t, rfl⟩ rfl
        exact Ev.eqS
      · exact (Ev.cel rfl ⟨_, hk _ _ (N2 _ (.tail _ (.tail _ (.tail _ (.tail _ (.head _)))))).1, hsm⟩ rfl rfl).imp fun v e => ⟨_, e⟩
      · exact Ev.smallC b₃ (Ev.glob b₃ (by k_is) rfl rfl rfl) ((Ev.loc hn q3 rfl rfl).imp fun v e => ⟨_, e⟩) rfl (by dsimp only; omega) (by dsimp only; omega) hok.1 (by omega)
      · rintro v u ⟨t, rfl⟩ ⟨t', rfl⟩
        exact Ev.inS.imp fun z e => e
    intro D2 h2 tk2 ys2 F3 N3 off3 hpp
    have hany := any_paired hTF.1 hpp
    clear F2 N2 hpp
    simp only [LCg.Off1] at off3
    ((try dsimp only); (try k_fold); repeat' (first | (k_unfold; (try dsimp only)) | ((first | with_reducible ((with_reducible show wpAny _ _ (compareOp CmpOp.NotEq (Value.bool _) (Value.bool _)) _ _ _); (refine ne_same (by first | exact rfl | exact wh1 (by assumption) | exact wh2 (by assumption)) ?_)) | with_reducible ((with_reducible show wpAny _ _ (compareOp CmpOp.NotEq (Value.ref _) (Value.ref _)) _ _ _); k_dflt (refine ne_any (News.isList (by k_asm) (by k_mem)) (News.isList (by k_asm) (by k_mem)) (by (try dsimp only); omega) (by assumption) ?_)) | with_reducible ((with_reducible show wpAny _ _ (call (Value.ref 314) _) _ _ _); k_dflt (refine' useV0 (fun b => c_header2 (by assumption) (by assumption) (by assumption) (by assumption) (by k_asm) (by k_mem) (by kcf_all) b) ?kF ?kN ?kX ?kT ?kh ?kd ?ku ?_; walk_at "ARGS"); intro h'z tk'z F'z N'z) | with_reducible ((with_reducible show wpAny _ _ (newTuple _) _ _ _); (k_dflt (refine' kup_newTuple ?Fh9 ?Nh9 ?_ ?zh9; (case Fh9 => k_asm); (case Nh9 => k_asm); (case zh9 => kmk_size)); intro D'z h'z F'z N'z l1zz; (try k_lt l1zz); (try k_sweep))) | with_reducible ((with_reducible show wpAny _ _ (eval (PySem.Expr.Name _ _) _) _ _ _); (k_dflt (first | (refine' nameX_L ?Fh9 ?vh9 ?_ ?ah9 ?bh9; (case Fh9 => k_asm); (case ah9 => rfl); (case bh9 => rfl); (case vh9 => rfl); k_whole) | (refine' nameX_K ?Fh9 ?Xh9 ?Th9 ?eh9 ?_ ?ah9 ?bh9; (case Fh9 => k_asm); (case Xh9 => k_asm); (case Th9 => k_asm); (case ah9 => rfl); (case bh9 => rfl); (case eh9 => k_is); k_whole) | (refine' nameX_B ?Fh9 ?Xh9 ?Th9 ?eh9 ?vh9 ?nh9 ?_ ?ah9 ?bh9; (case Fh9 => k_asm); (case Xh9 => k_asm); (case Th9 => k_asm); (case ah9 => rfl); (case bh9 => rfl); (case eh9 => k_is); (case vh9 => boot_fast); (case nh9 => decide); k_whole)))) | with_reducible ((with_reducible show wpAny _ _ (spliced _) _ _ _); (k_dflt (first | refine args_cons ?_ | (refine args_nil ?_; (try simp only [List.cons_append, List.nil_append]))))) | with_reducible ((with_reducible show wpAny _ _ (eval (PySem.Expr.ListComp _ _ _ _) _) _ _ _); ((rename Mk 1 => mk'z); refine Stop.mk ?_)) | with_reducible (k_closed; first | with_reducible refine PySem.W.ite_pos (by with_unfolding_all decide) ?_ | with_reducible refine PySem.W.ite_neg (by with_unfolding_all decide) ?_) | walk1); (try dsimp only); (try ((with_reducible show wpAny _ _ _ _ _ ⟨_, _, _, _ + _, _⟩); refine anyToks ?_; intro _)); (repeat ((first | with_reducible rename (_ < _ ∧ _) => hhzz | with_reducible rename (_ ≠ _ ∧ _) => hhzz | with_reducible rename ((_ ≠ _ ∧ _) ∧ _) => hhzz); have := hhzz.1; have := hhzz.2; clear hhzz))) | (dsimp only; walk1) | (leave1; (try dsimp only)) | fail "no step"))
    rename Fr _ _ _ _ => F4
    rename News _ _ _ _ => N4
    rename Obj => ow2
    exact ⟨_, _, _, (_, tupO [_, _, _] 0) :: (I, oI) :: (L + 1 + 1 + 1, ow2) :: (L + 1 + 1, os) :: (L + 1, ob) :: (B, bagO S p q t1 t2 n) :: (Fl, LCg.lst fys) :: (D, LCg.lst zs) :: (S, LCg.lst sv) :: tl, rfl, F4, cb_drop N4 (by kcf_all), off1, ow2, _, p, q, t1, t2, n, rfl, rfl, rfl, hwd, hp, rfl⟩
  · intro h tk m' news hJ F N
    clear F2 N2
    obtain ⟨ow, vw', p, q, t1, t2, n, hm1, hm2, hm3, hw, hp, rfl⟩ := hJ
    exact ⟨rfl, [], _, _, _, _, nofun, Nat.zero_le _, rfl, F, cb_drop N (fun p hp => .tail _ hp), ow, os, vw', _, p, q, t1, t2, n, hm1, hm2, hw, hsm, hp, rfl⟩
end

section
variable {w : World} {vw : Program} {lo : List Str} {mean : ExcName → Option Value} {mg mb : Str → Option Value} {s : Shared} {h₀ : Heap} {L B Fl D S I : Addr} {ob oI ow os : Obj} {sv fys zs : List Value} {tl : List (Addr × Obj)} {m : Str → Option Value}
  {p q : Int} {t1 t2 : Tok} {n : Nat} {vw' vs' : Option Value} {dp un : Nat} {fr : Option (List Env)} {gd : Option (List Code)} {body : List Stmt} {scope : Scope} {sn : List Int} {fs : List (List UInt8 × List Nat)}
theorem law_rest {tp : Tok} {pc : List Nat} (hb : LawAt w body scope) (hdp : dp + 15 < recursionLimit) (hup : un + 8 * 15 < cLine) (X : (hd.heap_39 w.params).In h₀) (T : Top vw lo mean mg mb h₀)
    (hf : LF L B Fl D S tl) (hi : LI L B Fl D S I) (hcb : ob.data = .cell (some (.ref B))) (hTF : TF w.params zs fys fs tl) (hfl : fs.length ≤ 6)
    (F : Fr h₀ L s.heap m) (hm1 : m (Str.ofString "told") = some (.ref D)) (hm2 : m (Str.ofString "fields") = some (.ref Fl)) (hm3 : m (Str.ofString "piece") = some (.str (st pc) tp)) (hpa : ∀ c ∈ pc, Alph c) (hpl : pc.length ≤ 1000)
    (N : News h₀ L s.heap ((I, oI) :: (L + 1 + 1 + 1, ow) :: (L + 1 + 1, os) :: (L + 1, ob) :: (B, bagO S p q t1 t2 n) :: (Fl, LCg.lst fys) :: (D, LCg.lst zs) :: (S, LCg.lst sv) :: tl)) (hw : ow.data = .cell vw') (hs : os.data = .cell vs') (hp : 0 ≤ p) :
    wpAny (model Pg w) ⟨none, dp, fr, gd, un⟩ (execs (dropS 3 (lawTurn body)) (envOfC (Str.ofString "law") scope L 352 (.ref 351))) (Mid h₀ L s I oI (fun _ => LJ (L + 1 + 1 + 1) (L + 1 + 1) (L + 1) B Fl D S ob sv fys zs tl 0)) (fun _ _ => False) s := by
  have hb0 := hb
  ((rename LawAt _ _ _ => hbzz); refine' LawAt.inj hbzz ?k6 ?kk; (case k6 => k_is); intro e1zz e2zz; subst e1zz e2zz; clear hbzz)
  obtain ⟨h, g, d, tk, osx⟩ := s
  replace F := frSet3 F hm1 hm2 hm3
  obtain ⟨a1, a2, a3, a4, a5, b1, b2, b3, b4, b5, c0, c1, c2, c3, c4, c5, f1, f2, f3, g1, g2, g3, d1, d2, d3⟩ := hf
  obtain ⟨e1, e2, e3, e4, e5, e6, e7⟩ := hi
  clear hm1 hm2 hm3
  dsimp only [lawTurn, dropS]
  have hpl2 : pc.length ≤ 1000000 := by omega
  have hpl3 : pc.length ≤ 100000 := by omega
  have mk1 := Mk.on 1
  ((try dsimp only); (try k_fold); repeat' (first | (k_unfold; (try dsimp only)) | ((first | with_reducible ((with_reducible show wpAny _ _ (compareOp CmpOp.NotEq (Value.bool _) (Value.bool _)) _ _ _); (refine ne_same (by first | exact rfl | exact wh1 (by assumption) | exact wh2 (by assumption)) ?_)) | with_reducible ((with_reducible show wpAny _ _ (compareOp CmpOp.NotEq (Value.ref _) (Value.ref _)) _ _ _); k_dflt (refine ne_any (News.isList (by k_asm) (by k_mem)) (News.isList (by k_asm) (by k_mem)) (by (try dsimp only); omega) (by assumption) ?_)) | with_reducible ((with_reducible show wpAny _ _ (call (Value.ref 321) _) _ _ _); k_dflt (refine' useV0 (fun b => c_head2 (by assumption) (by assumption) (by assumption) (by assumption) (by k_asm) (by k_mem) (by kcf_all) b) ?kF ?kN ?kX ?kT ?kh ?kd ?ku ?_; walk_at "ARGS"); intro h'z tk'z F'z N'z) | with_reducible ((with_reducible show wpAny _ _ (call (Value.ref 337) _) _ _ _); refine' useV (fun b => c_wide (by assumption) (by assumption) b) ?kF ?kN ?kX ?kT ?kh ?kd ?ku ?_; walk_at "ARGS"; intro t'z h'z tk'z F'z N'z) | with_reducible ((with_reducible show wpAny _ _ (call (Value.ref 342) _) _ _ _); refine' useV (fun b => c_small (by assumption) (by assumption) b) ?kF ?kN ?kX ?kT ?kh ?kd ?ku ?_; walk_at "ARGS"; intro t'z h'z tk'z F'z N'z) | with_reducible ((with_reducible show wpAny _ _ (newTuple _) _ _ _); (k_dflt (refine' kup_newTuple ?Fh9 ?Nh9 ?_ ?zh9; (case Fh9 => k_asm); (case Nh9 => k_asm); (case zh9 => kmk_size)); intro D'z h'z F'z N'z l1zz; (try k_lt l1zz); (try k_sweep))) | with_reducible ((with_reducible show wpAny _ _ (eval (PySem.Expr.Name _ _) _) _ _ _); (k_dflt (first | (refine' nameX_L ?Fh9 ?vh9 ?_ ?ah9 ?bh9; (case Fh9 => k_asm); (case ah9 => rfl); (case bh9 => rfl); (case vh9 => rfl); k_whole) | (refine' nameX_K ?Fh9 ?Xh9 ?Th9 ?eh9 ?_ ?ah9 ?bh9; (case Fh9 => k_asm); (case Xh9 => k_asm); (case Th9 => k_asm); (case ah9 => rfl); (case bh9 => rfl); (case eh9 => k_is); k_whole) | (refine' nameX_B ?Fh9 ?Xh9 ?Th9 ?eh9 ?vh9 ?nh9 ?_ ?ah9 ?bh9; (case Fh9 => k_asm); (case Xh9 => k_asm); (case Th9 => k_asm); (case ah9 => rfl); (case bh9 => rfl); (case eh9 => k_is); (case vh9 => boot_fast); (case nh9 => decide); k_whole)))) | with_reducible ((with_reducible show wpAny _ _ (spliced _) _ _ _); (k_dflt (first | refine args_cons ?_ | (refine args_nil ?_; (try simp only [List.cons_append, List.nil_append]))))) | with_reducible ((with_reducible show wpAny _ _ (exec (PySem.Stmt.For _ (PySem.Expr.Tuple _ _ _) _ _ _) _) _ _ _); ((rename Mk 3 => mk'z); refine Stop.mk ?_)) | with_reducible ((with_reducible show wpAny _ _ (eval (PySem.Expr.ListComp _ _ _ _) _) _ _ _); ((rename Mk 1 => mk'z); refine Stop.mk ?_)) | with_reducible (k_closed; first | with_reducible refine PySem.W.ite_pos (by with_unfolding_all decide) ?_ | with_reducible refine PySem.W.ite_neg (by with_unfolding_all decide) ?_) | walk1); (try dsimp only); (try ((with_reducible show wpAny _ _ _ _ _ ⟨_, _, _, _ + _, _⟩); refine anyToks ?_; intro _)); (repeat ((first | with_reducible rename (_ < _ ∧ _) => hhzz | with_reducible rename (_ ≠ _ ∧ _) => hhzz | with_reducible rename ((_ ≠ _ ∧ _) ∧ _) => hhzz); have := hhzz.1; have := hhzz.2; clear hhzz))) | (dsimp only; walk1) | (leave1; (try dsimp only)) | fail "no step"))
  rename Mk 1 => mk1; clear mk1
  rename Fr _ _ _ _ => F2
  rename News _ _ _ _ => N2
  rename (_ = Data.cell (some (Value.str (st (List.map lowN pc)) _))) => hsm
  refine Stop.out ?_
  refine lct_eval F2 rfl (by with_unfolding_all rfl) (by decide) rfl (by decide) rfl rfl rfl (by decide) (by decide) (by decide) ?_
  ((try dsimp only); (try k_fold); repeat' (first | (k_unfold; (try dsimp only)) | ((first | with_reducible ((with_reducible show wpAny _ _ (compareOp CmpOp.NotEq (Value.bool _) (Value.bool _)) _ _ _); (refine ne_same (by first | exact rfl | exact wh1 (by assumption) | exact wh2 (by assumption)) ?_)) | with_reducible ((with_reducible show wpAny _ _ (compareOp CmpOp.NotEq (Value.ref _) (Value.ref _)) _ _ _); k_dflt (refine ne_any (News.isList (by k_asm) (by k_mem)) (News.isList (by k_asm) (by k_mem)) (by (try dsimp only); omega) (by assumption) ?_)) | with_reducible ((with_reducible show wpAny _ _ (call (Value.ref 321) _) _ _ _); k_dflt (refine' useV0 (fun b => c_head2 (by assumption) (by assumption) (by assumption) (by assumption) (by k_asm) (by k_mem) (by kcf_all) b) ?kF ?kN ?kX ?kT ?kh ?kd ?ku ?_; walk_at "ARGS"); intro h'z tk'z F'z N'z) | with_reducible ((with_reducible show wpAny _ _ (call (Value.ref 337) _) _ _ _); refine' useV (fun b => c_wide (by assumption) (by assumption) b) ?kF ?kN ?kX ?kT ?kh ?kd ?ku ?_; walk_at "ARGS"; intro t'z h'z tk'z F'z N'z) | with_reducible ((with_reducible show wpAny _ _ (call (Value.ref 342) _) _ _ _); refine' useV (fun b => c_small (by assumption) (by assumption) b) ?kF ?kN ?kX ?kT ?kh ?kd ?ku ?_; walk_at "ARGS"; intro t'z h'z tk'z F'z N'z) | with_reducible ((with_reducible show wpAny _ _ (newTuple _) _ _ _); (k_dflt (refine' kup_newTuple ?Fh9 ?Nh9 ?_ ?zh9; (case Fh9 => k_asm); (case Nh9 => k_asm); (case zh9 => kmk_size)); intro D'z h'z F'z N'z l1zz; (try k_lt l1zz); (try k_sweep))) | with_reducible ((with_reducible show wpAny _ _ (eval (PySem.Expr.Name _ _) _) _ _ _); (k_dflt (first | (refine' nameX_L ?Fh9 ?vh9 ?_ ?ah9 ?bh9; (case Fh9 => k_asm); (case ah9 => rfl); (case bh9 => rfl); (case vh9 => rfl); k_whole) | (refine' nameX_K ?Fh9 ?Xh9 ?Th9 ?eh9 ?_ ?ah9 ?bh9; (case Fh9 => k_asm); (case Xh9 => k_asm); (case Th9 => k_asm); (case ah9 => rfl); (case bh9 => rfl); (case eh9 => k_is); k_whole) | (refine' nameX_B ?Fh9 ?Xh9 ?Th9 ?eh9 ?vh9 ?nh9 ?_ ?ah9 ?bh9; (case Fh9 => k_asm); (case Xh9 => k_asm); (case Th9 => k_asm); (case ah9 => rfl); (case bh9 => rfl); (case eh9 => k_is); (case vh9 => boot_fast); (case nh9 => decide); k_whole)))) | with_reducible ((with_reducible show wpAny _ _ (spliced _) _ _ _); (k_dflt (first | refine args_cons ?_ | (refine args_nil ?_; (try simp only [List.cons_append, List.nil_append]))))) | with_reducible ((with_reducible show wpAny _ _ (exec (PySem.Stmt.For _ (PySem.Expr.Tuple _ _ _) _ _ _) _) _ _ _); ((rename Mk 3 => mk'z); refine Stop.mk ?_)) | with_reducible ((with_reducible show wpAny _ _ (eval (PySem.Expr.ListComp _ _ _ _) _) _ _ _); ((rename Mk 1 => mk'z); refine Stop.mk ?_)) | with_reducible (k_closed; first | with_reducible refine PySem.W.ite_pos (by with_unfolding_all decide) ?_ | with_reducible refine PySem.W.ite_neg (by with_unfolding_all decide) ?_) | walk1); (try dsimp only); (try ((with_reducible show wpAny _ _ _ _ _ ⟨_, _, _, _ + _, _⟩); refine anyToks ?_; intro _)); (repeat ((first | with_reducible rename (_ < _ ∧ _) => hhzz | with_reducible rename (_ ≠ _ ∧ _) => hhzz | with_reducible rename ((_ ≠ _ ∧ _) ∧ _) => hhzz); have := hhzz.1; have := hhzz.2; clear hhzz))) | (dsimp only; walk1) | (leave1; (try dsimp only)) | fail "no step"))
  refine Stop.out ⟨D, zs.toArray, pM (mL pc) fs, fun _ _ => True, _, _, rfl, F2, N2, News.isList N2 (by k_mem), by rw [sizeLine_eq, List.size_toArray, hTF.1]; exact Nat.le_trans hfl (by decide), QT.told hTF.told N2 (by kcf_all) ?_ (fun _ _ _ _ _ _ _ _ _ _ _ _ _ => Ev.int.imp fun _ _ => trivial), ?_⟩
  · intro f x ta tb C s₃ m₃ hfm hnm ⟨rw', hfs⟩ hn q1 q2 q3 hk
    have b₃ : Bs w vw lo mean mg mb s₃.heap := Bs.keeps ⟨X, T⟩ (Kp.trans F2.keep hk)
    have hok := hfs.ok
    have hnl := names_len hnm
    refine EvT.one (EvT.cmp (P1 := fun v => ∃ t, v = .str (st (pc.map lowN)) t) (P2 := fun v => ∃ t, v = .str (st ((f.1.map UInt8.toNat ++ [58, 32] ++ f.2).map lowN)) t) ?_ ?_ ?_)
    · exact (Ev.cel rfl ⟨_, hk _ _ (N2 _ (.tail _ (.tail _ (.tail _ (.head _))))).1, hsm⟩ rfl rfl).imp fun v e => ⟨_, e⟩
    · refine Ev.smallC b₃ (Ev.glob b₃ (by k_is) rfl rfl rfl) ?_ rfl (by dsimp only; omega) (by dsimp only; omega) ?_ ?_
      · refine Ev.bin (P1 := fun v => ∃ t, v = .str (st (f.1.map UInt8.toNat ++ [58, 32])) t) (P2 := fun v => v = .str (st f.2) tb) ?_ (Ev.loc hn q3 rfl rfl) ?_
        · refine Ev.bin (P1 := fun v => v = .str (st (f.1.map UInt8.toNat)) ta) (P2 := fun v => ∃ t, v = .str (Str.ofString ": ") t) (Ev.loc hn q2 rfl rfl) Ev.str ?_
          rintro v u rfl ⟨t, rfl⟩
          rw [ofSc]
          exact Ev.addS (by simp only [List.length_cons, List.length_nil]; omega)
        · rintro v u ⟨t, rfl⟩ rfl
          exact Ev.addS (by simp only [List.length_append, List.length_cons, List.length_nil]; omega)
      · intro c hc
        rcases List.mem_append.mp hc with hc | hc
        · rcases List.mem_append.mp hc with hc | hc
          · exact name_alph hnm c hc
          · simp only [List.mem_cons, List.not_mem_nil, or_false] at hc; rcases hc with rfl | rfl <;> exact .inl (by decide)
        · exact hok.1 c hc
      · simp only [List.length_append, List.length_cons, List.length_nil]; omega
    · rintro v u ⟨t, rfl⟩ ⟨t', rfl⟩
      exact Ev.inS.imp fun z e => e
  intro D2 h2 tk2 ys2 F3 N3 off3 hpp
  have hany := any_paired hTF.1 hpp
  clear F2 N2 hpp
  simp only [LCg.Off1] at off3
  have mk3 := Mk.on 3
  ((try dsimp only); (try k_fold); repeat' (first | (k_unfold; (try dsimp only)) | ((first | with_reducible ((with_reducible show wpAny _ _ (compareOp CmpOp.NotEq (Value.bool _) (Value.bool _)) _ _ _); (refine ne_same (by first | exact rfl | exact wh1 (by assumption) | exact wh2 (by assumption)) ?_)) | with_reducible ((with_reducible show wpAny _ _ (compareOp CmpOp.NotEq (Value.ref _) (Value.ref _)) _ _ _); k_dflt (refine ne_any (News.isList (by k_asm) (by k_mem)) (News.isList (by k_asm) (by k_mem)) (by (try dsimp only); omega) (by assumption) ?_)) | with_reducible ((with_reducible show wpAny _ _ (call (Value.ref 321) _) _ _ _); k_dflt (refine' useV0 (fun b => c_head2 (by assumption) (by assumption) (by assumption) (by assumption) (by k_asm) (by k_mem) (by kcf_all) b) ?kF ?kN ?kX ?kT ?kh ?kd ?ku ?_; walk_at "ARGS"); intro h'z tk'z F'z N'z) | with_reducible ((with_reducible show wpAny _ _ (call (Value.ref 337) _) _ _ _); refine' useV (fun b => c_wide (by assumption) (by assumption) b) ?kF ?kN ?kX ?kT ?kh ?kd ?ku ?_; walk_at "ARGS"; intro t'z h'z tk'z F'z N'z) | with_reducible ((with_reducible show wpAny _ _ (call (Value.ref 342) _) _ _ _); refine' useV (fun b => c_small (by assumption) (by assumption) b) ?kF ?kN ?kX ?kT ?kh ?kd ?ku ?_; walk_at "ARGS"; intro t'z h'z tk'z F'z N'z) | with_reducible ((with_reducible show wpAny _ _ (newTuple _) _ _ _); (k_dflt (refine' kup_newTuple ?Fh9 ?Nh9 ?_ ?zh9; (case Fh9 => k_asm); (case Nh9 => k_asm); (case zh9 => kmk_size)); intro D'z h'z F'z N'z l1zz; (try k_lt l1zz); (try k_sweep))) | with_reducible ((with_reducible show wpAny _ _ (eval (PySem.Expr.Name _ _) _) _ _ _); (k_dflt (first | (refine' nameX_L ?Fh9 ?vh9 ?_ ?ah9 ?bh9; (case Fh9 => k_asm); (case ah9 => rfl); (case bh9 => rfl); (case vh9 => rfl); k_whole) | (refine' nameX_K ?Fh9 ?Xh9 ?Th9 ?eh9 ?_ ?ah9 ?bh9; (case Fh9 => k_asm); (case Xh9 => k_asm); (case Th9 => k_asm); (case ah9 => rfl); (case bh9 => rfl); (case eh9 => k_is); k_whole) | (refine' nameX_B ?Fh9 ?Xh9 ?Th9 ?eh9 ?vh9 ?nh9 ?_ ?ah9 ?bh9; (case Fh9 => k_asm); (case Xh9 => k_asm); (case Th9 => k_asm); (case ah9 => rfl); (case bh9 => rfl); (case eh9 => k_is); (case vh9 => boot_fast); (case nh9 => decide); k_whole)))) | with_reducible ((with_reducible show wpAny _ _ (spliced _) _ _ _); (k_dflt (first | refine args_cons ?_ | (refine args_nil ?_; (try simp only [List.cons_append, List.nil_append]))))) | with_reducible ((with_reducible show wpAny _ _ (exec (PySem.Stmt.For _ (PySem.Expr.Tuple _ _ _) _ _ _) _) _ _ _); ((rename Mk 3 => mk'z); refine Stop.mk ?_)) | with_reducible ((with_reducible show wpAny _ _ (eval (PySem.Expr.ListComp _ _ _ _) _) _ _ _); ((rename Mk 1 => mk'z); refine Stop.mk ?_)) | with_reducible (k_closed; first | with_reducible refine PySem.W.ite_pos (by with_unfolding_all decide) ?_ | with_reducible refine PySem.W.ite_neg (by with_unfolding_all decide) ?_) | walk1); (try dsimp only); (try ((with_reducible show wpAny _ _ _ _ _ ⟨_, _, _, _ + _, _⟩); refine anyToks ?_; intro _)); (repeat ((first | with_reducible rename (_ < _ ∧ _) => hhzz | with_reducible rename (_ ≠ _ ∧ _) => hhzz | with_reducible rename ((_ ≠ _ ∧ _) ∧ _) => hhzz); have := hhzz.1; have := hhzz.2; clear hhzz))) | (dsimp only; walk1) | (leave1; (try dsimp only)) | fail "no step"))
  all_goals rename Mk 3 => mk3
  all_goals clear mk3
  all_goals rename Fr _ _ _ _ => F4
  all_goals rename News _ _ _ _ => N4
  all_goals refine Stop.out (wpAny_mono (law_words (pre := [(_, _), (_, _), (_, _)]) hb hdp hup X T ⟨a1, a2, a3, a4, a5, b1, b2, b3, b4, b5, c0, c1, c2, c3, c4, c5, f1, f2, f3, g1, g2, g3, d1, d2, d3⟩ ⟨e1, e2, e3, e4, e5, e6, e7⟩ hTF hfl F4 rfl rfl rfl hpa hpl N4 hw hsm hp) (fun f s' hq => ?_) (fun _ _ x => False.elim x))
  all_goals have e := hq.nxt
  all_goals subst e
  all_goals exact wpAny_execs_nil (hq.to rfl rfl rfl)
end

theorem LawAt.have {w : World} {body : List Stmt} {scope : Scope} {G : Prop} {oc : Value} {od : Option Addr} {osl : Array (Option Value)} {name qual : Str} {params : Arguments} {dV kV doc pm : Value} {an : Option Addr} {cdv ct : Value}
    (e : (hd.heap_39 w.params).lookup 352 = some ⟨oc, od, .func (fnOf name qual params body scope dV kV doc pm an cdv ct), osl⟩) (k : LawAt w body scope → G) : G := k ⟨_, _, _, _, _, _, _, _, _, _, _, _, _, e⟩
section
variable {w : World} {vw : Program} {lo : List Str} {mean : ExcName → Option Value} {mg mb : Str → Option Value} {s : Shared}
theorem c_law {l : Addr} {vs : List Value} {ns : List Int} (hL : s.heap.IsList l vs.toArray) (hI : IntsAre vs ns) (hn : ns.length ≤ 63) (b : Bs w vw lo mean mg mb s.heap) :
    Cl w 16 s (call (.ref 352) [.ref l]) (fun v _ => v = .bool true) := by
  refine' enterC (binds := [(Str.ofString "script", .ref l)]) b ?k6 ?k7 ?k9 ?kB ?kD ?c2 ?c3 ?c4 ?_
  ((case k6 => k_is); (case k7 => k_is); (case k9 => exact rfl); (case kB => exact rfl); (case kD => decide +kernel); (case c2 => exact rfl); (case c3 => exact rfl); (case c4 => exact rfl))
  intro dp un fr gd h₁ tk cells hd hu F X T N Y
  k_cells Y
  (try dsimp only at F)
  have hvl := hI.length
  refine' LawAt.have (w := w) ?k6 ?kk
  (case k6 => k_is)
  intro hbl
  have mk5 := Mk.on 5
  ((try dsimp only); (try k_fold); repeat' (first | (k_unfold; (try dsimp only)) | ((first | with_reducible ((with_reducible show wpAny _ _ (exec (PySem.Stmt.If (PySem.Expr.BoolOp _ _ _) (_ :: _) (_ :: _) _) _) _ _ _); ((rename Mk 7 => mk'z); refine Stop.mk ?_)) | ((with_reducible show wpAny _ _ (call (Value.ref 347) _) _ _ _); refine' useLf ?kF ?kN ?kUh9 ?kX ?kT ?kSh9 ?kSBh9 ?kih9 ?kzh9 ?kph9 ?kh ?kd ?ku ?_; (case kF => k_asm); (case kN => k_asm); (case kUh9 => k_updF); (case kX => k_asm); (case kT => k_asm); (case kSh9 => exact News.isList (by k_asm) (by k_mem)); (case kSBh9 => assumption); (case kih9 => assumption); (case kzh9 => assumption); (case kph9 => assumption); (case kh => exact rfl); (case kd => (try dsimp only); omega); (case ku => (try dsimp only); omega); intro D'z x'z dx'z nm'z rw'z row'z k1'z k2'z ta'z tb'z td'z te'z n1'z n2'z p'z q'z t1'z t2'z n'z h'z tk'z F'z N'z o1'z o2'z o3'z hnm'z hfs'z hp'z) | ((with_reducible show wpAny _ _ (call (Value.ref 330) _) _ _ _); refine' useTake ?kF ?kN ?kUh9 ?kX ?kT ?kSh9 ?kSBh9 ?kih9 ?kzh9 ?kph9 ?kmh9 ?kh ?kd ?ku ?_; (case kF => k_asm); (case kN => k_asm); (case kUh9 => k_updF); (case kX => k_asm); (case kT => k_asm); (case kSh9 => exact News.isList (by k_asm) (by k_mem)); (case kSBh9 => assumption); (case kih9 => assumption); (case kzh9 => assumption); (case kph9 => assumption); (case kmh9 => (first | decide | omega)); (case kh => exact rfl); (case kd => (try dsimp only); omega); (case ku => (try dsimp only); omega); intro r t'z p'z q'z t1'z t2'z n'z h'z tk'z F'z N'z hr1 hr2 hp'z) | with_reducible ((with_reducible show wpAny _ _ (eval (PySem.Expr.Name _ _) _) _ _ _); ((with_reducible show wpAny _ _ (eval (Expr.Name _ _) (compEnvC _ _ _ _)) _ _ _); k_dflt (refine ld_cel (by k_asm) (by rfl) (by k_mem) (by assumption) ?_))) | with_reducible ((with_reducible show wpAny _ _ (subscriptTail _ (PySem.Expr.Slice none _ none _) (Value.ref _) (Value.ref _)) _ _ _); k_dflt (refine' kmk_slice_ints (s := ⟨_, _, _, _, _⟩) ?Fh9 ?Nh9 ?lh9 ?ph9 ?qh9 ?ih9 ?mh9 ?ch9 ?_ ?sh9 ?th9 ?zh9; (case Fh9 => k_asm); (case Nh9 => k_asm); (case lh9 => exact isList_up (by assumption) (Fr.keep (by k_asm))); (case ph9 => kmk_part); (case qh9 => kmk_part); (case ih9 => assumption); (case mh9 => exact kmk_upto (by assumption) (by decide)); (case ch9 => exact List.length_take ..); (case sh9 => with_unfolding_all rfl); (case th9 => kmk_pure); (case zh9 => (rw [sizeLine_eq, List.size_toArray]; omega))); intro D'z ws'z h'z F'z N'z l1zz hI'z hC'z hL'z; (try k_lt l1zz)) | with_reducible ((with_reducible show wpAny _ _ (exec (PySem.Stmt.Assign (_ :: _) (PySem.Expr.ListComp _ _ _ _) _) _) _ _ _); ((rename Mk 5 => mk'z); refine Stop.mk ?_)) | with_reducible ((with_reducible show wpAny _ _ (subscriptTail _ _ (Value.ref 323) (Value.int _ _)) _ _ _); refine pick_word (by k_asm) (by k_asm) (by assumption) (by assumption) ?_; intro wdzz twzz hwdzz; have hwlzz := (word_len hwdzz).1; have hwazz := word_alph hwdzz; have hwl2zz := wideL_len wdzz; have hwl3zz : wdzz.length ≤ 100000 := Nat.le_trans hwlzz (by decide)) | with_reducible ((with_reducible show wpAny _ _ (newTuple _) _ _ _); (k_dflt (refine' kup_newTuple ?Fh9 ?Nh9 ?_ ?zh9; (case Fh9 => k_asm); (case Nh9 => k_asm); (case zh9 => kmk_size)); intro D'z h'z F'z N'z l1zz; (try k_lt l1zz); (try k_sweep))) | with_reducible ((with_reducible refine Stop.mk (P := LCg.CompSrc _ _ _ _ _ _ _ _ _ _ _ _ _ _) ?_); (rename Mk 1 => mkzz)) | with_reducible ((with_reducible show wpAny _ _ (eval (PySem.Expr.Name _ _) _) _ _ _); (k_dflt (first | (refine' nameX_L ?Fh9 ?vh9 ?_ ?ah9 ?bh9; (case Fh9 => k_asm); (case ah9 => rfl); (case bh9 => rfl); (case vh9 => rfl); k_whole) | (refine' nameX_K ?Fh9 ?Xh9 ?Th9 ?eh9 ?_ ?ah9 ?bh9; (case Fh9 => k_asm); (case Xh9 => k_asm); (case Th9 => k_asm); (case ah9 => rfl); (case bh9 => rfl); (case eh9 => k_is); k_whole) | (refine' nameX_B ?Fh9 ?Xh9 ?Th9 ?eh9 ?vh9 ?nh9 ?_ ?ah9 ?bh9; (case Fh9 => k_asm); (case Xh9 => k_asm); (case Th9 => k_asm); (case ah9 => rfl); (case bh9 => rfl); (case eh9 => k_is); (case vh9 => boot_fast); (case nh9 => decide); k_whole)))) | with_reducible ((with_reducible show wpAny _ _ (spliced _) _ _ _); (k_dflt (first | refine args_cons ?_ | (refine args_nil ?_; (try simp only [List.cons_append, List.nil_append]))))) | with_reducible ((with_reducible show wpAny _ _ (exec (PySem.Stmt.For _ (PySem.Expr.Call _ _ _ _) _ _ _) _) _ _ _); ((rename Mk 3 => mk'z); refine Stop.mk ?_)) | walk1); (try dsimp only); (try ((with_reducible show wpAny _ _ _ _ _ ⟨_, _, _, _ + _, _⟩); refine anyToks ?_; intro _))) | (dsimp only; walk1) | (leave1; (try dsimp only)) | fail "no step"))
  rename Mk 5 => mk5; clear mk5
  refine Stop.out ?_
  rename Fr _ _ _ _ => F1
  rename News _ _ _ _ => N1
  obtain ⟨sn, hsv, hz⟩ : ∃ sn : List Int, IntsAre ys sn ∧ sn.length ≤ 1000000 := ⟨_, by assumption, by simp only [List.length_map, List.length_take]; omega⟩
  rename (_ = Data.cell (some (Value.ref _))) => hcb
  rename Heap => h2
  (repeat ((first | with_reducible rename (_ < _ ∧ _) => hh | with_reducible rename (_ ≠ _ ∧ _) => hh | with_reducible rename ((_ ≠ _ ∧ _) ∧ _) => hh); have := hh.1; have := hh.2; clear hh))
  obtain ⟨B, S, q, t1, t2, n, ow, os, ob, vw', vs', m, F2, N2, hw, hs, hcb, n1, n2, n3, n4, n5⟩ : LawB s.heap s.heap.objs.size ys h2 := by
    refine ⟨_, _, _, _, _, _, _, _, _, _, _, _, F1, cb_drop N1 (by kcf_all), by assumption, by assumption, hcb, neN ?_, ltN ?_, neN ?_, neN ?_, neN ?_⟩ <;> first | assumption | exact Ne.symm (by assumption) | exact Nat.ne_of_lt (by assumption) | exact Nat.ne_of_gt (by assumption) | omega
  clear F1 N1
  have hp0 : (0 : Int) ≤ 0 := Int.le_refl 0
  have hSB : S ≠ B := n1
  obtain ⟨⟨f1, f2, f3⟩, g1, g2, g3⟩ := ne_lows n2
  have mk1 := Mk.on 1
  refine LCg.Assign_ListComp_U (F₀ := F2) (by rfl) (by with_unfolding_all rfl) (by with_unfolding_all rfl) (by decide) (by rfl) (by decide) (by rfl) (by rfl) (by rfl) ?_
  ((try dsimp only); (try k_fold); repeat' (first | (k_unfold; (try dsimp only)) | ((first | with_reducible ((with_reducible show wpAny _ _ (exec (PySem.Stmt.If (PySem.Expr.BoolOp _ _ _) (_ :: _) (_ :: _) _) _) _ _ _); ((rename Mk 7 => mk'z); refine Stop.mk ?_)) | ((with_reducible show wpAny _ _ (call (Value.ref 347) _) _ _ _); refine' useLf ?kF ?kN ?kUh9 ?kX ?kT ?kSh9 ?kSBh9 ?kih9 ?kzh9 ?kph9 ?kh ?kd ?ku ?_; (case kF => k_asm); (case kN => k_asm); (case kUh9 => k_updF); (case kX => k_asm); (case kT => k_asm); (case kSh9 => exact News.isList (by k_asm) (by k_mem)); (case kSBh9 => assumption); (case kih9 => assumption); (case kzh9 => assumption); (case kph9 => assumption); (case kh => exact rfl); (case kd => (try dsimp only); omega); (case ku => (try dsimp only); omega); intro D'z x'z dx'z nm'z rw'z row'z k1'z k2'z ta'z tb'z td'z te'z n1'z n2'z p'z q'z t1'z t2'z n'z h'z tk'z F'z N'z o1'z o2'z o3'z hnm'z hfs'z hp'z) | ((with_reducible show wpAny _ _ (call (Value.ref 330) _) _ _ _); refine' useTake ?kF ?kN ?kUh9 ?kX ?kT ?kSh9 ?kSBh9 ?kih9 ?kzh9 ?kph9 ?kmh9 ?kh ?kd ?ku ?_; (case kF => k_asm); (case kN => k_asm); (case kUh9 => k_updF); (case kX => k_asm); (case kT => k_asm); (case kSh9 => exact News.isList (by k_asm) (by k_mem)); (case kSBh9 => assumption); (case kih9 => assumption); (case kzh9 => assumption); (case kph9 => assumption); (case kmh9 => (first | decide | omega)); (case kh => exact rfl); (case kd => (try dsimp only); omega); (case ku => (try dsimp only); omega); intro r t'z p'z q'z t1'z t2'z n'z h'z tk'z F'z N'z hr1 hr2 hp'z) | with_reducible ((with_reducible show wpAny _ _ (eval (PySem.Expr.Name _ _) _) _ _ _); ((with_reducible show wpAny _ _ (eval (Expr.Name _ _) (compEnvC _ _ _ _)) _ _ _); k_dflt (refine ld_cel (by k_asm) (by rfl) (by k_mem) (by assumption) ?_))) | with_reducible ((with_reducible show wpAny _ _ (subscriptTail _ (PySem.Expr.Slice none _ none _) (Value.ref _) (Value.ref _)) _ _ _); k_dflt (refine' kmk_slice_ints (s := ⟨_, _, _, _, _⟩) ?Fh9 ?Nh9 ?lh9 ?ph9 ?qh9 ?ih9 ?mh9 ?ch9 ?_ ?sh9 ?th9 ?zh9; (case Fh9 => k_asm); (case Nh9 => k_asm); (case lh9 => exact isList_up (by assumption) (Fr.keep (by k_asm))); (case ph9 => kmk_part); (case qh9 => kmk_part); (case ih9 => assumption); (case mh9 => exact kmk_upto (by assumption) (by decide)); (case ch9 => exact List.length_take ..); (case sh9 => with_unfolding_all rfl); (case th9 => kmk_pure); (case zh9 => (rw [sizeLine_eq, List.size_toArray]; omega))); intro D'z ws'z h'z F'z N'z l1zz hI'z hC'z hL'z; (try k_lt l1zz)) | with_reducible ((with_reducible show wpAny _ _ (exec (PySem.Stmt.Assign (_ :: _) (PySem.Expr.ListComp _ _ _ _) _) _) _ _ _); ((rename Mk 5 => mk'z); refine Stop.mk ?_)) | with_reducible ((with_reducible show wpAny _ _ (subscriptTail _ _ (Value.ref 323) (Value.int _ _)) _ _ _); refine pick_word (by k_asm) (by k_asm) (by assumption) (by assumption) ?_; intro wdzz twzz hwdzz; have hwlzz := (word_len hwdzz).1; have hwazz := word_alph hwdzz; have hwl2zz := wideL_len wdzz; have hwl3zz : wdzz.length ≤ 100000 := Nat.le_trans hwlzz (by decide)) | with_reducible ((with_reducible show wpAny _ _ (newTuple _) _ _ _); (k_dflt (refine' kup_newTuple ?Fh9 ?Nh9 ?_ ?zh9; (case Fh9 => k_asm); (case Nh9 => k_asm); (case zh9 => kmk_size)); intro D'z h'z F'z N'z l1zz; (try k_lt l1zz); (try k_sweep))) | with_reducible ((with_reducible refine Stop.mk (P := LCg.CompSrc _ _ _ _ _ _ _ _ _ _ _ _ _ _) ?_); (rename Mk 1 => mkzz)) | with_reducible ((with_reducible show wpAny _ _ (eval (PySem.Expr.Name _ _) _) _ _ _); (k_dflt (first | (refine' nameX_L ?Fh9 ?vh9 ?_ ?ah9 ?bh9; (case Fh9 => k_asm); (case ah9 => rfl); (case bh9 => rfl); (case vh9 => rfl); k_whole) | (refine' nameX_K ?Fh9 ?Xh9 ?Th9 ?eh9 ?_ ?ah9 ?bh9; (case Fh9 => k_asm); (case Xh9 => k_asm); (case Th9 => k_asm); (case ah9 => rfl); (case bh9 => rfl); (case eh9 => k_is); k_whole) | (refine' nameX_B ?Fh9 ?Xh9 ?Th9 ?eh9 ?vh9 ?nh9 ?_ ?ah9 ?bh9; (case Fh9 => k_asm); (case Xh9 => k_asm); (case Th9 => k_asm); (case ah9 => rfl); (case bh9 => rfl); (case eh9 => k_is); (case vh9 => boot_fast); (case nh9 => decide); k_whole)))) | with_reducible ((with_reducible show wpAny _ _ (spliced _) _ _ _); (k_dflt (first | refine args_cons ?_ | (refine args_nil ?_; (try simp only [List.cons_append, List.nil_append]))))) | with_reducible ((with_reducible show wpAny _ _ (exec (PySem.Stmt.For _ (PySem.Expr.Call _ _ _ _) _ _ _) _) _ _ _); ((rename Mk 3 => mk'z); refine Stop.mk ?_)) | walk1); (try dsimp only); (try ((with_reducible show wpAny _ _ _ _ _ ⟨_, _, _, _ + _, _⟩); refine anyToks ?_; intro _)); (repeat ((first | with_reducible rename (_ < _ ∧ _) => hhzz | with_reducible rename (_ ≠ _ ∧ _) => hhzz | with_reducible rename ((_ ≠ _ ∧ _) ∧ _) => hhzz); have := hhzz.1; have := hhzz.2; clear hhzz))) | (dsimp only; walk1) | (leave1; (try dsimp only)) | fail "no step"))
  rename Mk 1 => mk1; clear mk1
  refine Stop.out ?_
  rename Fr _ _ _ _ => F3
  rename News _ _ _ _ => N3
  refine LCg.CompSrc.range rfl F3 N3 (by assumption) (small_one (by omega) (by omega) (by omega) (by omega)) (rangeSize_nat _ _) (by rw [sizeLine_eq]; omega) ?_
  intro g
  clear F2 N2 F3 N3
  refine rest_ind (J := TJ w.params B S (s.heap.objs.size + 1 + 1 + 1) (s.heap.objs.size + 1 + 1) (s.heap.objs.size + 1) ow os ob ys) ⟨[], [], _, _, _, _, _, rfl, ⟨rfl, fun i f hf => nomatch hf⟩, List.forall_mem_nil _, List.forall_mem_nil _, List.forall_mem_nil _, by assumption, rfl⟩ ?_ ?_
  · intro i v zs news I oI C oC D m₂ h tk E' hi hJ hP hC hx F N off hne'
    obtain ⟨fs, tl, p, q, t1, t2, n, hlen, hTL, hB, hcw, hcs, hp, rfl⟩ := hJ
    have off0 := off
    simp only [LCg.Off3] at off
    ((try dsimp only); (try k_fold); repeat' (first | (k_unfold; (try dsimp only)) | ((first | with_reducible ((with_reducible show wpAny _ _ (exec (PySem.Stmt.If (PySem.Expr.BoolOp _ _ _) (_ :: _) (_ :: _) _) _) _ _ _); ((rename Mk 7 => mk'z); refine Stop.mk ?_)) | ((with_reducible show wpAny _ _ (call (Value.ref 347) _) _ _ _); refine' useLf ?kF ?kN ?kUh9 ?kX ?kT ?kSh9 ?kSBh9 ?kih9 ?kzh9 ?kph9 ?kh ?kd ?ku ?_; (case kF => k_asm); (case kN => k_asm); (case kUh9 => k_updF); (case kX => k_asm); (case kT => k_asm); (case kSh9 => exact News.isList (by k_asm) (by k_mem)); (case kSBh9 => assumption); (case kih9 => assumption); (case kzh9 => assumption); (case kph9 => assumption); (case kh => exact rfl); (case kd => (try dsimp only); omega); (case ku => (try dsimp only); omega); intro D'z x'z dx'z nm'z rw'z row'z k1'z k2'z ta'z tb'z td'z te'z n1'z n2'z p'z q'z t1'z t2'z n'z h'z tk'z F'z N'z o1'z o2'z o3'z hnm'z hfs'z hp'z) | ((with_reducible show wpAny _ _ (call (Value.ref 330) _) _ _ _); refine' useTake ?kF ?kN ?kUh9 ?kX ?kT ?kSh9 ?kSBh9 ?kih9 ?kzh9 ?kph9 ?kmh9 ?kh ?kd ?ku ?_; (case kF => k_asm); (case kN => k_asm); (case kUh9 => k_updF); (case kX => k_asm); (case kT => k_asm); (case kSh9 => exact News.isList (by k_asm) (by k_mem)); (case kSBh9 => assumption); (case kih9 => assumption); (case kzh9 => assumption); (case kph9 => assumption); (case kmh9 => (first | decide | omega)); (case kh => exact rfl); (case kd => (try dsimp only); omega); (case ku => (try dsimp only); omega); intro r t'z p'z q'z t1'z t2'z n'z h'z tk'z F'z N'z hr1 hr2 hp'z) | with_reducible ((with_reducible show wpAny _ _ (eval (PySem.Expr.Name _ _) _) _ _ _); ((with_reducible show wpAny _ _ (eval (Expr.Name _ _) (compEnvC _ _ _ _)) _ _ _); k_dflt (refine ld_cel (by k_asm) (by rfl) (by k_mem) (by assumption) ?_))) | with_reducible ((with_reducible show wpAny _ _ (subscriptTail _ (PySem.Expr.Slice none _ none _) (Value.ref _) (Value.ref _)) _ _ _); k_dflt (refine' kmk_slice_ints (s := ⟨_, _, _, _, _⟩) ?Fh9 ?Nh9 ?lh9 ?ph9 ?qh9 ?ih9 ?mh9 ?ch9 ?_ ?sh9 ?th9 ?zh9; (case Fh9 => k_asm); (case Nh9 => k_asm); (case lh9 => exact isList_up (by assumption) (Fr.keep (by k_asm))); (case ph9 => kmk_part); (case qh9 => kmk_part); (case ih9 => assumption); (case mh9 => exact kmk_upto (by assumption) (by decide)); (case ch9 => exact List.length_take ..); (case sh9 => with_unfolding_all rfl); (case th9 => kmk_pure); (case zh9 => (rw [sizeLine_eq, List.size_toArray]; omega))); intro D'z ws'z h'z F'z N'z l1zz hI'z hC'z hL'z; (try k_lt l1zz)) | with_reducible ((with_reducible show wpAny _ _ (exec (PySem.Stmt.Assign (_ :: _) (PySem.Expr.ListComp _ _ _ _) _) _) _ _ _); ((rename Mk 5 => mk'z); refine Stop.mk ?_)) | with_reducible ((with_reducible show wpAny _ _ (subscriptTail _ _ (Value.ref 323) (Value.int _ _)) _ _ _); refine pick_word (by k_asm) (by k_asm) (by assumption) (by assumption) ?_; intro wdzz twzz hwdzz; have hwlzz := (word_len hwdzz).1; have hwazz := word_alph hwdzz; have hwl2zz := wideL_len wdzz; have hwl3zz : wdzz.length ≤ 100000 := Nat.le_trans hwlzz (by decide)) | with_reducible ((with_reducible show wpAny _ _ (newTuple _) _ _ _); (k_dflt (refine' kup_newTuple ?Fh9 ?Nh9 ?_ ?zh9; (case Fh9 => k_asm); (case Nh9 => k_asm); (case zh9 => kmk_size)); intro D'z h'z F'z N'z l1zz; (try k_lt l1zz); (try k_sweep))) | with_reducible ((with_reducible refine Stop.mk (P := LCg.CompSrc _ _ _ _ _ _ _ _ _ _ _ _ _ _) ?_); (rename Mk 1 => mkzz)) | with_reducible ((with_reducible show wpAny _ _ (eval (PySem.Expr.Name _ _) _) _ _ _); (k_dflt (first | (refine' nameX_L ?Fh9 ?vh9 ?_ ?ah9 ?bh9; (case Fh9 => k_asm); (case ah9 => rfl); (case bh9 => rfl); (case vh9 => rfl); k_whole) | (refine' nameX_K ?Fh9 ?Xh9 ?Th9 ?eh9 ?_ ?ah9 ?bh9; (case Fh9 => k_asm); (case Xh9 => k_asm); (case Th9 => k_asm); (case ah9 => rfl); (case bh9 => rfl); (case eh9 => k_is); k_whole) | (refine' nameX_B ?Fh9 ?Xh9 ?Th9 ?eh9 ?vh9 ?nh9 ?_ ?ah9 ?bh9; (case Fh9 => k_asm); (case Xh9 => k_asm); (case Th9 => k_asm); (case ah9 => rfl); (case bh9 => rfl); (case eh9 => k_is); (case vh9 => boot_fast); (case nh9 => decide); k_whole)))) | with_reducible ((with_reducible show wpAny _ _ (spliced _) _ _ _); (k_dflt (first | refine args_cons ?_ | (refine args_nil ?_; (try simp only [List.cons_append, List.nil_append]))))) | with_reducible ((with_reducible show wpAny _ _ (exec (PySem.Stmt.For _ (PySem.Expr.Call _ _ _ _) _ _ _) _) _ _ _); ((rename Mk 3 => mk'z); refine Stop.mk ?_)) | walk1); (try dsimp only); (try ((with_reducible show wpAny _ _ _ _ _ ⟨_, _, _, _ + _, _⟩); refine anyToks ?_; intro _)); (repeat ((first | with_reducible rename (_ < _ ∧ _) => hhzz | with_reducible rename (_ ≠ _ ∧ _) => hhzz | with_reducible rename ((_ ≠ _ ∧ _) ∧ _) => hhzz); have := hhzz.1; have := hhzz.2; clear hhzz))) | (dsimp only; walk1) | (leave1; (try dsimp only)) | fail "no step"))
    rename Fr _ _ _ _ => F4
    rename News _ _ _ _ => N4
    rename LCg.Off1 _ _ => o3
    revert o3
    rename LCg.Off1 _ _ => o2
    revert o2
    rename LCg.Off1 _ _ => o1
    intro o2 o3
    exact told_end F4 N4 o1 o2 o3 off0 (by assumption) hlen hTL hB hcw hcs (by assumption) (by assumption)
  · intro zs news hJ D h tk F N off
    obtain ⟨fs, tl, p, q, t1, t2, n, hlen, hTL, hB, hcw, hcs, hp, rfl⟩ := hJ
    have hfl : fs.length ≤ 6 := by clear n1 n2 n3 n4 n5 f1 f2 f3 g1 g2 g3; omega
    simp only [LCg.Off1] at off
    have mk5 := Mk.on 5
    ((try dsimp only); (try k_fold); repeat' (first | (k_unfold; (try dsimp only)) | ((first | with_reducible ((with_reducible show wpAny _ _ (exec (PySem.Stmt.If (PySem.Expr.BoolOp _ _ _) (_ :: _) (_ :: _) _) _) _ _ _); ((rename Mk 7 => mk'z); refine Stop.mk ?_)) | ((with_reducible show wpAny _ _ (call (Value.ref 347) _) _ _ _); refine' useLf ?kF ?kN ?kUh9 ?kX ?kT ?kSh9 ?kSBh9 ?kih9 ?kzh9 ?kph9 ?kh ?kd ?ku ?_; (case kF => k_asm); (case kN => k_asm); (case kUh9 => k_updF); (case kX => k_asm); (case kT => k_asm); (case kSh9 => exact News.isList (by k_asm) (by k_mem)); (case kSBh9 => assumption); (case kih9 => assumption); (case kzh9 => assumption); (case kph9 => assumption); (case kh => exact rfl); (case kd => (try dsimp only); omega); (case ku => (try dsimp only); omega); intro D'z x'z dx'z nm'z rw'z row'z k1'z k2'z ta'z tb'z td'z te'z n1'z n2'z p'z q'z t1'z t2'z n'z h'z tk'z F'z N'z o1'z o2'z o3'z hnm'z hfs'z hp'z) | ((with_reducible show wpAny _ _ (call (Value.ref 330) _) _ _ _); refine' useTake ?kF ?kN ?kUh9 ?kX ?kT ?kSh9 ?kSBh9 ?kih9 ?kzh9 ?kph9 ?kmh9 ?kh ?kd ?ku ?_; (case kF => k_asm); (case kN => k_asm); (case kUh9 => k_updF); (case kX => k_asm); (case kT => k_asm); (case kSh9 => exact News.isList (by k_asm) (by k_mem)); (case kSBh9 => assumption); (case kih9 => assumption); (case kzh9 => assumption); (case kph9 => assumption); (case kmh9 => (first | decide | omega)); (case kh => exact rfl); (case kd => (try dsimp only); omega); (case ku => (try dsimp only); omega); intro r t'z p'z q'z t1'z t2'z n'z h'z tk'z F'z N'z hr1 hr2 hp'z) | with_reducible ((with_reducible show wpAny _ _ (eval (PySem.Expr.Name _ _) _) _ _ _); ((with_reducible show wpAny _ _ (eval (Expr.Name _ _) (compEnvC _ _ _ _)) _ _ _); k_dflt (refine ld_cel (by k_asm) (by rfl) (by k_mem) (by assumption) ?_))) | with_reducible ((with_reducible show wpAny _ _ (subscriptTail _ (PySem.Expr.Slice none _ none _) (Value.ref _) (Value.ref _)) _ _ _); k_dflt (refine' kmk_slice_ints (s := ⟨_, _, _, _, _⟩) ?Fh9 ?Nh9 ?lh9 ?ph9 ?qh9 ?ih9 ?mh9 ?ch9 ?_ ?sh9 ?th9 ?zh9; (case Fh9 => k_asm); (case Nh9 => k_asm); (case lh9 => exact isList_up (by assumption) (Fr.keep (by k_asm))); (case ph9 => kmk_part); (case qh9 => kmk_part); (case ih9 => assumption); (case mh9 => exact kmk_upto (by assumption) (by decide)); (case ch9 => exact List.length_take ..); (case sh9 => with_unfolding_all rfl); (case th9 => kmk_pure); (case zh9 => (rw [sizeLine_eq, List.size_toArray]; omega))); intro D'z ws'z h'z F'z N'z l1zz hI'z hC'z hL'z; (try k_lt l1zz)) | with_reducible ((with_reducible show wpAny _ _ (exec (PySem.Stmt.Assign (_ :: _) (PySem.Expr.ListComp _ _ _ _) _) _) _ _ _); ((rename Mk 5 => mk'z); refine Stop.mk ?_)) | with_reducible ((with_reducible show wpAny _ _ (subscriptTail _ _ (Value.ref 323) (Value.int _ _)) _ _ _); refine pick_word (by k_asm) (by k_asm) (by assumption) (by assumption) ?_; intro wdzz twzz hwdzz; have hwlzz := (word_len hwdzz).1; have hwazz := word_alph hwdzz; have hwl2zz := wideL_len wdzz; have hwl3zz : wdzz.length ≤ 100000 := Nat.le_trans hwlzz (by decide)) | with_reducible ((with_reducible show wpAny _ _ (newTuple _) _ _ _); (k_dflt (refine' kup_newTuple ?Fh9 ?Nh9 ?_ ?zh9; (case Fh9 => k_asm); (case Nh9 => k_asm); (case zh9 => kmk_size)); intro D'z h'z F'z N'z l1zz; (try k_lt l1zz); (try k_sweep))) | with_reducible ((with_reducible refine Stop.mk (P := LCg.CompSrc _ _ _ _ _ _ _ _ _ _ _ _ _ _) ?_); (rename Mk 1 => mkzz)) | with_reducible ((with_reducible show wpAny _ _ (eval (PySem.Expr.Name _ _) _) _ _ _); (k_dflt (first | (refine' nameX_L ?Fh9 ?vh9 ?_ ?ah9 ?bh9; (case Fh9 => k_asm); (case ah9 => rfl); (case bh9 => rfl); (case vh9 => rfl); k_whole) | (refine' nameX_K ?Fh9 ?Xh9 ?Th9 ?eh9 ?_ ?ah9 ?bh9; (case Fh9 => k_asm); (case Xh9 => k_asm); (case Th9 => k_asm); (case ah9 => rfl); (case bh9 => rfl); (case eh9 => k_is); k_whole) | (refine' nameX_B ?Fh9 ?Xh9 ?Th9 ?eh9 ?vh9 ?nh9 ?_ ?ah9 ?bh9; (case Fh9 => k_asm); (case Xh9 => k_asm); (case Th9 => k_asm); (case ah9 => rfl); (case bh9 => rfl); (case eh9 => k_is); (case vh9 => boot_fast); (case nh9 => decide); k_whole)))) | with_reducible ((with_reducible show wpAny _ _ (spliced _) _ _ _); (k_dflt (first | refine args_cons ?_ | (refine args_nil ?_; (try simp only [List.cons_append, List.nil_append]))))) | with_reducible ((with_reducible show wpAny _ _ (exec (PySem.Stmt.For _ (PySem.Expr.Call _ _ _ _) _ _ _) _) _ _ _); ((rename Mk 3 => mk'z); refine Stop.mk ?_)) | walk1); (try dsimp only); (try ((with_reducible show wpAny _ _ _ _ _ ⟨_, _, _, _ + _, _⟩); refine anyToks ?_; intro _)); (repeat ((first | with_reducible rename (_ < _ ∧ _) => hhzz | with_reducible rename (_ ≠ _ ∧ _) => hhzz | with_reducible rename ((_ ≠ _ ∧ _) ∧ _) => hhzz); have := hhzz.1; have := hhzz.2; clear hhzz))) | (dsimp only; walk1) | (leave1; (try dsimp only)) | fail "no step"))
    rename Mk 5 => mk5; clear mk5
    refine Stop.out ?_
    refine lct_assign F rfl rfl (by with_unfolding_all rfl) (by with_unfolding_all rfl) (by decide) rfl (by decide) rfl rfl rfl (by decide) (by decide) (by decide) rfl rfl ?_
    ((try dsimp only); (try k_fold); repeat' (first | (k_unfold; (try dsimp only)) | ((first | with_reducible ((with_reducible show wpAny _ _ (exec (PySem.Stmt.If (PySem.Expr.BoolOp _ _ _) (_ :: _) (_ :: _) _) _) _ _ _); ((rename Mk 7 => mk'z); refine Stop.mk ?_)) | ((with_reducible show wpAny _ _ (call (Value.ref 347) _) _ _ _); refine' useLf ?kF ?kN ?kUh9 ?kX ?kT ?kSh9 ?kSBh9 ?kih9 ?kzh9 ?kph9 ?kh ?kd ?ku ?_; (case kF => k_asm); (case kN => k_asm); (case kUh9 => k_updF); (case kX => k_asm); (case kT => k_asm); (case kSh9 => exact News.isList (by k_asm) (by k_mem)); (case kSBh9 => assumption); (case kih9 => assumption); (case kzh9 => assumption); (case kph9 => assumption); (case kh => exact rfl); (case kd => (try dsimp only); omega); (case ku => (try dsimp only); omega); intro D'z x'z dx'z nm'z rw'z row'z k1'z k2'z ta'z tb'z td'z te'z n1'z n2'z p'z q'z t1'z t2'z n'z h'z tk'z F'z N'z o1'z o2'z o3'z hnm'z hfs'z hp'z) | ((with_reducible show wpAny _ _ (call (Value.ref 330) _) _ _ _); refine' useTake ?kF ?kN ?kUh9 ?kX ?kT ?kSh9 ?kSBh9 ?kih9 ?kzh9 ?kph9 ?kmh9 ?kh ?kd ?ku ?_; (case kF => k_asm); (case kN => k_asm); (case kUh9 => k_updF); (case kX => k_asm); (case kT => k_asm); (case kSh9 => exact News.isList (by k_asm) (by k_mem)); (case kSBh9 => assumption); (case kih9 => assumption); (case kzh9 => assumption); (case kph9 => assumption); (case kmh9 => (first | decide | omega)); (case kh => exact rfl); (case kd => (try dsimp only); omega); (case ku => (try dsimp only); omega); intro r t'z p'z q'z t1'z t2'z n'z h'z tk'z F'z N'z hr1 hr2 hp'z) | with_reducible ((with_reducible show wpAny _ _ (eval (PySem.Expr.Name _ _) _) _ _ _); ((with_reducible show wpAny _ _ (eval (Expr.Name _ _) (compEnvC _ _ _ _)) _ _ _); k_dflt (refine ld_cel (by k_asm) (by rfl) (by k_mem) (by assumption) ?_))) | with_reducible ((with_reducible show wpAny _ _ (subscriptTail _ (PySem.Expr.Slice none _ none _) (Value.ref _) (Value.ref _)) _ _ _); k_dflt (refine' kmk_slice_ints (s := ⟨_, _, _, _, _⟩) ?Fh9 ?Nh9 ?lh9 ?ph9 ?qh9 ?ih9 ?mh9 ?ch9 ?_ ?sh9 ?th9 ?zh9; (case Fh9 => k_asm); (case Nh9 => k_asm); (case lh9 => exact isList_up (by assumption) (Fr.keep (by k_asm))); (case ph9 => kmk_part); (case qh9 => kmk_part); (case ih9 => assumption); (case mh9 => exact kmk_upto (by assumption) (by decide)); (case ch9 => exact List.length_take ..); (case sh9 => with_unfolding_all rfl); (case th9 => kmk_pure); (case zh9 => (rw [sizeLine_eq, List.size_toArray]; omega))); intro D'z ws'z h'z F'z N'z l1zz hI'z hC'z hL'z; (try k_lt l1zz)) | with_reducible ((with_reducible show wpAny _ _ (exec (PySem.Stmt.Assign (_ :: _) (PySem.Expr.ListComp _ _ _ _) _) _) _ _ _); ((rename Mk 5 => mk'z); refine Stop.mk ?_)) | with_reducible ((with_reducible show wpAny _ _ (subscriptTail _ _ (Value.ref 323) (Value.int _ _)) _ _ _); refine pick_word (by k_asm) (by k_asm) (by assumption) (by assumption) ?_; intro wdzz twzz hwdzz; have hwlzz := (word_len hwdzz).1; have hwazz := word_alph hwdzz; have hwl2zz := wideL_len wdzz; have hwl3zz : wdzz.length ≤ 100000 := Nat.le_trans hwlzz (by decide)) | with_reducible ((with_reducible show wpAny _ _ (newTuple _) _ _ _); (k_dflt (refine' kup_newTuple ?Fh9 ?Nh9 ?_ ?zh9; (case Fh9 => k_asm); (case Nh9 => k_asm); (case zh9 => kmk_size)); intro D'z h'z F'z N'z l1zz; (try k_lt l1zz); (try k_sweep))) | with_reducible ((with_reducible refine Stop.mk (P := LCg.CompSrc _ _ _ _ _ _ _ _ _ _ _ _ _ _) ?_); (rename Mk 1 => mkzz)) | with_reducible ((with_reducible show wpAny _ _ (eval (PySem.Expr.Name _ _) _) _ _ _); (k_dflt (first | (refine' nameX_L ?Fh9 ?vh9 ?_ ?ah9 ?bh9; (case Fh9 => k_asm); (case ah9 => rfl); (case bh9 => rfl); (case vh9 => rfl); k_whole) | (refine' nameX_K ?Fh9 ?Xh9 ?Th9 ?eh9 ?_ ?ah9 ?bh9; (case Fh9 => k_asm); (case Xh9 => k_asm); (case Th9 => k_asm); (case ah9 => rfl); (case bh9 => rfl); (case eh9 => k_is); k_whole) | (refine' nameX_B ?Fh9 ?Xh9 ?Th9 ?eh9 ?vh9 ?nh9 ?_ ?ah9 ?bh9; (case Fh9 => k_asm); (case Xh9 => k_asm); (case Th9 => k_asm); (case ah9 => rfl); (case bh9 => rfl); (case eh9 => k_is); (case vh9 => boot_fast); (case nh9 => decide); k_whole)))) | with_reducible ((with_reducible show wpAny _ _ (spliced _) _ _ _); (k_dflt (first | refine args_cons ?_ | (refine args_nil ?_; (try simp only [List.cons_append, List.nil_append]))))) | with_reducible ((with_reducible show wpAny _ _ (exec (PySem.Stmt.For _ (PySem.Expr.Call _ _ _ _) _ _ _) _) _ _ _); ((rename Mk 3 => mk'z); refine Stop.mk ?_)) | walk1); (try dsimp only); (try ((with_reducible show wpAny _ _ _ _ _ ⟨_, _, _, _ + _, _⟩); refine anyToks ?_; intro _)); (repeat ((first | with_reducible rename (_ < _ ∧ _) => hhzz | with_reducible rename (_ ≠ _ ∧ _) => hhzz | with_reducible rename ((_ ≠ _ ∧ _) ∧ _) => hhzz); have := hhzz.1; have := hhzz.2; clear hhzz))) | (dsimp only; walk1) | (leave1; (try dsimp only)) | fail "no step"))
    refine Stop.out ⟨D, zs.toArray, pM (fun _ => true) fs, GF w.params zs fs tl, _, _, rfl, F, N, News.isList N (.head _), by rw [sizeLine_eq, List.size_toArray, hTL.1]; exact Nat.le_trans hfl (by decide), QT.told hTL N (by kcf_all) (fun _ _ _ _ _ _ _ _ _ _ _ _ _ _ _ => EvT.nil) ?_, ?_⟩
    · intro i f x ta tb C s₃ m₃ hf _ hT hn' hm'
      obtain ⟨D', n1, q1, q2, dx, rw', td, te, k1, k2, n2, q3, q4, q5, q6⟩ := hT
      exact (Ev.loc hn' hm' rfl rfl).imp fun v e f' hf' => by
        rw [hf] at hf'
        obtain rfl := Option.some.inj hf'
        exact ⟨D', x, dx, rw', ta, tb, td, te, k1, k2, n1, n2, q1, e, q2, q3, q4, q5, q6⟩
    intro Fl h' tk' fys F' N' offl hpp
    have hzz : zs.length ≤ 1000000 := by rw [hTL.1]; exact Nat.le_trans hfl (by decide)
    have hTF := TF.of2 hTL hpp
    clear F N hpp
    have off1 := offl
    simp only [LCg.Off1] at offl
    have mk3 := Mk.on 3
    ((try dsimp only); (try k_fold); repeat' (first | (k_unfold; (try dsimp only)) | ((first | with_reducible ((with_reducible show wpAny _ _ (exec (PySem.Stmt.If (PySem.Expr.BoolOp _ _ _) (_ :: _) (_ :: _) _) _) _ _ _); ((rename Mk 7 => mk'z); refine Stop.mk ?_)) | ((with_reducible show wpAny _ _ (call (Value.ref 347) _) _ _ _); refine' useLf ?kF ?kN ?kUh9 ?kX ?kT ?kSh9 ?kSBh9 ?kih9 ?kzh9 ?kph9 ?kh ?kd ?ku ?_; (case kF => k_asm); (case kN => k_asm); (case kUh9 => k_updF); (case kX => k_asm); (case kT => k_asm); (case kSh9 => exact News.isList (by k_asm) (by k_mem)); (case kSBh9 => assumption); (case kih9 => assumption); (case kzh9 => assumption); (case kph9 => assumption); (case kh => exact rfl); (case kd => (try dsimp only); omega); (case ku => (try dsimp only); omega); intro D'z x'z dx'z nm'z rw'z row'z k1'z k2'z ta'z tb'z td'z te'z n1'z n2'z p'z q'z t1'z t2'z n'z h'z tk'z F'z N'z o1'z o2'z o3'z hnm'z hfs'z hp'z) | ((with_reducible show wpAny _ _ (call (Value.ref 330) _) _ _ _); refine' useTake ?kF ?kN ?kUh9 ?kX ?kT ?kSh9 ?kSBh9 ?kih9 ?kzh9 ?kph9 ?kmh9 ?kh ?kd ?ku ?_; (case kF => k_asm); (case kN => k_asm); (case kUh9 => k_updF); (case kX => k_asm); (case kT => k_asm); (case kSh9 => exact News.isList (by k_asm) (by k_mem)); (case kSBh9 => assumption); (case kih9 => assumption); (case kzh9 => assumption); (case kph9 => assumption); (case kmh9 => (first | decide | omega)); (case kh => exact rfl); (case kd => (try dsimp only); omega); (case ku => (try dsimp only); omega); intro r t'z p'z q'z t1'z t2'z n'z h'z tk'z F'z N'z hr1 hr2 hp'z) | with_reducible ((with_reducible show wpAny _ _ (eval (PySem.Expr.Name _ _) _) _ _ _); ((with_reducible show wpAny _ _ (eval (Expr.Name _ _) (compEnvC _ _ _ _)) _ _ _); k_dflt (refine ld_cel (by k_asm) (by rfl) (by k_mem) (by assumption) ?_))) | with_reducible ((with_reducible show wpAny _ _ (subscriptTail _ (PySem.Expr.Slice none _ none _) (Value.ref _) (Value.ref _)) _ _ _); k_dflt (refine' kmk_slice_ints (s := ⟨_, _, _, _, _⟩) ?Fh9 ?Nh9 ?lh9 ?ph9 ?qh9 ?ih9 ?mh9 ?ch9 ?_ ?sh9 ?th9 ?zh9; (case Fh9 => k_asm); (case Nh9 => k_asm); (case lh9 => exact isList_up (by assumption) (Fr.keep (by k_asm))); (case ph9 => kmk_part); (case qh9 => kmk_part); (case ih9 => assumption); (case mh9 => exact kmk_upto (by assumption) (by decide)); (case ch9 => exact List.length_take ..); (case sh9 => with_unfolding_all rfl); (case th9 => kmk_pure); (case zh9 => (rw [sizeLine_eq, List.size_toArray]; omega))); intro D'z ws'z h'z F'z N'z l1zz hI'z hC'z hL'z; (try k_lt l1zz)) | with_reducible ((with_reducible show wpAny _ _ (exec (PySem.Stmt.Assign (_ :: _) (PySem.Expr.ListComp _ _ _ _) _) _) _ _ _); ((rename Mk 5 => mk'z); refine Stop.mk ?_)) | with_reducible ((with_reducible show wpAny _ _ (subscriptTail _ _ (Value.ref 323) (Value.int _ _)) _ _ _); refine pick_word (by k_asm) (by k_asm) (by assumption) (by assumption) ?_; intro wdzz twzz hwdzz; have hwlzz := (word_len hwdzz).1; have hwazz := word_alph hwdzz; have hwl2zz := wideL_len wdzz; have hwl3zz : wdzz.length ≤ 100000 := Nat.le_trans hwlzz (by decide)) | with_reducible ((with_reducible show wpAny _ _ (newTuple _) _ _ _); (k_dflt (refine' kup_newTuple ?Fh9 ?Nh9 ?_ ?zh9; (case Fh9 => k_asm); (case Nh9 => k_asm); (case zh9 => kmk_size)); intro D'z h'z F'z N'z l1zz; (try k_lt l1zz); (try k_sweep))) | with_reducible ((with_reducible refine Stop.mk (P := LCg.CompSrc _ _ _ _ _ _ _ _ _ _ _ _ _ _) ?_); (rename Mk 1 => mkzz)) | with_reducible ((with_reducible show wpAny _ _ (eval (PySem.Expr.Name _ _) _) _ _ _); (k_dflt (first | (refine' nameX_L ?Fh9 ?vh9 ?_ ?ah9 ?bh9; (case Fh9 => k_asm); (case ah9 => rfl); (case bh9 => rfl); (case vh9 => rfl); k_whole) | (refine' nameX_K ?Fh9 ?Xh9 ?Th9 ?eh9 ?_ ?ah9 ?bh9; (case Fh9 => k_asm); (case Xh9 => k_asm); (case Th9 => k_asm); (case ah9 => rfl); (case bh9 => rfl); (case eh9 => k_is); k_whole) | (refine' nameX_B ?Fh9 ?Xh9 ?Th9 ?eh9 ?vh9 ?nh9 ?_ ?ah9 ?bh9; (case Fh9 => k_asm); (case Xh9 => k_asm); (case Th9 => k_asm); (case ah9 => rfl); (case bh9 => rfl); (case eh9 => k_is); (case vh9 => boot_fast); (case nh9 => decide); k_whole)))) | with_reducible ((with_reducible show wpAny _ _ (spliced _) _ _ _); (k_dflt (first | refine args_cons ?_ | (refine args_nil ?_; (try simp only [List.cons_append, List.nil_append]))))) | with_reducible ((with_reducible show wpAny _ _ (exec (PySem.Stmt.For _ (PySem.Expr.Call _ _ _ _) _ _ _) _) _ _ _); ((rename Mk 3 => mk'z); refine Stop.mk ?_)) | walk1); (try dsimp only); (try ((with_reducible show wpAny _ _ _ _ _ ⟨_, _, _, _ + _, _⟩); refine anyToks ?_; intro _)); (repeat ((first | with_reducible rename (_ < _ ∧ _) => hhzz | with_reducible rename (_ ≠ _ ∧ _) => hhzz | with_reducible rename ((_ ≠ _ ∧ _) ∧ _) => hhzz); have := hhzz.1; have := hhzz.2; clear hhzz))) | (dsimp only; walk1) | (leave1; (try dsimp only)) | fail "no step"))
    rename Mk 3 => mk3; clear mk3
    refine Stop.out ?_
    refine for_range (F₀ := F') rfl ?_
    ((try dsimp only); (try k_fold); repeat' (first | (k_unfold; (try dsimp only)) | ((first | with_reducible ((with_reducible show wpAny _ _ (exec (PySem.Stmt.If (PySem.Expr.BoolOp _ _ _) (_ :: _) (_ :: _) _) _) _ _ _); ((rename Mk 7 => mk'z); refine Stop.mk ?_)) | ((with_reducible show wpAny _ _ (call (Value.ref 347) _) _ _ _); refine' useLf ?kF ?kN ?kUh9 ?kX ?kT ?kSh9 ?kSBh9 ?kih9 ?kzh9 ?kph9 ?kh ?kd ?ku ?_; (case kF => k_asm); (case kN => k_asm); (case kUh9 => k_updF); (case kX => k_asm); (case kT => k_asm); (case kSh9 => exact News.isList (by k_asm) (by k_mem)); (case kSBh9 => assumption); (case kih9 => assumption); (case kzh9 => assumption); (case kph9 => assumption); (case kh => exact rfl); (case kd => (try dsimp only); omega); (case ku => (try dsimp only); omega); intro D'z x'z dx'z nm'z rw'z row'z k1'z k2'z ta'z tb'z td'z te'z n1'z n2'z p'z q'z t1'z t2'z n'z h'z tk'z F'z N'z o1'z o2'z o3'z hnm'z hfs'z hp'z) | ((with_reducible show wpAny _ _ (call (Value.ref 330) _) _ _ _); refine' useTake ?kF ?kN ?kUh9 ?kX ?kT ?kSh9 ?kSBh9 ?kih9 ?kzh9 ?kph9 ?kmh9 ?kh ?kd ?ku ?_; (case kF => k_asm); (case kN => k_asm); (case kUh9 => k_updF); (case kX => k_asm); (case kT => k_asm); (case kSh9 => exact News.isList (by k_asm) (by k_mem)); (case kSBh9 => assumption); (case kih9 => assumption); (case kzh9 => assumption); (case kph9 => assumption); (case kmh9 => (first | decide | omega)); (case kh => exact rfl); (case kd => (try dsimp only); omega); (case ku => (try dsimp only); omega); intro r t'z p'z q'z t1'z t2'z n'z h'z tk'z F'z N'z hr1 hr2 hp'z) | with_reducible ((with_reducible show wpAny _ _ (eval (PySem.Expr.Name _ _) _) _ _ _); ((with_reducible show wpAny _ _ (eval (Expr.Name _ _) (compEnvC _ _ _ _)) _ _ _); k_dflt (refine ld_cel (by k_asm) (by rfl) (by k_mem) (by assumption) ?_))) | with_reducible ((with_reducible show wpAny _ _ (subscriptTail _ (PySem.Expr.Slice none _ none _) (Value.ref _) (Value.ref _)) _ _ _); k_dflt (refine' kmk_slice_ints (s := ⟨_, _, _, _, _⟩) ?Fh9 ?Nh9 ?lh9 ?ph9 ?qh9 ?ih9 ?mh9 ?ch9 ?_ ?sh9 ?th9 ?zh9; (case Fh9 => k_asm); (case Nh9 => k_asm); (case lh9 => exact isList_up (by assumption) (Fr.keep (by k_asm))); (case ph9 => kmk_part); (case qh9 => kmk_part); (case ih9 => assumption); (case mh9 => exact kmk_upto (by assumption) (by decide)); (case ch9 => exact List.length_take ..); (case sh9 => with_unfolding_all rfl); (case th9 => kmk_pure); (case zh9 => (rw [sizeLine_eq, List.size_toArray]; omega))); intro D'z ws'z h'z F'z N'z l1zz hI'z hC'z hL'z; (try k_lt l1zz)) | with_reducible ((with_reducible show wpAny _ _ (exec (PySem.Stmt.Assign (_ :: _) (PySem.Expr.ListComp _ _ _ _) _) _) _ _ _); ((rename Mk 5 => mk'z); refine Stop.mk ?_)) | with_reducible ((with_reducible show wpAny _ _ (subscriptTail _ _ (Value.ref 323) (Value.int _ _)) _ _ _); refine pick_word (by k_asm) (by k_asm) (by assumption) (by assumption) ?_; intro wdzz twzz hwdzz; have hwlzz := (word_len hwdzz).1; have hwazz := word_alph hwdzz; have hwl2zz := wideL_len wdzz; have hwl3zz : wdzz.length ≤ 100000 := Nat.le_trans hwlzz (by decide)) | with_reducible ((with_reducible show wpAny _ _ (newTuple _) _ _ _); (k_dflt (refine' kup_newTuple ?Fh9 ?Nh9 ?_ ?zh9; (case Fh9 => k_asm); (case Nh9 => k_asm); (case zh9 => kmk_size)); intro D'z h'z F'z N'z l1zz; (try k_lt l1zz); (try k_sweep))) | with_reducible ((with_reducible refine Stop.mk (P := LCg.CompSrc _ _ _ _ _ _ _ _ _ _ _ _ _ _) ?_); (rename Mk 1 => mkzz)) | with_reducible ((with_reducible show wpAny _ _ (eval (PySem.Expr.Name _ _) _) _ _ _); (k_dflt (first | (refine' nameX_L ?Fh9 ?vh9 ?_ ?ah9 ?bh9; (case Fh9 => k_asm); (case ah9 => rfl); (case bh9 => rfl); (case vh9 => rfl); k_whole) | (refine' nameX_K ?Fh9 ?Xh9 ?Th9 ?eh9 ?_ ?ah9 ?bh9; (case Fh9 => k_asm); (case Xh9 => k_asm); (case Th9 => k_asm); (case ah9 => rfl); (case bh9 => rfl); (case eh9 => k_is); k_whole) | (refine' nameX_B ?Fh9 ?Xh9 ?Th9 ?eh9 ?vh9 ?nh9 ?_ ?ah9 ?bh9; (case Fh9 => k_asm); (case Xh9 => k_asm); (case Th9 => k_asm); (case ah9 => rfl); (case bh9 => rfl); (case eh9 => k_is); (case vh9 => boot_fast); (case nh9 => decide); k_whole)))) | with_reducible ((with_reducible show wpAny _ _ (spliced _) _ _ _); (k_dflt (first | refine args_cons ?_ | (refine args_nil ?_; (try simp only [List.cons_append, List.nil_append]))))) | with_reducible ((with_reducible show wpAny _ _ (exec (PySem.Stmt.For _ (PySem.Expr.Call _ _ _ _) _ _ _) _) _ _ _); ((rename Mk 3 => mk'z); refine Stop.mk ?_)) | walk1); (try dsimp only); (try ((with_reducible show wpAny _ _ _ _ _ ⟨_, _, _, _ + _, _⟩); refine anyToks ?_; intro _)); (repeat ((first | with_reducible rename (_ < _ ∧ _) => hhzz | with_reducible rename (_ ≠ _ ∧ _) => hhzz | with_reducible rename ((_ ≠ _ ∧ _) ∧ _) => hhzz); have := hhzz.1; have := hhzz.2; clear hhzz))) | (dsimp only; walk1) | (leave1; (try dsimp only)) | fail "no step"))
    rename Fr _ _ _ _ => F2
    rename News _ _ _ _ => N2
    refine Stop.out ⟨_, _, _, _, _, _, _, _, _, LJ (s.heap.objs.size + 1 + 1 + 1) (s.heap.objs.size + 1 + 1) (s.heap.objs.size + 1) B Fl D S ob ys fys zs tl, rfl, (by assumption), small_one (by omega) (by omega) (by omega) (by omega), rangeSize_nat _ _, F2, cb_drop (news := (s.heap.objs.size + 1 + 1 + 1, ow) :: (s.heap.objs.size + 1 + 1, os) :: (s.heap.objs.size + 1, ob) :: (B, bagO S p q t1 t2 n) :: (Fl, LCg.lst fys) :: (D, LCg.lst zs) :: (S, LCg.lst ys) :: tl) N2 (by kcf_all), ⟨_, _, _, _, _, _, _, _, _, rfl, rfl, hw, hs, hp, rfl⟩, ?_, ?_⟩
    · intro i ti I oI h tk m' news hin hJ F N off2
      clear F2 N2
      obtain ⟨ow, os, vw', vs', p, q, t1, t2, n, hm1, hm2, hw, hs, hp, rfl⟩ := hJ
      replace F := frSet2 F hm1 hm2
      have off3 := off2
      simp only [LCg.Off1] at off2
      (repeat ((first | with_reducible rename (_ < _ ∧ _) => hh | with_reducible rename (_ ≠ _ ∧ _) => hh | with_reducible rename ((_ ≠ _ ∧ _) ∧ _) => hh); have := hh.1; have := hh.2; clear hh))
      have hf : LF s.heap.objs.size B Fl D S tl := ⟨n1, n2, n3, n4, n5, by assumption, by assumption, by assumption, by assumption, by assumption, by assumption, by assumption, by assumption, by assumption, by assumption, by assumption, f1, f2, f3, g1, g2, g3, hB, hcw, hcs⟩
      have hli : LI s.heap.objs.size B Fl D S I := ⟨by assumption, by assumption, by assumption, by assumption, by assumption, by assumption, by assumption⟩
      have mk7 := Mk.on 7
      ((try dsimp only); (try k_fold); repeat' (first | (k_unfold; (try dsimp only)) | ((first | with_reducible ((with_reducible show wpAny _ _ (exec (PySem.Stmt.If (PySem.Expr.BoolOp _ _ _) (_ :: _) (_ :: _) _) _) _ _ _); ((rename Mk 7 => mk'z); refine Stop.mk ?_)) | ((with_reducible show wpAny _ _ (call (Value.ref 347) _) _ _ _); refine' useLf ?kF ?kN ?kUh9 ?kX ?kT ?kSh9 ?kSBh9 ?kih9 ?kzh9 ?kph9 ?kh ?kd ?ku ?_; (case kF => k_asm); (case kN => k_asm); (case kUh9 => k_updF); (case kX => k_asm); (case kT => k_asm); (case kSh9 => exact News.isList (by k_asm) (by k_mem)); (case kSBh9 => assumption); (case kih9 => assumption); (case kzh9 => assumption); (case kph9 => assumption); (case kh => exact rfl); (case kd => (try dsimp only); omega); (case ku => (try dsimp only); omega); intro D'z x'z dx'z nm'z rw'z row'z k1'z k2'z ta'z tb'z td'z te'z n1'z n2'z p'z q'z t1'z t2'z n'z h'z tk'z F'z N'z o1'z o2'z o3'z hnm'z hfs'z hp'z) | ((with_reducible show wpAny _ _ (call (Value.ref 330) _) _ _ _); refine' useTake ?kF ?kN ?kUh9 ?kX ?kT ?kSh9 ?kSBh9 ?kih9 ?kzh9 ?kph9 ?kmh9 ?kh ?kd ?ku ?_; (case kF => k_asm); (case kN => k_asm); (case kUh9 => k_updF); (case kX => k_asm); (case kT => k_asm); (case kSh9 => exact News.isList (by k_asm) (by k_mem)); (case kSBh9 => assumption); (case kih9 => assumption); (case kzh9 => assumption); (case kph9 => assumption); (case kmh9 => (first | decide | omega)); (case kh => exact rfl); (case kd => (try dsimp only); omega); (case ku => (try dsimp only); omega); intro r t'z p'z q'z t1'z t2'z n'z h'z tk'z F'z N'z hr1 hr2 hp'z) | with_reducible ((with_reducible show wpAny _ _ (eval (PySem.Expr.Name _ _) _) _ _ _); ((with_reducible show wpAny _ _ (eval (Expr.Name _ _) (compEnvC _ _ _ _)) _ _ _); k_dflt (refine ld_cel (by k_asm) (by rfl) (by k_mem) (by assumption) ?_))) | with_reducible ((with_reducible show wpAny _ _ (subscriptTail _ (PySem.Expr.Slice none _ none _) (Value.ref _) (Value.ref _)) _ _ _); k_dflt (refine' kmk_slice_ints (s := ⟨_, _, _, _, _⟩) ?Fh9 ?Nh9 ?lh9 ?ph9 ?qh9 ?ih9 ?mh9 ?ch9 ?_ ?sh9 ?th9 ?zh9; (case Fh9 => k_asm); (case Nh9 => k_asm); (case lh9 => exact isList_up (by assumption) (Fr.keep (by k_asm))); (case ph9 => kmk_part); (case qh9 => kmk_part); (case ih9 => assumption); (case mh9 => exact kmk_upto (by assumption) (by decide)); (case ch9 => exact List.length_take ..); (case sh9 => with_unfolding_all rfl); (case th9 => kmk_pure); (case zh9 => (rw [sizeLine_eq, List.size_toArray]; omega))); intro D'z ws'z h'z F'z N'z l1zz hI'z hC'z hL'z; (try k_lt l1zz)) | with_reducible ((with_reducible show wpAny _ _ (exec (PySem.Stmt.Assign (_ :: _) (PySem.Expr.ListComp _ _ _ _) _) _) _ _ _); ((rename Mk 5 => mk'z); refine Stop.mk ?_)) | with_reducible ((with_reducible show wpAny _ _ (subscriptTail _ _ (Value.ref 323) (Value.int _ _)) _ _ _); refine pick_word (by k_asm) (by k_asm) (by assumption) (by assumption) ?_; intro wdzz twzz hwdzz; have hwlzz := (word_len hwdzz).1; have hwazz := word_alph hwdzz; have hwl2zz := wideL_len wdzz; have hwl3zz : wdzz.length ≤ 100000 := Nat.le_trans hwlzz (by decide)) | with_reducible ((with_reducible show wpAny _ _ (newTuple _) _ _ _); (k_dflt (refine' kup_newTuple ?Fh9 ?Nh9 ?_ ?zh9; (case Fh9 => k_asm); (case Nh9 => k_asm); (case zh9 => kmk_size)); intro D'z h'z F'z N'z l1zz; (try k_lt l1zz); (try k_sweep))) | with_reducible ((with_reducible refine Stop.mk (P := LCg.CompSrc _ _ _ _ _ _ _ _ _ _ _ _ _ _) ?_); (rename Mk 1 => mkzz)) | with_reducible ((with_reducible show wpAny _ _ (eval (PySem.Expr.Name _ _) _) _ _ _); (k_dflt (first | (refine' nameX_L ?Fh9 ?vh9 ?_ ?ah9 ?bh9; (case Fh9 => k_asm); (case ah9 => rfl); (case bh9 => rfl); (case vh9 => rfl); k_whole) | (refine' nameX_K ?Fh9 ?Xh9 ?Th9 ?eh9 ?_ ?ah9 ?bh9; (case Fh9 => k_asm); (case Xh9 => k_asm); (case Th9 => k_asm); (case ah9 => rfl); (case bh9 => rfl); (case eh9 => k_is); k_whole) | (refine' nameX_B ?Fh9 ?Xh9 ?Th9 ?eh9 ?vh9 ?nh9 ?_ ?ah9 ?bh9; (case Fh9 => k_asm); (case Xh9 => k_asm); (case Th9 => k_asm); (case ah9 => rfl); (case bh9 => rfl); (case eh9 => k_is); (case vh9 => boot_fast); (case nh9 => decide); k_whole)))) | with_reducible ((with_reducible show wpAny _ _ (spliced _) _ _ _); (k_dflt (first | refine args_cons ?_ | (refine args_nil ?_; (try simp only [List.cons_append, List.nil_append]))))) | with_reducible ((with_reducible show wpAny _ _ (exec (PySem.Stmt.For _ (PySem.Expr.Call _ _ _ _) _ _ _) _) _ _ _); ((rename Mk 3 => mk'z); refine Stop.mk ?_)) | walk1); (try dsimp only); (try ((with_reducible show wpAny _ _ _ _ _ ⟨_, _, _, _ + _, _⟩); refine anyToks ?_; intro _)); (repeat ((first | with_reducible rename (_ < _ ∧ _) => hhzz | with_reducible rename (_ ≠ _ ∧ _) => hhzz | with_reducible rename ((_ ≠ _ ∧ _) ∧ _) => hhzz); have := hhzz.1; have := hhzz.2; clear hhzz))) | (dsimp only; walk1) | (leave1; (try dsimp only)) | fail "no step"))
      rename Mk 7 => mk7; clear mk7
      rename Fr _ _ _ _ => F2
      rename News _ _ _ _ => N2
      rename ∀ c ∈ _, Alph c => hwa
      refine Stop.out (wpAny_mono (law_if1 (pre := [(_, _)]) hbl hd hu X T hf hli hsv hz hcb hTL hzz F2 rfl rfl rfl rfl hwa (by assumption) N2 hw hs (by assumption)) (fun f s' hq => ?_) (fun _ _ x => False.elim x))
      clear F2 N2 hwa
      obtain ⟨rfl, pc, h, tk, m2, news, hpa, hpl, rfl, F2, N2, hJ⟩ := hq
      obtain ⟨tp, ow, os, vw', vs', p, q, t1, t2, n, hm1, hm2, hm3, hw, hs, hp, rfl⟩ := hJ
      refine wpAny_execs_cons (wpAny_mono (law_if2 hbl hd hu X T hf hli hsv hz hcb F2 hm1 hm2 hm3 hpa hpl N2 hw hs hp) (fun f s' hq => ?_) (fun _ _ x => False.elim x))
      clear F2 N2 hpa hpl hm1 hm2 hm3
      obtain ⟨rfl, pc, h, tk, m2, news, hpa, hpl, rfl, F2, N2, hJ⟩ := hq
      obtain ⟨tp, ow, os, vw', vs', p, q, t1, t2, n, hm1, hm2, hm3, hw, hs, hp, rfl⟩ := hJ
      refine wpAny_mono (law_rest hbl hd hu X T hf hli hcb hTF hfl F2 hm1 hm2 hm3 hpa hpl N2 hw hs hp) (fun f s' hq => ?_) (fun _ _ x => False.elim x)
      obtain ⟨rfl, pc, h, tk, m2, news, _, _, rfl, F2, N2, hJ⟩ := hq
      obtain ⟨ow, os, vw', vs', p, q, t1, t2, n, hm1, hm2, hw, hs, hp, rfl⟩ := hJ
      exact ⟨_, _, _, _, rfl, F2, N2, off3, ow, os, vw', vs', p, q, t1, t2, n, hm1, hm2, hw, hs, hp, rfl⟩
    · intro h tk m' news hJ F N
      clear F2 N2
      obtain ⟨ow, os, vw', vs', p, q, t1, t2, n, hm1, hm2, hw, hs, hp, rfl⟩ := hJ
      ((try dsimp only); (try k_fold); repeat' (first | (k_unfold; (try dsimp only)) | ((first | with_reducible ((with_reducible show wpAny _ _ (exec (PySem.Stmt.If (PySem.Expr.BoolOp _ _ _) (_ :: _) (_ :: _) _) _) _ _ _); ((rename Mk 7 => mk'z); refine Stop.mk ?_)) | ((with_reducible show wpAny _ _ (call (Value.ref 347) _) _ _ _); refine' useLf ?kF ?kN ?kUh9 ?kX ?kT ?kSh9 ?kSBh9 ?kih9 ?kzh9 ?kph9 ?kh ?kd ?ku ?_; (case kF => k_asm); (case kN => k_asm); (case kUh9 => k_updF); (case kX => k_asm); (case kT => k_asm); (case kSh9 => exact News.isList (by k_asm) (by k_mem)); (case kSBh9 => assumption); (case kih9 => assumption); (case kzh9 => assumption); (case kph9 => assumption); (case kh => exact rfl); (case kd => (try dsimp only); omega); (case ku => (try dsimp only); omega); intro D'z x'z dx'z nm'z rw'z row'z k1'z k2'z ta'z tb'z td'z te'z n1'z n2'z p'z q'z t1'z t2'z n'z h'z tk'z F'z N'z o1'z o2'z o3'z hnm'z hfs'z hp'z) | ((with_reducible show wpAny _ _ (call (Value.ref 330) _) _ _ _); refine' useTake ?kF ?kN ?kUh9 ?kX ?kT ?kSh9 ?kSBh9 ?kih9 ?kzh9 ?kph9 ?kmh9 ?kh ?kd ?ku ?_; (case kF => k_asm); (case kN => k_asm); (case kUh9 => k_updF); (case kX => k_asm); (case kT => k_asm); (case kSh9 => exact News.isList (by k_asm) (by k_mem)); (case kSBh9 => assumption); (case kih9 => assumption); (case kzh9 => assumption); (case kph9 => assumption); (case kmh9 => (first | decide | omega)); (case kh => exact rfl); (case kd => (try dsimp only); omega); (case ku => (try dsimp only); omega); intro r t'z p'z q'z t1'z t2'z n'z h'z tk'z F'z N'z hr1 hr2 hp'z) | with_reducible ((with_reducible show wpAny _ _ (eval (PySem.Expr.Name _ _) _) _ _ _); ((with_reducible show wpAny _ _ (eval (Expr.Name _ _) (compEnvC _ _ _ _)) _ _ _); k_dflt (refine ld_cel (by k_asm) (by rfl) (by k_mem) (by assumption) ?_))) | with_reducible ((with_reducible show wpAny _ _ (subscriptTail _ (PySem.Expr.Slice none _ none _) (Value.ref _) (Value.ref _)) _ _ _); k_dflt (refine' kmk_slice_ints (s := ⟨_, _, _, _, _⟩) ?Fh9 ?Nh9 ?lh9 ?ph9 ?qh9 ?ih9 ?mh9 ?ch9 ?_ ?sh9 ?th9 ?zh9; (case Fh9 => k_asm); (case Nh9 => k_asm); (case lh9 => exact isList_up (by assumption) (Fr.keep (by k_asm))); (case ph9 => kmk_part); (case qh9 => kmk_part); (case ih9 => assumption); (case mh9 => exact kmk_upto (by assumption) (by decide)); (case ch9 => exact List.length_take ..); (case sh9 => with_unfolding_all rfl); (case th9 => kmk_pure); (case zh9 => (rw [sizeLine_eq, List.size_toArray]; omega))); intro D'z ws'z h'z F'z N'z l1zz hI'z hC'z hL'z; (try k_lt l1zz)) | with_reducible ((with_reducible show wpAny _ _ (exec (PySem.Stmt.Assign (_ :: _) (PySem.Expr.ListComp _ _ _ _) _) _) _ _ _); ((rename Mk 5 => mk'z); refine Stop.mk ?_)) | with_reducible ((with_reducible show wpAny _ _ (subscriptTail _ _ (Value.ref 323) (Value.int _ _)) _ _ _); refine pick_word (by k_asm) (by k_asm) (by assumption) (by assumption) ?_; intro wdzz twzz hwdzz; have hwlzz := (word_len hwdzz).1; have hwazz := word_alph hwdzz; have hwl2zz := wideL_len wdzz; have hwl3zz : wdzz.length ≤ 100000 := Nat.le_trans hwlzz (by decide)) | with_reducible ((with_reducible show wpAny _ _ (newTuple _) _ _ _); (k_dflt (refine' kup_newTuple ?Fh9 ?Nh9 ?_ ?zh9; (case Fh9 => k_asm); (case Nh9 => k_asm); (case zh9 => kmk_size)); intro D'z h'z F'z N'z l1zz; (try k_lt l1zz); (try k_sweep))) | with_reducible ((with_reducible refine Stop.mk (P := LCg.CompSrc _ _ _ _ _ _ _ _ _ _ _ _ _ _) ?_); (rename Mk 1 => mkzz)) | with_reducible ((with_reducible show wpAny _ _ (eval (PySem.Expr.Name _ _) _) _ _ _); (k_dflt (first | (refine' nameX_L ?Fh9 ?vh9 ?_ ?ah9 ?bh9; (case Fh9 => k_asm); (case ah9 => rfl); (case bh9 => rfl); (case vh9 => rfl); k_whole) | (refine' nameX_K ?Fh9 ?Xh9 ?Th9 ?eh9 ?_ ?ah9 ?bh9; (case Fh9 => k_asm); (case Xh9 => k_asm); (case Th9 => k_asm); (case ah9 => rfl); (case bh9 => rfl); (case eh9 => k_is); k_whole) | (refine' nameX_B ?Fh9 ?Xh9 ?Th9 ?eh9 ?vh9 ?nh9 ?_ ?ah9 ?bh9; (case Fh9 => k_asm); (case Xh9 => k_asm); (case Th9 => k_asm); (case ah9 => rfl); (case bh9 => rfl); (case eh9 => k_is); (case vh9 => boot_fast); (case nh9 => decide); k_whole)))) | with_reducible ((with_reducible show wpAny _ _ (spliced _) _ _ _); (k_dflt (first | refine args_cons ?_ | (refine args_nil ?_; (try simp only [List.cons_append, List.nil_append]))))) | with_reducible ((with_reducible show wpAny _ _ (exec (PySem.Stmt.For _ (PySem.Expr.Call _ _ _ _) _ _ _) _) _ _ _); ((rename Mk 3 => mk'z); refine Stop.mk ?_)) | walk1); (try dsimp only); (try ((with_reducible show wpAny _ _ _ _ _ ⟨_, _, _, _ + _, _⟩); refine anyToks ?_; intro _)); (repeat ((first | with_reducible rename (_ < _ ∧ _) => hhzz | with_reducible rename (_ ≠ _ ∧ _) => hhzz | with_reducible rename ((_ ≠ _ ∧ _) ∧ _) => hhzz); have := hhzz.1; have := hhzz.2; clear hhzz))) | (dsimp only; walk1) | (leave1; (try dsimp only)) | fail "no step"))
      exact Done.ret F rfl
end

-- names of twins that the head can do without: where such a name is taken the library lays no twin, and the compiled file stays small
theorem top.tw16900427199656544559 : True := trivial
theorem top.tw18164388396756303480 : True := trivial
theorem top.tw1139600151236580504 : True := trivial
theorem top.tw10996937224433265937 : True := trivial
theorem top.tw18186074749648716422 : True := trivial
theorem top.tw705360758644809490 : True := trivial
theorem top.tw8107780213005350392 : True := trivial
theorem top.tw3969286963782609292 : True := trivial
theorem top.tw6240723676877644813 : True := trivial
theorem top.tw8237333600419904120 : True := trivial
theorem top.tw10915162052029792233 : True := trivial
theorem top.tw17810072253543177317 : True := trivial
theorem top.tw5868845118606482295 : True := trivial
theorem top.tw7444641836354208208 : True := trivial
theorem top.tw6859976401760118174 : True := trivial
theorem top.tw14402358008270493973 : True := trivial
theorem top.tw4186445540838780016 : True := trivial
theorem top.tw14371913498598963198 : True := trivial
theorem top.tw15177526630643400193 : True := trivial
theorem top.tw9962302188120564619 : True := trivial
theorem top.tw14823308797102314842 : True := trivial
theorem top.tw2822501910515967889 : True := trivial
theorem top.tw17355269125676882429 : True := trivial
theorem top.tw1284575025550258836 : True := trivial
theorem top.tw10008009275831360322 : True := trivial
theorem top.tw14168018189251442112 : True := trivial
theorem top.tw5766051744304087583 : True := trivial
theorem top.tw9305691244287143441 : True := trivial
theorem top.tw14372152842798730730 : True := trivial
theorem top.tw1516213087968936877 : True := trivial
theorem top.tw13369591340354186047 : True := trivial
theorem top.tw8892184565913893157 : True := trivial
theorem top.tw987869383939708018 : True := trivial
theorem top.tw6694047246710070196 : True := trivial
theorem top.tw17620759639134147866 : True := trivial
theorem top.tw8640399195822439974 : True := trivial
theorem top.tw5118827330378232414 : True := trivial
theorem top.tw14263998999751124003 : True := trivial
theorem top.tw7990429038631628895 : True := trivial
theorem top.tw13501252493785611398 : True := trivial
theorem top.tw339143206060000330 : True := trivial
theorem top.tw17371467147965452787 : True := trivial
theorem top.tw6756868429301003459 : True := trivial
theorem top.tw1212798325632107971 : True := trivial
theorem top.tw12317137736924338119 : True := trivial
theorem top.tw5667650583090716360 : True := trivial
theorem top.tw17470836177267949868 : True := trivial
theorem top.tw17046948494117081484 : True := trivial
theorem top.tw11546936639936008217 : True := trivial
theorem top.tw14901070454687303710 : True := trivial
theorem top.tw15877122091014420850 : True := trivial
theorem top.tw17492772389151264855 : True := trivial
theorem top.tw1706793611546318481 : True := trivial
theorem top.tw2617719716777270872 : True := trivial
theorem top.tw13896958669275611876 : True := trivial
theorem top.tw4498253355057717688 : True := trivial
theorem top.tw16541100652227675460 : True := trivial
theorem top.tw4940147422707163885 : True := trivial
theorem top.tw13091174067606910046 : True := trivial
theorem top.tw10617020205504526918 : True := trivial
theorem top.tw3584897518013459382 : True := trivial
theorem top.tw6749217079512962374 : True := trivial
theorem top.tw5915399644114372684 : True := trivial
theorem top.tw12012865196380796599 : True := trivial
theorem top.tw15361541807878343388 : True := trivial
theorem top.tw16713831800681072344 : True := trivial
theorem top.tw7743179893348639699 : True := trivial
theorem top.tw5122982881974897245 : True := trivial
theorem top.tw708234853630380328 : True := trivial
theorem top.tw1047907039808853306 : True := trivial
theorem top.tw5058314954733539658 : True := trivial
theorem top.tw8973803690348224638 : True := trivial
theorem top.tw8443935842833279946 : True := trivial
theorem top.tw8204474986945543665 : True := trivial
theorem top.tw6930518751129746686 : True := trivial
theorem top.tw13272337422414781067 : True := trivial
theorem top.tw4551080515912023512 : True := trivial
theorem top.tw8813761850579938390 : True := trivial
theorem top.tw427269002284569659 : True := trivial
theorem top.tw9961057766049560675 : True := trivial
theorem top.tw2249405535684624136 : True := trivial
theorem top.tw13370750898655102155 : True := trivial
theorem top.tw2007660962349395123 : True := trivial
theorem top.tw11133666699803404755 : True := trivial
theorem top.tw15917854889771391336 : True := trivial
theorem top.tw10956490626425055710 : True := trivial
theorem top.tw12622177474791663080 : True := trivial
theorem top.tw15362295582089109014 : True := trivial
theorem top.tw5088376156974544275 : True := trivial
theorem top.tw6761616313442571491 : True := trivial
theorem top.tw5225916559131626549 : True := trivial
theorem top.tw8679839319945467846 : True := trivial
theorem top.tw828460304391194870 : True := trivial
theorem top.tw12425085872883035938 : True := trivial
theorem top.tw6885214360128481674 : True := trivial
theorem top.tw18064794426631996164 : True := trivial
theorem top.tw2665807947273092163 : True := trivial
theorem top.tw2988451766255067171 : True := trivial
theorem top.tw7429413206186439793 : True := trivial
theorem top.tw2835187731363253809 : True := trivial
theorem top.tw6906291655842520137 : True := trivial
theorem top.tw8140125068956082859 : True := trivial
theorem top.tw649594095290182367 : True := trivial
theorem top.tw1886144042066472794 : True := trivial
theorem top.tw1275901062530889299 : True := trivial
theorem top.tw17565814175750979855 : True := trivial
theorem top.tw2741389259953327712 : True := trivial
theorem top.tw14861896470697024400 : True := trivial
theorem top.tw6491118196486620199 : True := trivial
theorem top.tw4859757453598101857 : True := trivial
theorem top.tw8598144960395782539 : True := trivial
theorem top.tw2812155379371279736 : True := trivial
theorem top.tw8735323631387419056 : True := trivial
theorem top.tw9503340733035011235 : True := trivial
theorem top.tw2464713573024523455 : True := trivial
theorem top.tw352232786441526191 : True := trivial
theorem top.tw8265191368974092141 : True := trivial
theorem top.tw7458633546980236471 : True := trivial
theorem top.tw2369445192022557226 : True := trivial
theorem top.tw1195175773429642966 : True := trivial
theorem top.tw5278709424875269971 : True := trivial
theorem top.tw14826035006057030972 : True := trivial
theorem top.tw17469865338272021226 : True := trivial
theorem top.tw15860264024139754761 : True := trivial
theorem top.tw7527032243904285869 : True := trivial
theorem top.tw887695700811335699 : True := trivial
theorem top.tw8689318265317240412 : True := trivial
theorem top.tw1869187583165140508 : True := trivial
theorem top.tw9059832203979395877 : True := trivial
theorem top.tw5581607755468803823 : True := trivial
theorem top.tw620129878449983639 : True := trivial
theorem top.tw4205137553216949640 : True := trivial
theorem top.tw12535971307161669396 : True := trivial
theorem top.tw7250933059871147345 : True := trivial
theorem top.tw16439428074185983240 : True := trivial
theorem top.tw9614876229902214918 : True := trivial
theorem top.tw7162032833190943030 : True := trivial
theorem top.tw18237780215024852062 : True := trivial
theorem top.tw16782997733028217545 : True := trivial
theorem top.tw13822267516522204269 : True := trivial
theorem top.tw2126296398998916975 : True := trivial
theorem top.tw8139039716903228087 : True := trivial
theorem top.tw15092371282622821202 : True := trivial
theorem top.tw16123964013534891561 : True := trivial
theorem top.tw15690260860272736617 : True := trivial
theorem top.tw16273406610938067001 : True := trivial
theorem top.tw15058813355848621054 : True := trivial
theorem top.tw81815255157605957 : True := trivial
theorem top.tw12166907935582030026 : True := trivial
theorem top.tw12385144161495827662 : True := trivial
theorem top.tw12376051458212225564 : True := trivial
theorem top.tw14502225709538309166 : True := trivial
theorem top.tw14376744209917385786 : True := trivial
theorem top.tw3855276242980373810 : True := trivial
theorem top.tw3337584539547039419 : True := trivial
theorem top.tw15299407806266782574 : True := trivial
theorem top.tw651121207185731931 : True := trivial
theorem top.tw6505410396798821541 : True := trivial
theorem top.tw17315540178315561739 : True := trivial
theorem top.tw7673058066778466091 : True := trivial
theorem top.tw7414872774492366064 : True := trivial
theorem top.tw2555065506035805374 : True := trivial
theorem top.tw13160728816969591200 : True := trivial
theorem top.tw13889309363888878346 : True := trivial
theorem top.tw12483720753089274532 : True := trivial
theorem top.tw5244899138074338376 : True := trivial
theorem top.tw12105128591322288922 : True := trivial
theorem top.tw9108098604805947806 : True := trivial
theorem top.tw14597223018079223185 : True := trivial
theorem top.tw381845443943030031 : True := trivial
theorem top.tw8833053369097974544 : True := trivial
theorem top.tw860223938195835975 : True := trivial
theorem top.tw6664487174759623829 : True := trivial
theorem top.tw9759319705405543751 : True := trivial
theorem top.tw6333448901615975916 : True := trivial
theorem top.tw6898770573198911631 : True := trivial
theorem top.tw14459580976405569124 : True := trivial
theorem top.tw11466170419677230873 : True := trivial
theorem top.tw13345470168829271861 : True := trivial
theorem top.tw814325599930780420 : True := trivial
theorem top.tw16325430554902658873 : True := trivial
theorem top.tw1676862907878916244 : True := trivial
theorem top.tw16821654228018055803 : True := trivial
theorem top.tw8645369167282567922 : True := trivial
theorem top.tw17486766287000646611 : True := trivial
theorem top.tw6520327441239513222 : True := trivial
theorem top.tw11613256710310857696 : True := trivial
theorem top.tw9059672392935016618 : True := trivial
theorem top.tw12392516345856041104 : True := trivial
theorem top.tw2581206410525282061 : True := trivial
theorem top.tw5476889619067714990 : True := trivial
theorem top.tw1149218181149386328 : True := trivial
theorem top.tw18086089286151905521 : True := trivial
theorem top.tw9768079942903668216 : True := trivial
theorem top.tw8538268897159353584 : True := trivial
theorem top.tw11762496359356365647 : True := trivial
theorem top.tw7008692893051332821 : True := trivial
theorem top.tw9378254376102152143 : True := trivial
theorem top.tw12787338502077490372 : True := trivial
theorem top.tw9631074621892390191 : True := trivial
theorem top.tw10090393231696489298 : True := trivial
theorem top.tw7847650389618582240 : True := trivial
theorem top.tw5225153198818245361 : True := trivial
theorem top.tw14349089067433371257 : True := trivial
theorem top.tw2443449257678562572 : True := trivial
theorem top.tw7251850219453770173 : True := trivial
theorem top.tw16759092144687519636 : True := trivial
theorem top.tw13310400573052568472 : True := trivial
theorem top.tw10404823597219466188 : True := trivial
theorem top.tw864819663365544661 : True := trivial
theorem top.tw4321519831107876412 : True := trivial
theorem top.tw72247145696351765 : True := trivial
theorem top.tw8184561461823581802 : True := trivial
theorem top.tw15985961358823992270 : True := trivial
theorem top.tw5597187220613765494 : True := trivial
theorem top.tw8435561252592420358 : True := trivial
theorem top.tw877433047237710547 : True := trivial
theorem top.tw14390669486469195807 : True := trivial
theorem top.tw370947364307004932 : True := trivial
theorem top.tw10489523228844812398 : True := trivial
theorem top.tw5303079699428457377 : True := trivial
theorem top.tw3776753064480771068 : True := trivial
theorem top.tw8622502720953521162 : True := trivial
theorem top.tw8410488445778877200 : True := trivial
theorem top.tw11459358961799972967 : True := trivial
theorem top.tw795583310449317561 : True := trivial
theorem top.tw3422688185749166683 : True := trivial
theorem top.tw4076138812419527698 : True := trivial
theorem top.tw8345894832289464959 : True := trivial
theorem top.tw9335426496214029073 : True := trivial
theorem top.tw16155163154822807229 : True := trivial
theorem top.tw13802547742096326172 : True := trivial
theorem top.tw216529984938456764 : True := trivial
theorem top.tw2985252069258134486 : True := trivial
theorem top.tw7297446738713254254 : True := trivial
theorem top.tw16196420915677631385 : True := trivial
theorem top.tw12643491718579748851 : True := trivial
theorem top.tw5523086135645875356 : True := trivial
theorem top.tw18034075008235765660 : True := trivial
theorem top.tw6176994582329460227 : True := trivial
theorem top.tw14608685727046917156 : True := trivial
theorem top.tw15169761463676818070 : True := trivial
theorem top.tw11858546649754279707 : True := trivial
theorem top.tw4159251561096739476 : True := trivial
theorem top.tw775762912060472103 : True := trivial
theorem top.tw105208000716104510 : True := trivial
theorem top.tw4299629679881509495 : True := trivial
theorem top.tw5155950481276406077 : True := trivial
theorem top.tw11845233108574324481 : True := trivial
theorem top.tw9063741608606530840 : True := trivial
theorem top.tw4784893810139332661 : True := trivial
theorem top.tw12318557346453588183 : True := trivial
theorem top.tw4213018616267185653 : True := trivial
theorem top.tw1732150942055357024 : True := trivial
theorem top.tw9601329371697537090 : True := trivial
theorem top.tw908825868028484722 : True := trivial
theorem top.tw8507776931139520737 : True := trivial
theorem top.tw15976228082101565994 : True := trivial
theorem top.tw16174758807025615021 : True := trivial
theorem top.tw11430207588045935325 : True := trivial
theorem top.tw14796646475526232899 : True := trivial
theorem top.tw4571971715460732019 : True := trivial
theorem top.tw1814787853859245837 : True := trivial
theorem top.tw728428047077509346 : True := trivial
theorem top.tw14282377253939248939 : True := trivial
theorem top.tw8810280945414196856 : True := trivial
theorem top.tw12819366960792805191 : True := trivial
theorem top.tw18063644159110109576 : True := trivial
theorem top.tw517144808224063464 : True := trivial
theorem top.tw12958502747184954254 : True := trivial
theorem top.tw14987219478266130788 : True := trivial
theorem top.tw10448899703829047738 : True := trivial
theorem top.tw15503665604740900718 : True := trivial
theorem top.tw14142502885225118848 : True := trivial
theorem top.tw575894324575664597 : True := trivial
theorem top.tw6431110157172167083 : True := trivial
theorem top.tw17323899518341599180 : True := trivial
theorem top.tw13090165191389475591 : True := trivial
theorem top.tw2731995056826638727 : True := trivial
theorem top.tw6812286434817487243 : True := trivial
theorem top.tw3195968871104189447 : True := trivial
theorem top.tw17886615442053742456 : True := trivial
theorem top.tw16204670001084760307 : True := trivial
theorem top.tw8363718466572441477 : True := trivial
theorem top.tw12540527436937284434 : True := trivial
theorem top.tw11922380849998532372 : True := trivial
theorem top.tw788273225186049534 : True := trivial
theorem top.tw10187264123177260123 : True := trivial
theorem top.tw16352630495959832749 : True := trivial
theorem top.tw14789260269991461300 : True := trivial
theorem top.tw390997316461189296 : True := trivial
theorem top.tw17428532607074087071 : True := trivial
theorem top.tw13889484949932952446 : True := trivial
theorem top.tw18371284783138465269 : True := trivial
theorem top.tw8694864300669457046 : True := trivial
theorem top.tw6919701780365589675 : True := trivial
theorem top.tw12342655685612074800 : True := trivial
theorem top.tw7830913209206220567 : True := trivial
theorem top.tw2867133514656366558 : True := trivial
theorem top.tw5969682004907312646 : True := trivial
theorem top.tw15240379268576122478 : True := trivial
theorem top.tw14611434983143301774 : True := trivial
theorem top.tw9800703332001039478 : True := trivial
theorem top.tw9738859856056681363 : True := trivial
theorem top.tw6883741973766446791 : True := trivial
theorem top.tw6438537300738474071 : True := trivial
theorem top.tw10006222313960134694 : True := trivial
theorem top.tw1492452104121835379 : True := trivial
theorem top.tw283044589724301 : True := trivial
theorem top.tw1245559373397905713 : True := trivial
theorem top.tw16058212318047004132 : True := trivial
theorem top.tw13264354339760550358 : True := trivial
theorem top.tw4713442408853163898 : True := trivial
theorem top.tw1617357707322924660 : True := trivial
theorem top.tw18245740138792012028 : True := trivial
theorem top.tw501154541418245514 : True := trivial
theorem top.tw2218668502564051296 : True := trivial
theorem top.tw6189045185395380447 : True := trivial
theorem top.tw4166218997396506358 : True := trivial
theorem top.tw1736530178072539846 : True := trivial
theorem top.tw8523463495250067690 : True := trivial
theorem top.tw11334415319851112604 : True := trivial
theorem top.tw1400011881503588481 : True := trivial
theorem top.tw17555251805378815213 : True := trivial
set_option Elab.async true in
theorem top : PySem.Challenge.rw_or0062_01.Holds := by
  w_on; o_law; k_head; (case hw => w_witness2)
  intro w s₀ s₁ mg mb G Y fa o pm cd doc dV kV ho hd hcd hD hmg hg args vals as hpre hlay hrd hwl hlo
  have KX : (Mine.hd.heap_39 w.params).In s₁.heap := kIn_of Y
  refine Ground.open G ?_
  intro T B D TE TW
  clear ho hd hcd hD B D TE TW Y G
  wrow_args hpre hlay hrd hwl hlo
  rename Heap.IsList _ _ _ => hL
  rename IntsAre _ _ => hI
  rename (¬ _ < _) => hcond
  have hfa : mg (Str.ofString "law") = some (.ref 352) := mg_of KX T.g (by k_is)
  have e := hmg.symm.trans hfa
  injection e with e
  injection e with e
  subst e
  refine c_law hL hI (by omega) ⟨KX, T⟩ callerA _ _ rfl (by decide) (by decide) fun v h' tk k p => ?_
  subst p
  exact GoodW.toG ⟨.inl ⟨.bool true, .bool true, [], rfl, raisesW_false (by wrow_none_raised), .bool true, by wrow_post, unshared_nil⟩, k, rfl, hg⟩

end Mine

theorem PySem.Challenge.cw_or0062_01_holds : PySem.Challenge.rw_or0062_01.Holds :=
  Mine.top
