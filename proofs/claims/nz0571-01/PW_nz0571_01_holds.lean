import PyProof.Rows.All
import Wide.All
import OpenK.AllK
import Wide.FinOn
import PySem.Challenge.RW_nz0571_01
open PySem PySem.W PyProof.Rows
set_option Elab.async false
set_option compiler.extract_closed false
set_option linter.all false
namespace Mine
noncomputable abbrev PW : Program := PySem.Challenge.pw_nz0571_01
noncomputable def view : Program := { PW with main := { PW.main with body := PW.main.body.drop 2 } }
noncomputable abbrev loose : List Str := [Str.ofString "WORDS", Str.ofString "SIGNS"]
noncomputable def fdOf : Option Stmt → Arguments × List Stmt × Scope
  | some (.FunctionDef _ a b _ _ _ s _ _ _) => (a, b, s)
  | _ => (⟨[], [], none, [], [], none, []⟩, [], PW.main.scope)
noncomputable def fdAt (i : Nat) : Arguments × List Stmt × Scope := fdOf PW.main.body[i]?
noncomputable def fdIn (i : Nat) : Arguments × List Stmt × Scope := fdOf (match PW.main.body[i]? with | some (.ClassDef _ _ _ b _ _ _ _ _ _ _) => b.head? | _ => none)
set_option maxRecDepth 100000

noncomputable def fA30 : Arguments := (fun (b : Arguments) (_ : b = (fdIn 14).1) => b) _ (by conv => rhs; whnf)
noncomputable def fB30 : List Stmt := (fun (b : List Stmt) (_ : b = (fdIn 14).2.1) => b) _ (by conv => rhs; whnf)
noncomputable def fS30 : Scope := (fun (b : Scope) (_ : b = (fdIn 14).2.2) => b) _ (by conv => rhs; whnf)
noncomputable def fA43 : Arguments := (fun (b : Arguments) (_ : b = (fdAt 15).1) => b) _ (by conv => rhs; whnf)
noncomputable def fB43 : List Stmt := (fun (b : List Stmt) (_ : b = (fdAt 15).2.1) => b) _ (by conv => rhs; whnf)
noncomputable def fS43 : Scope := (fun (b : Scope) (_ : b = (fdAt 15).2.2) => b) _ (by conv => rhs; whnf)
noncomputable def fA48 : Arguments := (fun (b : Arguments) (_ : b = (fdAt 16).1) => b) _ (by conv => rhs; whnf)
noncomputable def fB48 : List Stmt := (fun (b : List Stmt) (_ : b = (fdAt 16).2.1) => b) _ (by conv => rhs; whnf)
noncomputable def fS48 : Scope := (fun (b : Scope) (_ : b = (fdAt 16).2.2) => b) _ (by conv => rhs; whnf)
noncomputable def fA55 : Arguments := (fun (b : Arguments) (_ : b = (fdAt 17).1) => b) _ (by conv => rhs; whnf)
noncomputable def fB55 : List Stmt := (fun (b : List Stmt) (_ : b = (fdAt 17).2.1) => b) _ (by conv => rhs; whnf)
noncomputable def fS55 : Scope := (fun (b : Scope) (_ : b = (fdAt 17).2.2) => b) _ (by conv => rhs; whnf)
noncomputable def fA62 : Arguments := (fun (b : Arguments) (_ : b = (fdAt 18).1) => b) _ (by conv => rhs; whnf)
noncomputable def fB62 : List Stmt := (fun (b : List Stmt) (_ : b = (fdAt 18).2.1) => b) _ (by conv => rhs; whnf)
noncomputable def fS62 : Scope := (fun (b : Scope) (_ : b = (fdAt 18).2.2) => b) _ (by conv => rhs; whnf)
noncomputable def fA69 : Arguments := (fun (b : Arguments) (_ : b = (fdAt 19).1) => b) _ (by conv => rhs; whnf)
noncomputable def fB69 : List Stmt := (fun (b : List Stmt) (_ : b = (fdAt 19).2.1) => b) _ (by conv => rhs; whnf)
noncomputable def fS69 : Scope := (fun (b : Scope) (_ : b = (fdAt 19).2.2) => b) _ (by conv => rhs; whnf)
noncomputable def fA76 : Arguments := (fun (b : Arguments) (_ : b = (fdAt 20).1) => b) _ (by conv => rhs; whnf)
noncomputable def fB76 : List Stmt := (fun (b : List Stmt) (_ : b = (fdAt 20).2.1) => b) _ (by conv => rhs; whnf)
noncomputable def fS76 : Scope := (fun (b : Scope) (_ : b = (fdAt 20).2.2) => b) _ (by conv => rhs; whnf)
noncomputable def fA83 : Arguments := (fun (b : Arguments) (_ : b = (fdAt 21).1) => b) _ (by conv => rhs; whnf)
noncomputable def fB83 : List Stmt := (fun (b : List Stmt) (_ : b = (fdAt 21).2.1) => b) _ (by conv => rhs; whnf)
noncomputable def fS83 : Scope := (fun (b : Scope) (_ : b = (fdAt 21).2.2) => b) _ (by conv => rhs; whnf)
noncomputable def fA90 : Arguments := (fun (b : Arguments) (_ : b = (fdAt 22).1) => b) _ (by conv => rhs; whnf)
noncomputable def fB90 : List Stmt := (fun (b : List Stmt) (_ : b = (fdAt 22).2.1) => b) _ (by conv => rhs; whnf)
noncomputable def fS90 : Scope := (fun (b : Scope) (_ : b = (fdAt 22).2.2) => b) _ (by conv => rhs; whnf)
noncomputable def fA97 : Arguments := (fun (b : Arguments) (_ : b = (fdAt 23).1) => b) _ (by conv => rhs; whnf)
noncomputable def fB97 : List Stmt := (fun (b : List Stmt) (_ : b = (fdAt 23).2.1) => b) _ (by conv => rhs; whnf)
noncomputable def fS97 : Scope := (fun (b : Scope) (_ : b = (fdAt 23).2.2) => b) _ (by conv => rhs; whnf)
noncomputable def fA104 : Arguments := (fun (b : Arguments) (_ : b = (fdAt 24).1) => b) _ (by conv => rhs; whnf)
noncomputable def fB104 : List Stmt := (fun (b : List Stmt) (_ : b = (fdAt 24).2.1) => b) _ (by conv => rhs; whnf)
noncomputable def fS104 : Scope := (fun (b : Scope) (_ : b = (fdAt 24).2.2) => b) _ (by conv => rhs; whnf)
noncomputable def fA111 : Arguments := (fun (b : Arguments) (_ : b = (fdAt 25).1) => b) _ (by conv => rhs; whnf)
noncomputable def fB111 : List Stmt := (fun (b : List Stmt) (_ : b = (fdAt 25).2.1) => b) _ (by conv => rhs; whnf)
noncomputable def fS111 : Scope := (fun (b : Scope) (_ : b = (fdAt 25).2.2) => b) _ (by conv => rhs; whnf)
noncomputable def fA118 : Arguments := (fun (b : Arguments) (_ : b = (fdAt 26).1) => b) _ (by conv => rhs; whnf)
noncomputable def fB118 : List Stmt := (fun (b : List Stmt) (_ : b = (fdAt 26).2.1) => b) _ (by conv => rhs; whnf)
noncomputable def fS118 : Scope := (fun (b : Scope) (_ : b = (fdAt 26).2.2) => b) _ (by conv => rhs; whnf)
noncomputable def fA125 : Arguments := (fun (b : Arguments) (_ : b = (fdAt 27).1) => b) _ (by conv => rhs; whnf)
noncomputable def fB125 : List Stmt := (fun (b : List Stmt) (_ : b = (fdAt 27).2.1) => b) _ (by conv => rhs; whnf)
noncomputable def fS125 : Scope := (fun (b : Scope) (_ : b = (fdAt 27).2.2) => b) _ (by conv => rhs; whnf)
noncomputable def fA132 : Arguments := (fun (b : Arguments) (_ : b = (fdAt 28).1) => b) _ (by conv => rhs; whnf)
noncomputable def fB132 : List Stmt := (fun (b : List Stmt) (_ : b = (fdAt 28).2.1) => b) _ (by conv => rhs; whnf)
noncomputable def fS132 : Scope := (fun (b : Scope) (_ : b = (fdAt 28).2.2) => b) _ (by conv => rhs; whnf)
noncomputable def fA139 : Arguments := (fun (b : Arguments) (_ : b = (fdAt 29).1) => b) _ (by conv => rhs; whnf)
noncomputable def fB139 : List Stmt := (fun (b : List Stmt) (_ : b = (fdAt 29).2.1) => b) _ (by conv => rhs; whnf)
noncomputable def fS139 : Scope := (fun (b : Scope) (_ : b = (fdAt 29).2.2) => b) _ (by conv => rhs; whnf)
noncomputable def fA146 : Arguments := (fun (b : Arguments) (_ : b = (fdAt 30).1) => b) _ (by conv => rhs; whnf)
noncomputable def fB146 : List Stmt := (fun (b : List Stmt) (_ : b = (fdAt 30).2.1) => b) _ (by conv => rhs; whnf)
noncomputable def fS146 : Scope := (fun (b : Scope) (_ : b = (fdAt 30).2.2) => b) _ (by conv => rhs; whnf)
noncomputable def fA151 : Arguments := (fun (b : Arguments) (_ : b = (fdAt 31).1) => b) _ (by conv => rhs; whnf)
noncomputable def fB151 : List Stmt := (fun (b : List Stmt) (_ : b = (fdAt 31).2.1) => b) _ (by conv => rhs; whnf)
noncomputable def fS151 : Scope := (fun (b : Scope) (_ : b = (fdAt 31).2.2) => b) _ (by conv => rhs; whnf)
noncomputable def fA158 : Arguments := (fun (b : Arguments) (_ : b = (fdAt 32).1) => b) _ (by conv => rhs; whnf)
noncomputable def fB158 : List Stmt := (fun (b : List Stmt) (_ : b = (fdAt 32).2.1) => b) _ (by conv => rhs; whnf)
noncomputable def fS158 : Scope := (fun (b : Scope) (_ : b = (fdAt 32).2.2) => b) _ (by conv => rhs; whnf)
noncomputable def fA163 : Arguments := (fun (b : Arguments) (_ : b = (fdAt 33).1) => b) _ (by conv => rhs; whnf)
noncomputable def fB163 : List Stmt := (fun (b : List Stmt) (_ : b = (fdAt 33).2.1) => b) _ (by conv => rhs; whnf)
noncomputable def fS163 : Scope := (fun (b : Scope) (_ : b = (fdAt 33).2.2) => b) _ (by conv => rhs; whnf)
noncomputable def fA170 : Arguments := (fun (b : Arguments) (_ : b = (fdAt 34).1) => b) _ (by conv => rhs; whnf)
noncomputable def fB170 : List Stmt := (fun (b : List Stmt) (_ : b = (fdAt 34).2.1) => b) _ (by conv => rhs; whnf)
noncomputable def fS170 : Scope := (fun (b : Scope) (_ : b = (fdAt 34).2.2) => b) _ (by conv => rhs; whnf)
noncomputable def fA177 : Arguments := (fun (b : Arguments) (_ : b = (fdAt 36).1) => b) _ (by conv => rhs; whnf)
noncomputable def fB177 : List Stmt := (fun (b : List Stmt) (_ : b = (fdAt 36).2.1) => b) _ (by conv => rhs; whnf)
noncomputable def fS177 : Scope := (fun (b : Scope) (_ : b = (fdAt 36).2.2) => b) _ (by conv => rhs; whnf)
noncomputable def fA184 : Arguments := (fun (b : Arguments) (_ : b = (fdAt 37).1) => b) _ (by conv => rhs; whnf)
noncomputable def fB184 : List Stmt := (fun (b : List Stmt) (_ : b = (fdAt 37).2.1) => b) _ (by conv => rhs; whnf)
noncomputable def fS184 : Scope := (fun (b : Scope) (_ : b = (fdAt 37).2.2) => b) _ (by conv => rhs; whnf)
noncomputable def fA191 : Arguments := (fun (b : Arguments) (_ : b = (fdAt 38).1) => b) _ (by conv => rhs; whnf)
noncomputable def fB191 : List Stmt := (fun (b : List Stmt) (_ : b = (fdAt 38).2.1) => b) _ (by conv => rhs; whnf)
noncomputable def fS191 : Scope := (fun (b : Scope) (_ : b = (fdAt 38).2.2) => b) _ (by conv => rhs; whnf)
noncomputable def fA198 : Arguments := (fun (b : Arguments) (_ : b = (fdAt 39).1) => b) _ (by conv => rhs; whnf)
noncomputable def fB198 : List Stmt := (fun (b : List Stmt) (_ : b = (fdAt 39).2.1) => b) _ (by conv => rhs; whnf)
noncomputable def fS198 : Scope := (fun (b : Scope) (_ : b = (fdAt 39).2.2) => b) _ (by conv => rhs; whnf)
noncomputable def fA203 : Arguments := (fun (b : Arguments) (_ : b = (fdAt 40).1) => b) _ (by conv => rhs; whnf)
noncomputable def fB203 : List Stmt := (fun (b : List Stmt) (_ : b = (fdAt 40).2.1) => b) _ (by conv => rhs; whnf)
noncomputable def fS203 : Scope := (fun (b : Scope) (_ : b = (fdAt 40).2.2) => b) _ (by conv => rhs; whnf)
noncomputable def fA210 : Arguments := (fun (b : Arguments) (_ : b = (fdAt 41).1) => b) _ (by conv => rhs; whnf)
noncomputable def fB210 : List Stmt := (fun (b : List Stmt) (_ : b = (fdAt 41).2.1) => b) _ (by conv => rhs; whnf)
noncomputable def fS210 : Scope := (fun (b : Scope) (_ : b = (fdAt 41).2.2) => b) _ (by conv => rhs; whnf)
noncomputable def fA217 : Arguments := (fun (b : Arguments) (_ : b = (fdAt 42).1) => b) _ (by conv => rhs; whnf)
noncomputable def fB217 : List Stmt := (fun (b : List Stmt) (_ : b = (fdAt 42).2.1) => b) _ (by conv => rhs; whnf)
noncomputable def fS217 : Scope := (fun (b : Scope) (_ : b = (fdAt 42).2.2) => b) _ (by conv => rhs; whnf)
noncomputable def fA222 : Arguments := (fun (b : Arguments) (_ : b = (fdAt 43).1) => b) _ (by conv => rhs; whnf)
noncomputable def fB222 : List Stmt := (fun (b : List Stmt) (_ : b = (fdAt 43).2.1) => b) _ (by conv => rhs; whnf)
noncomputable def fS222 : Scope := (fun (b : Scope) (_ : b = (fdAt 43).2.2) => b) _ (by conv => rhs; whnf)
noncomputable def fA229 : Arguments := (fun (b : Arguments) (_ : b = (fdAt 44).1) => b) _ (by conv => rhs; whnf)
noncomputable def fB229 : List Stmt := (fun (b : List Stmt) (_ : b = (fdAt 44).2.1) => b) _ (by conv => rhs; whnf)
noncomputable def fS229 : Scope := (fun (b : Scope) (_ : b = (fdAt 44).2.2) => b) _ (by conv => rhs; whnf)
noncomputable def fA234 : Arguments := (fun (b : Arguments) (_ : b = (fdAt 45).1) => b) _ (by conv => rhs; whnf)
noncomputable def fB234 : List Stmt := (fun (b : List Stmt) (_ : b = (fdAt 45).2.1) => b) _ (by conv => rhs; whnf)
noncomputable def fS234 : Scope := (fun (b : Scope) (_ : b = (fdAt 45).2.2) => b) _ (by conv => rhs; whnf)
noncomputable def fA241 : Arguments := (fun (b : Arguments) (_ : b = (fdAt 46).1) => b) _ (by conv => rhs; whnf)
noncomputable def fB241 : List Stmt := (fun (b : List Stmt) (_ : b = (fdAt 46).2.1) => b) _ (by conv => rhs; whnf)
noncomputable def fS241 : Scope := (fun (b : Scope) (_ : b = (fdAt 46).2.2) => b) _ (by conv => rhs; whnf)
noncomputable def fA246 : Arguments := (fun (b : Arguments) (_ : b = (fdAt 47).1) => b) _ (by conv => rhs; whnf)
noncomputable def fB246 : List Stmt := (fun (b : List Stmt) (_ : b = (fdAt 47).2.1) => b) _ (by conv => rhs; whnf)
noncomputable def fS246 : Scope := (fun (b : Scope) (_ : b = (fdAt 47).2.2) => b) _ (by conv => rhs; whnf)
noncomputable def KH : Params → Frag := fun P =>
  (nat_lit 2, ⟨.none, none, .dict #[{ hash := PyData.keyHash P (.ofString "type.__subclasses__.Exception.0"), key := .str (.ofString "type.__subclasses__.Exception.0") 299, val := .int 33 0 }, { hash := PyData.keyHash P (.ofString "type.__subclasses__.Exception.n"), key := .str (.ofString "type.__subclasses__.Exception.n") 300, val := .int 1 0 }] 2, #[]⟩) ::
  (nat_lit 3, ⟨.type "dict", none, .dict #[{ hash := PyData.keyHash P (.ofString "__name__"), key := .str (.ofString "__name__") 165, val := .str (.ofString "law_nz0571_01") 488 }, { hash := PyData.keyHash P (.ofString "__doc__"), key := .str (.ofString "__doc__") 166, val := .none }, { hash := PyData.keyHash P (.ofString "__package__"), key := .str (.ofString "__package__") 167, val := .none }, { hash := PyData.keyHash P (.ofString "__loader__"), key := .str (.ofString "__loader__") 168, val := .builtin "__main__.__loader__#opaque" }, { hash := PyData.keyHash P (.ofString "__spec__"), key := .str (.ofString "__spec__") 169, val := .none }, { hash := PyData.keyHash P (.ofString "__annotations__"), key := .str (.ofString "__annotations__") 170, val := .ref 6 }, { hash := PyData.keyHash P (.ofString "__builtins__"), key := .str (.ofString "__builtins__") 171, val := .ref 4 }, { hash := PyData.keyHash P (.ofString "__file__"), key := .str (.ofString "__file__") 173, val := .str (.ofString "/claim/cut.py") 172 }, { hash := PyData.keyHash P (.ofString "__cached__"), key := .str (.ofString "__cached__") 174, val := .none }, { hash := PyData.keyHash P (.ofString "WORDS"), key := .str (.ofString "WORDS") 233, val := .ref 15 }, { hash := PyData.keyHash P (.ofString "SIGNS"), key := .str (.ofString "SIGNS") 251, val := .ref 16 }, { hash := PyData.keyHash P (.ofString "DIGITS"), key := .str (.ofString "DIGITS") 253, val := .str (.ofString "0123456789") 252 }, { hash := PyData.keyHash P (.ofString "LETTERS"), key := .str (.ofString "LETTERS") 255, val := .str (.ofString "ABCDEFGHIJKLMNOPQRSTUVWXYZ") 254 }, { hash := PyData.keyHash P (.ofString "BLANKS"), key := .str (.ofString "BLANKS") 257, val := .str (.ofString " \t") 256 }, { hash := PyData.keyHash P (.ofString "MOST_NUMBER"), key := .str (.ofString "MOST_NUMBER") 259, val := .int 65535 258 }, { hash := PyData.keyHash P (.ofString "NUMBER_MARK"), key := .str (.ofString "NUMBER_MARK") 261, val := .int 1 260 }, { hash := PyData.keyHash P (.ofString "NAME_MARK"), key := .str (.ofString "NAME_MARK") 263, val := .int 2 262 }, { hash := PyData.keyHash P (.ofString "TEXT_MARK"), key := .str (.ofString "TEXT_MARK") 265, val := .int 3 264 }, { hash := PyData.keyHash P (.ofString "RAW_MARK"), key := .str (.ofString "RAW_MARK") 267, val := .int 4 266 }, { hash := PyData.keyHash P (.ofString "FIRST_SIGN"), key := .str (.ofString "FIRST_SIGN") 269, val := .int 32 268 }, { hash := PyData.keyHash P (.ofString "FIRST_WORD"), key := .str (.ofString "FIRST_WORD") 271, val := .int 128 270 }, { hash := PyData.keyHash P (.ofString "LONGEST"), key := .str (.ofString "LONGEST") 273, val := .int 255 272 }, { hash := PyData.keyHash P (.ofString "BasicError"), key := .str (.ofString "BasicError") 302, val := .ref 33 }, { hash := PyData.keyHash P (.ofString "great_sign"), key := .str (.ofString "great_sign") 309, val := .ref 43 }, { hash := PyData.keyHash P (.ofString "great_text"), key := .str (.ofString "great_text") 315, val := .ref 48 }, { hash := PyData.keyHash P (.ofString "word_at"), key := .str (.ofString "word_at") 325, val := .ref 55 }, { hash := PyData.keyHash P (.ofString "sign_at"), key := .str (.ofString "sign_at") 334, val := .ref 62 }, { hash := PyData.keyHash P (.ofString "behind_blanks"), key := .str (.ofString "behind_blanks") 342, val := .ref 69 }, { hash := PyData.keyHash P (.ofString "read_number"), key := .str (.ofString "read_number") 352, val := .ref 76 }, { hash := PyData.keyHash P (.ofString "read_name"), key := .str (.ofString "read_name") 361, val := .ref 83 }, { hash := PyData.keyHash P (.ofString "read_quoted"), key := .str (.ofString "read_quoted") 370, val := .ref 90 }, { hash := PyData.keyHash P (.ofString "read_item"), key := .str (.ofString "read_item") 381, val := .ref 97 }, { hash := PyData.keyHash P (.ofString "read_items"), key := .str (.ofString "read_items") 391, val := .ref 104 }, { hash := PyData.keyHash P (.ofString "read_token"), key := .str (.ofString "read_token") 407, val := .ref 111 }, { hash := PyData.keyHash P (.ofString "tokens_of"), key := .str (.ofString "tokens_of") 418, val := .ref 118 }, { hash := PyData.keyHash P (.ofString "item_text"), key := .str (.ofString "item_text") 426, val := .ref 125 }, { hash := PyData.keyHash P (.ofString "token_text"), key := .str (.ofString "token_text") 436, val := .ref 132 }, { hash := PyData.keyHash P (.ofString "needs_blank"), key := .str (.ofString "needs_blank") 444, val := .ref 139 }, { hash := PyData.keyHash P (.ofString "text_of"), key := .str (.ofString "text_of") 455, val := .ref 146 }, { hash := PyData.keyHash P (.ofString "marked"), key := .str (.ofString "marked") 461, val := .ref 151 }, { hash := PyData.keyHash P (.ofString "crunch"), key := .str (.ofString "crunch") 471, val := .ref 158 }, { hash := PyData.keyHash P (.ofString "expand_one"), key := .str (.ofString "expand_one") 477, val := .ref 163 }, { hash := PyData.keyHash P (.ofString "expand"), key := .str (.ofString "expand") 487, val := .ref 170 }, { hash := PyData.keyHash P (.ofString "_law_words"), key := .str (.ofString "_law_words") 495, val := .ref 177 }, { hash := PyData.keyHash P (.ofString "_law_numbers"), key := .str (.ofString "_law_numbers") 501, val := .ref 184 }, { hash := PyData.keyHash P (.ofString "_law_signs"), key := .str (.ofString "_law_signs") 507, val := .ref 191 }, { hash := PyData.keyHash P (.ofString "_law_take"), key := .str (.ofString "_law_take") 515, val := .ref 198 }, { hash := PyData.keyHash P (.ofString "_law_box"), key := .str (.ofString "_law_box") 521, val := .ref 203 }, { hash := PyData.keyHash P (.ofString "_law_token"), key := .str (.ofString "_law_token") 529, val := .ref 210 }, { hash := PyData.keyHash P (.ofString "_law_end"), key := .str (.ofString "_law_end") 540, val := .ref 217 }, { hash := PyData.keyHash P (.ofString "_law_typed"), key := .str (.ofString "_law_typed") 546, val := .ref 222 }, { hash := PyData.keyHash P (.ofString "_law_text"), key := .str (.ofString "_law_text") 559, val := .ref 229 }, { hash := PyData.keyHash P (.ofString "_law_octets"), key := .str (.ofString "_law_octets") 565, val := .ref 234 }, { hash := PyData.keyHash P (.ofString "_law_heard"), key := .str (.ofString "_law_heard") 573, val := .ref 241 }, { hash := PyData.keyHash P (.ofString "law"), key := .str (.ofString "law") 579, val := .ref 246 }] 55, #[]⟩) ::
  (nat_lit 15, ⟨.type "list", none, .seq #[.str (.ofString "END") 189, .str (.ofString "FOR") 190, .str (.ofString "NEXT") 191, .str (.ofString "DATA") 192, .str (.ofString "INPUT") 193, .str (.ofString "DIM") 194, .str (.ofString "READ") 195, .str (.ofString "LET") 196, .str (.ofString "GOTO") 197, .str (.ofString "RUN") 198, .str (.ofString "IF") 199, .str (.ofString "RESTORE") 200, .str (.ofString "GOSUB") 201, .str (.ofString "RETURN") 202, .str (.ofString "REM") 203, .str (.ofString "STOP") 204, .str (.ofString "ON") 205, .str (.ofString "PRINT") 206, .str (.ofString "LIST") 207, .str (.ofString "DELETE") 208, .str (.ofString "RENUM") 209, .str (.ofString "NEW") 210, .str (.ofString "CONT") 211, .str (.ofString "TO") 212, .str (.ofString "THEN") 213, .str (.ofString "ELSE") 214, .str (.ofString "STEP") 215, .str (.ofString "AND") 216, .str (.ofString "OR") 217, .str (.ofString "NOT") 218, .str (.ofString "MOD") 219, .str (.ofString "TAB") 220, .str (.ofString "SGN") 221, .str (.ofString "ABS") 222, .str (.ofString "LEN") 223, .str (.ofString "STR$") 224, .str (.ofString "VAL") 225, .str (.ofString "ASC") 226, .str (.ofString "CHR$") 227, .str (.ofString "LEFT$") 228, .str (.ofString "RIGHT$") 229, .str (.ofString "MID$") 230, .str (.ofString "RND") 231, .str (.ofString "INSTR") 232], #[]⟩) ::
  (nat_lit 16, ⟨.type "list", none, .seq #[.str (.ofString "<=") 234, .str (.ofString ">=") 235, .str (.ofString "<>") 236, .str (.ofString "(") 237, .str (.ofString ")") 238, .str (.ofString ",") 239, .str (.ofString ";") 240, .str (.ofString ":") 241, .str (.ofString "=") 242, .str (.ofString "<") 243, .str (.ofString ">") 244, .str (.ofString "+") 245, .str (.ofString "-") 246, .str (.ofString "*") 247, .str (.ofString "/") 248, .str (.ofString "^") 249, .str (.ofString "#") 250], #[]⟩) ::
  (nat_lit 17, ⟨.type "tuple", none, .seq #[.type "Exception"], #[]⟩) ::
  (nat_lit 24, ⟨.type "tuple", none, .seq #[], #[]⟩) ::
  (nat_lit 26, ⟨.type "tuple", none, .seq #[.str (.ofString "self") 289, .str (.ofString "kind") 290], #[]⟩) ::
  (nat_lit 27, ⟨.type "tuple", none, .seq #[], #[]⟩) ::
  (nat_lit 29, ⟨.type "code", none, .fields #[.str (.ofString "__init__") 286, .str (.ofString "BasicError.__init__") 287, .str (.ofString "/claim/cut.py") 288, .int 17 0, .int 2 0, .int 0 0, .int 0 0, .int 3 0, .ref 24, .bool true, .int 181 0, .ref 25, .none, .ref 26, .ref 27, .ref 28, .int 291 0, .int 17 0, .str (.ofString "/claim/cut.py") 292], #[]⟩) ::
  (nat_lit 30, ⟨.type "function", none, .func ⟨.ofString "__init__", .ofString "BasicError.__init__", fA30, .stmts fB30, fS30, 3, [], .none, .none, .none, .str (.ofString "z80.btokens") 187, none, .ref 29, .none, 0⟩, #[]⟩) ::
  (nat_lit 31, ⟨.type "tuple", none, .seq #[.str (.ofString "kind") 294], #[]⟩) ::
  (nat_lit 32, ⟨.type "dict", none, .dict #[{ hash := PyData.keyHash P (.ofString "__module__"), key := .str (.ofString "__module__") 281, val := .str (.ofString "z80.btokens") 187 }, { hash := PyData.keyHash P (.ofString "__firstlineno__"), key := .str (.ofString "__firstlineno__") 285, val := .int 15 284 }, { hash := PyData.keyHash P (.ofString "__init__"), key := .str (.ofString "__init__") 293, val := .ref 30 }, { hash := PyData.keyHash P (.ofString "__static_attributes__"), key := .str (.ofString "__static_attributes__") 295, val := .ref 31 }, { hash := PyData.keyHash P (.ofString "__weakref__"), key := .str (.ofString "__weakref__") 297, val := .ref 34 }, { hash := PyData.keyHash P (.ofString "__doc__"), key := .str (.ofString "__doc__") 298, val := .none }] 3, #[]⟩) ::
  (nat_lit 33, ⟨.type "type", none, .cls { name := .ofString "BasicError", bases := [.type "Exception"], mro := [.ref 33, .type "Exception", .type "BaseException", .type "object"], ns := 32, qualname := .ofString "BasicError" }, #[some (.ref 17), none, some (.str (.ofString "BasicError") 274), some (.str (.ofString "BasicError") 282), some (.builtin "Exception.__new__"), some (.bool true)]⟩) ::
  (nat_lit 34, ⟨.type "getset_descriptor", none, .fields #[.str (.ofString "__weakref__") 296, .ref 33, .builtin "ExceptionGroup.__weakref__", .none], #[]⟩) ::
  (nat_lit 37, ⟨.type "tuple", none, .seq #[], #[]⟩) ::
  (nat_lit 39, ⟨.type "tuple", none, .seq #[.str (.ofString "sign") 306], #[]⟩) ::
  (nat_lit 40, ⟨.type "tuple", none, .seq #[], #[]⟩) ::
  (nat_lit 42, ⟨.type "code", none, .fields #[.str (.ofString "great_sign") 303, .str (.ofString "great_sign") 304, .str (.ofString "/claim/cut.py") 305, .int 19 0, .int 1 0, .int 0 0, .int 0 0, .int 3 0, .ref 37, .bool true, .int 181 0, .ref 38, .none, .ref 39, .ref 40, .ref 41, .int 307 0, .int 19 0, .str (.ofString "/claim/cut.py") 308], #[]⟩) ::
  (nat_lit 43, ⟨.type "function", none, .func ⟨.ofString "great_sign", .ofString "great_sign", fA43, .stmts fB43, fS43, 3, [], .none, .none, .none, .str (.ofString "z80.btokens") 187, none, .ref 42, .none, 0⟩, #[]⟩) ::
  (nat_lit 44, ⟨.type "tuple", none, .seq #[], #[]⟩) ::
  (nat_lit 47, ⟨.type "code", none, .fields #[.str (.ofString "great_text") 310, .str (.ofString "great_text") 311, .str (.ofString "/claim/cut.py") 312, .int 21 0, .int 1 0, .int 0 0, .int 0 0, .int 3 0, .ref 44, .bool true, .int 181 0, .ref 45, .none, .none, .none, .ref 46, .int 313 0, .int 21 0, .str (.ofString "/claim/cut.py") 314], #[]⟩) ::
  (nat_lit 48, ⟨.type "function", none, .func ⟨.ofString "great_text", .ofString "great_text", fA48, .stmts fB48, fS48, 3, [], .none, .none, .none, .str (.ofString "z80.btokens") 187, none, .ref 47, .none, 0⟩, #[]⟩) ::
  (nat_lit 49, ⟨.type "tuple", none, .seq #[], #[]⟩) ::
  (nat_lit 51, ⟨.type "tuple", none, .seq #[.str (.ofString "text") 319, .str (.ofString "at") 320, .str (.ofString "found") 321, .str (.ofString "word") 322], #[]⟩) ::
  (nat_lit 52, ⟨.type "tuple", none, .seq #[], #[]⟩) ::
  (nat_lit 54, ⟨.type "code", none, .fields #[.str (.ofString "word_at") 316, .str (.ofString "word_at") 317, .str (.ofString "/claim/cut.py") 318, .int 23 0, .int 2 0, .int 0 0, .int 0 0, .int 3 0, .ref 49, .bool true, .int 181 0, .ref 50, .none, .ref 51, .ref 52, .ref 53, .int 323 0, .int 23 0, .str (.ofString "/claim/cut.py") 324], #[]⟩) ::
  (nat_lit 55, ⟨.type "function", none, .func ⟨.ofString "word_at", .ofString "word_at", fA55, .stmts fB55, fS55, 3, [], .none, .none, .none, .str (.ofString "z80.btokens") 187, none, .ref 54, .none, 0⟩, #[]⟩) ::
  (nat_lit 56, ⟨.type "tuple", none, .seq #[], #[]⟩) ::
  (nat_lit 58, ⟨.type "tuple", none, .seq #[.str (.ofString "text") 329, .str (.ofString "at") 330, .str (.ofString "sign") 331], #[]⟩) ::
  (nat_lit 59, ⟨.type "tuple", none, .seq #[], #[]⟩) ::
  (nat_lit 61, ⟨.type "code", none, .fields #[.str (.ofString "sign_at") 326, .str (.ofString "sign_at") 327, .str (.ofString "/claim/cut.py") 328, .int 29 0, .int 2 0, .int 0 0, .int 0 0, .int 3 0, .ref 56, .bool true, .int 181 0, .ref 57, .none, .ref 58, .ref 59, .ref 60, .int 332 0, .int 29 0, .str (.ofString "/claim/cut.py") 333], #[]⟩) ::
  (nat_lit 62, ⟨.type "function", none, .func ⟨.ofString "sign_at", .ofString "sign_at", fA62, .stmts fB62, fS62, 3, [], .none, .none, .none, .str (.ofString "z80.btokens") 187, none, .ref 61, .none, 0⟩, #[]⟩) ::
  (nat_lit 63, ⟨.type "tuple", none, .seq #[], #[]⟩) ::
  (nat_lit 65, ⟨.type "tuple", none, .seq #[.str (.ofString "text") 338, .str (.ofString "at") 339], #[]⟩) ::
  (nat_lit 66, ⟨.type "tuple", none, .seq #[], #[]⟩) ::
  (nat_lit 68, ⟨.type "code", none, .fields #[.str (.ofString "behind_blanks") 335, .str (.ofString "behind_blanks") 336, .str (.ofString "/claim/cut.py") 337, .int 34 0, .int 2 0, .int 0 0, .int 0 0, .int 3 0, .ref 63, .bool true, .int 181 0, .ref 64, .none, .ref 65, .ref 66, .ref 67, .int 340 0, .int 34 0, .str (.ofString "/claim/cut.py") 341], #[]⟩) ::
  (nat_lit 69, ⟨.type "function", none, .func ⟨.ofString "behind_blanks", .ofString "behind_blanks", fA69, .stmts fB69, fS69, 3, [], .none, .none, .none, .str (.ofString "z80.btokens") 187, none, .ref 68, .none, 0⟩, #[]⟩) ::
  (nat_lit 70, ⟨.type "tuple", none, .seq #[], #[]⟩) ::
  (nat_lit 72, ⟨.type "tuple", none, .seq #[.str (.ofString "text") 346, .str (.ofString "at") 347, .str (.ofString "begin") 348, .str (.ofString "found") 349], #[]⟩) ::
  (nat_lit 73, ⟨.type "tuple", none, .seq #[], #[]⟩) ::
  (nat_lit 75, ⟨.type "code", none, .fields #[.str (.ofString "read_number") 343, .str (.ofString "read_number") 344, .str (.ofString "/claim/cut.py") 345, .int 38 0, .int 2 0, .int 0 0, .int 0 0, .int 3 0, .ref 70, .bool true, .int 181 0, .ref 71, .none, .ref 72, .ref 73, .ref 74, .int 350 0, .int 38 0, .str (.ofString "/claim/cut.py") 351], #[]⟩) ::
  (nat_lit 76, ⟨.type "function", none, .func ⟨.ofString "read_number", .ofString "read_number", fA76, .stmts fB76, fS76, 3, [], .none, .none, .none, .str (.ofString "z80.btokens") 187, none, .ref 75, .none, 0⟩, #[]⟩) ::
  (nat_lit 77, ⟨.type "tuple", none, .seq #[], #[]⟩) ::
  (nat_lit 79, ⟨.type "tuple", none, .seq #[.str (.ofString "whole") 356, .str (.ofString "at") 357, .str (.ofString "begin") 358], #[]⟩) ::
  (nat_lit 80, ⟨.type "tuple", none, .seq #[], #[]⟩) ::
  (nat_lit 82, ⟨.type "code", none, .fields #[.str (.ofString "read_name") 353, .str (.ofString "read_name") 354, .str (.ofString "/claim/cut.py") 355, .int 46 0, .int 2 0, .int 0 0, .int 0 0, .int 3 0, .ref 77, .bool true, .int 181 0, .ref 78, .none, .ref 79, .ref 80, .ref 81, .int 359 0, .int 46 0, .str (.ofString "/claim/cut.py") 360], #[]⟩) ::
  (nat_lit 83, ⟨.type "function", none, .func ⟨.ofString "read_name", .ofString "read_name", fA83, .stmts fB83, fS83, 3, [], .none, .none, .none, .str (.ofString "z80.btokens") 187, none, .ref 82, .none, 0⟩, #[]⟩) ::
  (nat_lit 84, ⟨.type "tuple", none, .seq #[], #[]⟩) ::
  (nat_lit 86, ⟨.type "tuple", none, .seq #[.str (.ofString "text") 365, .str (.ofString "at") 366, .str (.ofString "end") 367], #[]⟩) ::
  (nat_lit 87, ⟨.type "tuple", none, .seq #[], #[]⟩) ::
  (nat_lit 89, ⟨.type "code", none, .fields #[.str (.ofString "read_quoted") 362, .str (.ofString "read_quoted") 363, .str (.ofString "/claim/cut.py") 364, .int 54 0, .int 2 0, .int 0 0, .int 0 0, .int 3 0, .ref 84, .bool true, .int 181 0, .ref 85, .none, .ref 86, .ref 87, .ref 88, .int 368 0, .int 54 0, .str (.ofString "/claim/cut.py") 369], #[]⟩) ::
  (nat_lit 90, ⟨.type "function", none, .func ⟨.ofString "read_quoted", .ofString "read_quoted", fA90, .stmts fB90, fS90, 3, [], .none, .none, .none, .str (.ofString "z80.btokens") 187, none, .ref 89, .none, 0⟩, #[]⟩) ::
  (nat_lit 91, ⟨.type "tuple", none, .seq #[], #[]⟩) ::
  (nat_lit 93, ⟨.type "tuple", none, .seq #[.str (.ofString "text") 374, .str (.ofString "at") 375, .str (.ofString "found") 376, .str (.ofString "begin") 377, .str (.ofString "end") 378], #[]⟩) ::
  (nat_lit 94, ⟨.type "tuple", none, .seq #[], #[]⟩) ::
  (nat_lit 96, ⟨.type "code", none, .fields #[.str (.ofString "read_item") 371, .str (.ofString "read_item") 372, .str (.ofString "/claim/cut.py") 373, .int 59 0, .int 2 0, .int 0 0, .int 0 0, .int 3 0, .ref 91, .bool true, .int 181 0, .ref 92, .none, .ref 93, .ref 94, .ref 95, .int 379 0, .int 59 0, .str (.ofString "/claim/cut.py") 380], #[]⟩) ::
  (nat_lit 97, ⟨.type "function", none, .func ⟨.ofString "read_item", .ofString "read_item", fA97, .stmts fB97, fS97, 3, [], .none, .none, .none, .str (.ofString "z80.btokens") 187, none, .ref 96, .none, 0⟩, #[]⟩) ::
  (nat_lit 98, ⟨.type "tuple", none, .seq #[], #[]⟩) ::
  (nat_lit 100, ⟨.type "tuple", none, .seq #[.str (.ofString "text") 385, .str (.ofString "at") 386, .str (.ofString "item") 387, .str (.ofString "found") 388], #[]⟩) ::
  (nat_lit 101, ⟨.type "tuple", none, .seq #[], #[]⟩) ::
  (nat_lit 103, ⟨.type "code", none, .fields #[.str (.ofString "read_items") 382, .str (.ofString "read_items") 383, .str (.ofString "/claim/cut.py") 384, .int 74 0, .int 2 0, .int 0 0, .int 0 0, .int 3 0, .ref 98, .bool true, .int 181 0, .ref 99, .none, .ref 100, .ref 101, .ref 102, .int 389 0, .int 74 0, .str (.ofString "/claim/cut.py") 390], #[]⟩) ::
  (nat_lit 104, ⟨.type "function", none, .func ⟨.ofString "read_items", .ofString "read_items", fA104, .stmts fB104, fS104, 3, [], .none, .none, .none, .str (.ofString "z80.btokens") 187, none, .ref 103, .none, 0⟩, #[]⟩) ::
  (nat_lit 105, ⟨.type "tuple", none, .seq #[], #[]⟩) ::
  (nat_lit 107, ⟨.type "tuple", none, .seq #[.str (.ofString "text") 395, .str (.ofString "whole") 396, .str (.ofString "at") 397, .str (.ofString "sign") 398, .str (.ofString "found") 399, .str (.ofString "number") 400, .str (.ofString "word") 401, .str (.ofString "size") 402, .str (.ofString "items") 403, .str (.ofString "name") 404], #[]⟩) ::
  (nat_lit 108, ⟨.type "tuple", none, .seq #[], #[]⟩) ::
  (nat_lit 110, ⟨.type "code", none, .fields #[.str (.ofString "read_token") 392, .str (.ofString "read_token") 393, .str (.ofString "/claim/cut.py") 394, .int 81 0, .int 3 0, .int 0 0, .int 0 0, .int 3 0, .ref 105, .bool true, .int 181 0, .ref 106, .none, .ref 107, .ref 108, .ref 109, .int 405 0, .int 81 0, .str (.ofString "/claim/cut.py") 406], #[]⟩) ::
  (nat_lit 111, ⟨.type "function", none, .func ⟨.ofString "read_token", .ofString "read_token", fA111, .stmts fB111, fS111, 3, [], .none, .none, .none, .str (.ofString "z80.btokens") 187, none, .ref 110, .none, 0⟩, #[]⟩) ::
  (nat_lit 112, ⟨.type "tuple", none, .seq #[], #[]⟩) ::
  (nat_lit 114, ⟨.type "tuple", none, .seq #[.str (.ofString "text") 411, .str (.ofString "found") 412, .str (.ofString "whole") 413, .str (.ofString "at") 414, .str (.ofString "some") 415], #[]⟩) ::
  (nat_lit 115, ⟨.type "tuple", none, .seq #[], #[]⟩) ::
  (nat_lit 117, ⟨.type "code", none, .fields #[.str (.ofString "tokens_of") 408, .str (.ofString "tokens_of") 409, .str (.ofString "/claim/cut.py") 410, .int 108 0, .int 1 0, .int 0 0, .int 0 0, .int 3 0, .ref 112, .bool true, .int 181 0, .ref 113, .none, .ref 114, .ref 115, .ref 116, .int 416 0, .int 108 0, .str (.ofString "/claim/cut.py") 417], #[]⟩) ::
  (nat_lit 118, ⟨.type "function", none, .func ⟨.ofString "tokens_of", .ofString "tokens_of", fA118, .stmts fB118, fS118, 3, [], .none, .none, .none, .str (.ofString "z80.btokens") 187, none, .ref 117, .none, 0⟩, #[]⟩) ::
  (nat_lit 119, ⟨.type "tuple", none, .seq #[], #[]⟩) ::
  (nat_lit 121, ⟨.type "tuple", none, .seq #[.str (.ofString "item") 422, .str (.ofString "is_plain") 423], #[]⟩) ::
  (nat_lit 122, ⟨.type "tuple", none, .seq #[], #[]⟩) ::
  (nat_lit 124, ⟨.type "code", none, .fields #[.str (.ofString "item_text") 419, .str (.ofString "item_text") 420, .str (.ofString "/claim/cut.py") 421, .int 116 0, .int 1 0, .int 0 0, .int 0 0, .int 3 0, .ref 119, .bool true, .int 181 0, .ref 120, .none, .ref 121, .ref 122, .ref 123, .int 424 0, .int 116 0, .str (.ofString "/claim/cut.py") 425], #[]⟩) ::
  (nat_lit 125, ⟨.type "function", none, .func ⟨.ofString "item_text", .ofString "item_text", fA125, .stmts fB125, fS125, 3, [], .none, .none, .none, .str (.ofString "z80.btokens") 187, none, .ref 124, .none, 0⟩, #[]⟩) ::
  (nat_lit 126, ⟨.type "tuple", none, .seq #[], #[]⟩) ::
  (nat_lit 128, ⟨.type "tuple", none, .seq #[.str (.ofString "token") 430, .str (.ofString "ahead") 431, .str (.ofString "kind") 432, .str (.ofString "value") 433], #[]⟩) ::
  (nat_lit 129, ⟨.type "tuple", none, .seq #[], #[]⟩) ::
  (nat_lit 131, ⟨.type "code", none, .fields #[.str (.ofString "token_text") 427, .str (.ofString "token_text") 428, .str (.ofString "/claim/cut.py") 429, .int 121 0, .int 2 0, .int 0 0, .int 0 0, .int 3 0, .ref 126, .bool true, .int 181 0, .ref 127, .none, .ref 128, .ref 129, .ref 130, .int 434 0, .int 121 0, .str (.ofString "/claim/cut.py") 435], #[]⟩) ::
  (nat_lit 132, ⟨.type "function", none, .func ⟨.ofString "token_text", .ofString "token_text", fA132, .stmts fB132, fS132, 3, [], .none, .none, .none, .str (.ofString "z80.btokens") 187, none, .ref 131, .none, 0⟩, #[]⟩) ::
  (nat_lit 133, ⟨.type "tuple", none, .seq #[], #[]⟩) ::
  (nat_lit 135, ⟨.type "tuple", none, .seq #[.str (.ofString "token") 440, .str (.ofString "later") 441], #[]⟩) ::
  (nat_lit 136, ⟨.type "tuple", none, .seq #[], #[]⟩) ::
  (nat_lit 138, ⟨.type "code", none, .fields #[.str (.ofString "needs_blank") 437, .str (.ofString "needs_blank") 438, .str (.ofString "/claim/cut.py") 439, .int 130 0, .int 2 0, .int 0 0, .int 0 0, .int 3 0, .ref 133, .bool true, .int 181 0, .ref 134, .none, .ref 135, .ref 136, .ref 137, .int 442 0, .int 130 0, .str (.ofString "/claim/cut.py") 443], #[]⟩) ::
  (nat_lit 139, ⟨.type "function", none, .func ⟨.ofString "needs_blank", .ofString "needs_blank", fA139, .stmts fB139, fS139, 3, [], .none, .none, .none, .str (.ofString "z80.btokens") 187, none, .ref 138, .none, 0⟩, #[]⟩) ::
  (nat_lit 140, ⟨.type "tuple", none, .seq #[], #[]⟩) ::
  (nat_lit 142, ⟨.type "tuple", none, .seq #[.str (.ofString "tokens") 448, .str (.ofString "found") 449, .str (.ofString "ahead") 450, .str (.ofString "at") 451, .str (.ofString "token") 452], #[]⟩) ::
  (nat_lit 143, ⟨.type "tuple", none, .seq #[], #[]⟩) ::
  (nat_lit 145, ⟨.type "code", none, .fields #[.str (.ofString "text_of") 445, .str (.ofString "text_of") 446, .str (.ofString "/claim/cut.py") 447, .int 132 0, .int 1 0, .int 0 0, .int 0 0, .int 3 0, .ref 140, .bool true, .int 181 0, .ref 141, .none, .ref 142, .ref 143, .ref 144, .int 453 0, .int 132 0, .str (.ofString "/claim/cut.py") 454], #[]⟩) ::
  (nat_lit 146, ⟨.type "function", none, .func ⟨.ofString "text_of", .ofString "text_of", fA146, .stmts fB146, fS146, 3, [], .none, .none, .none, .str (.ofString "z80.btokens") 187, none, .ref 145, .none, 0⟩, #[]⟩) ::
  (nat_lit 147, ⟨.type "tuple", none, .seq #[], #[]⟩) ::
  (nat_lit 150, ⟨.type "code", none, .fields #[.str (.ofString "marked") 456, .str (.ofString "marked") 457, .str (.ofString "/claim/cut.py") 458, .int 141 0, .int 2 0, .int 0 0, .int 0 0, .int 3 0, .ref 147, .bool true, .int 181 0, .ref 148, .none, .none, .none, .ref 149, .int 459 0, .int 141 0, .str (.ofString "/claim/cut.py") 460], #[]⟩) ::
  (nat_lit 151, ⟨.type "function", none, .func ⟨.ofString "marked", .ofString "marked", fA151, .stmts fB151, fS151, 3, [], .none, .none, .none, .str (.ofString "z80.btokens") 187, none, .ref 150, .none, 0⟩, #[]⟩) ::
  (nat_lit 152, ⟨.type "tuple", none, .seq #[], #[]⟩) ::
  (nat_lit 154, ⟨.type "tuple", none, .seq #[.str (.ofString "tokens") 465, .str (.ofString "found") 466, .str (.ofString "kind") 467, .str (.ofString "value") 468], #[]⟩) ::
  (nat_lit 155, ⟨.type "tuple", none, .seq #[], #[]⟩) ::
  (nat_lit 157, ⟨.type "code", none, .fields #[.str (.ofString "crunch") 462, .str (.ofString "crunch") 463, .str (.ofString "/claim/cut.py") 464, .int 145 0, .int 1 0, .int 0 0, .int 0 0, .int 3 0, .ref 152, .bool true, .int 181 0, .ref 153, .none, .ref 154, .ref 155, .ref 156, .int 469 0, .int 145 0, .str (.ofString "/claim/cut.py") 470], #[]⟩) ::
  (nat_lit 158, ⟨.type "function", none, .func ⟨.ofString "crunch", .ofString "crunch", fA158, .stmts fB158, fS158, 3, [], .none, .none, .none, .str (.ofString "z80.btokens") 187, none, .ref 157, .none, 0⟩, #[]⟩) ::
  (nat_lit 159, ⟨.type "tuple", none, .seq #[], #[]⟩) ::
  (nat_lit 162, ⟨.type "code", none, .fields #[.str (.ofString "expand_one") 472, .str (.ofString "expand_one") 473, .str (.ofString "/claim/cut.py") 474, .int 157 0, .int 2 0, .int 0 0, .int 0 0, .int 3 0, .ref 159, .bool true, .int 181 0, .ref 160, .none, .none, .none, .ref 161, .int 475 0, .int 157 0, .str (.ofString "/claim/cut.py") 476], #[]⟩) ::
  (nat_lit 163, ⟨.type "function", none, .func ⟨.ofString "expand_one", .ofString "expand_one", fA163, .stmts fB163, fS163, 3, [], .none, .none, .none, .str (.ofString "z80.btokens") 187, none, .ref 162, .none, 0⟩, #[]⟩) ::
  (nat_lit 164, ⟨.type "tuple", none, .seq #[], #[]⟩) ::
  (nat_lit 166, ⟨.type "tuple", none, .seq #[.str (.ofString "row") 481, .str (.ofString "found") 482, .str (.ofString "at") 483, .str (.ofString "token") 484], #[]⟩) ::
  (nat_lit 167, ⟨.type "tuple", none, .seq #[], #[]⟩) ::
  (nat_lit 169, ⟨.type "code", none, .fields #[.str (.ofString "expand") 478, .str (.ofString "expand") 479, .str (.ofString "/claim/cut.py") 480, .int 174 0, .int 1 0, .int 0 0, .int 0 0, .int 3 0, .ref 164, .bool true, .int 181 0, .ref 165, .none, .ref 166, .ref 167, .ref 168, .int 485 0, .int 174 0, .str (.ofString "/claim/cut.py") 486], #[]⟩) ::
  (nat_lit 170, ⟨.type "function", none, .func ⟨.ofString "expand", .ofString "expand", fA170, .stmts fB170, fS170, 3, [], .none, .none, .none, .str (.ofString "z80.btokens") 187, none, .ref 169, .none, 0⟩, #[]⟩) ::
  (nat_lit 171, ⟨.type "tuple", none, .seq #[], #[]⟩) ::
  (nat_lit 173, ⟨.type "tuple", none, .seq #[], #[]⟩) ::
  (nat_lit 174, ⟨.type "tuple", none, .seq #[], #[]⟩) ::
  (nat_lit 176, ⟨.type "code", none, .fields #[.str (.ofString "_law_words") 490, .str (.ofString "_law_words") 491, .str (.ofString "/claim/cut.py") 492, .int 181 0, .int 0 0, .int 0 0, .int 0 0, .int 3 0, .ref 171, .bool true, .int 181 0, .ref 172, .none, .ref 173, .ref 174, .ref 175, .int 493 0, .int 181 0, .str (.ofString "/claim/cut.py") 494], #[]⟩) ::
  (nat_lit 177, ⟨.type "function", none, .func ⟨.ofString "_law_words", .ofString "_law_words", fA177, .stmts fB177, fS177, 3, [], .none, .none, .none, .str (.ofString "law_nz0571_01") 488, none, .ref 176, .none, 0⟩, #[]⟩) ::
  (nat_lit 178, ⟨.type "tuple", none, .seq #[], #[]⟩) ::
  (nat_lit 180, ⟨.type "tuple", none, .seq #[], #[]⟩) ::
  (nat_lit 181, ⟨.type "tuple", none, .seq #[], #[]⟩) ::
  (nat_lit 183, ⟨.type "code", none, .fields #[.str (.ofString "_law_numbers") 496, .str (.ofString "_law_numbers") 497, .str (.ofString "/claim/cut.py") 498, .int 183 0, .int 0 0, .int 0 0, .int 0 0, .int 3 0, .ref 178, .bool true, .int 181 0, .ref 179, .none, .ref 180, .ref 181, .ref 182, .int 499 0, .int 183 0, .str (.ofString "/claim/cut.py") 500], #[]⟩) ::
  (nat_lit 184, ⟨.type "function", none, .func ⟨.ofString "_law_numbers", .ofString "_law_numbers", fA184, .stmts fB184, fS184, 3, [], .none, .none, .none, .str (.ofString "law_nz0571_01") 488, none, .ref 183, .none, 0⟩, #[]⟩) ::
  (nat_lit 185, ⟨.type "tuple", none, .seq #[], #[]⟩) ::
  (nat_lit 187, ⟨.type "tuple", none, .seq #[], #[]⟩) ::
  (nat_lit 188, ⟨.type "tuple", none, .seq #[], #[]⟩) ::
  (nat_lit 190, ⟨.type "code", none, .fields #[.str (.ofString "_law_signs") 502, .str (.ofString "_law_signs") 503, .str (.ofString "/claim/cut.py") 504, .int 185 0, .int 0 0, .int 0 0, .int 0 0, .int 3 0, .ref 185, .bool true, .int 181 0, .ref 186, .none, .ref 187, .ref 188, .ref 189, .int 505 0, .int 185 0, .str (.ofString "/claim/cut.py") 506], #[]⟩) ::
  (nat_lit 191, ⟨.type "function", none, .func ⟨.ofString "_law_signs", .ofString "_law_signs", fA191, .stmts fB191, fS191, 3, [], .none, .none, .none, .str (.ofString "law_nz0571_01") 488, none, .ref 190, .none, 0⟩, #[]⟩) ::
  (nat_lit 192, ⟨.type "tuple", none, .seq #[], #[]⟩) ::
  (nat_lit 194, ⟨.type "tuple", none, .seq #[.str (.ofString "box") 511, .str (.ofString "many") 512], #[]⟩) ::
  (nat_lit 195, ⟨.type "tuple", none, .seq #[], #[]⟩) ::
  (nat_lit 197, ⟨.type "code", none, .fields #[.str (.ofString "_law_take") 508, .str (.ofString "_law_take") 509, .str (.ofString "/claim/cut.py") 510, .int 187 0, .int 2 0, .int 0 0, .int 0 0, .int 3 0, .ref 192, .bool true, .int 181 0, .ref 193, .none, .ref 194, .ref 195, .ref 196, .int 513 0, .int 187 0, .str (.ofString "/claim/cut.py") 514], #[]⟩) ::
  (nat_lit 198, ⟨.type "function", none, .func ⟨.ofString "_law_take", .ofString "_law_take", fA198, .stmts fB198, fS198, 3, [], .none, .none, .none, .str (.ofString "law_nz0571_01") 488, none, .ref 197, .none, 0⟩, #[]⟩) ::
  (nat_lit 199, ⟨.type "tuple", none, .seq #[], #[]⟩) ::
  (nat_lit 202, ⟨.type "code", none, .fields #[.str (.ofString "_law_box") 516, .str (.ofString "_law_box") 517, .str (.ofString "/claim/cut.py") 518, .int 192 0, .int 1 0, .int 0 0, .int 0 0, .int 3 0, .ref 199, .bool true, .int 181 0, .ref 200, .none, .none, .none, .ref 201, .int 519 0, .int 192 0, .str (.ofString "/claim/cut.py") 520], #[]⟩) ::
  (nat_lit 203, ⟨.type "function", none, .func ⟨.ofString "_law_box", .ofString "_law_box", fA203, .stmts fB203, fS203, 3, [], .none, .none, .none, .str (.ofString "law_nz0571_01") 488, none, .ref 202, .none, 0⟩, #[]⟩) ::
  (nat_lit 204, ⟨.type "tuple", none, .seq #[], #[]⟩) ::
  (nat_lit 206, ⟨.type "tuple", none, .seq #[.str (.ofString "box") 525, .str (.ofString "form") 526], #[]⟩) ::
  (nat_lit 207, ⟨.type "tuple", none, .seq #[], #[]⟩) ::
  (nat_lit 209, ⟨.type "code", none, .fields #[.str (.ofString "_law_token") 522, .str (.ofString "_law_token") 523, .str (.ofString "/claim/cut.py") 524, .int 197 0, .int 1 0, .int 0 0, .int 0 0, .int 3 0, .ref 204, .bool true, .int 181 0, .ref 205, .none, .ref 206, .ref 207, .ref 208, .int 527 0, .int 197 0, .str (.ofString "/claim/cut.py") 528], #[]⟩) ::
  (nat_lit 210, ⟨.type "function", none, .func ⟨.ofString "_law_token", .ofString "_law_token", fA210, .stmts fB210, fS210, 3, [], .none, .none, .none, .str (.ofString "law_nz0571_01") 488, none, .ref 209, .none, 0⟩, #[]⟩) ::
  (nat_lit 211, ⟨.type "tuple", none, .seq #[], #[]⟩) ::
  (nat_lit 213, ⟨.type "tuple", none, .seq #[.str (.ofString "box") 533, .str (.ofString "form") 534, .str (.ofString "found") 535, .str (.ofString "turn") 536, .str (.ofString "item") 537], #[]⟩) ::
  (nat_lit 214, ⟨.type "tuple", none, .seq #[], #[]⟩) ::
  (nat_lit 216, ⟨.type "code", none, .fields #[.str (.ofString "_law_end") 530, .str (.ofString "_law_end") 531, .str (.ofString "/claim/cut.py") 532, .int 208 0, .int 1 0, .int 0 0, .int 0 0, .int 3 0, .ref 211, .bool true, .int 181 0, .ref 212, .none, .ref 213, .ref 214, .ref 215, .int 538 0, .int 208 0, .str (.ofString "/claim/cut.py") 539], #[]⟩) ::
  (nat_lit 217, ⟨.type "function", none, .func ⟨.ofString "_law_end", .ofString "_law_end", fA217, .stmts fB217, fS217, 3, [], .none, .none, .none, .str (.ofString "law_nz0571_01") 488, none, .ref 216, .none, 0⟩, #[]⟩) ::
  (nat_lit 218, ⟨.type "tuple", none, .seq #[], #[]⟩) ::
  (nat_lit 221, ⟨.type "code", none, .fields #[.str (.ofString "_law_typed") 541, .str (.ofString "_law_typed") 542, .str (.ofString "/claim/cut.py") 543, .int 219 0, .int 3 0, .int 0 0, .int 0 0, .int 3 0, .ref 218, .bool true, .int 181 0, .ref 219, .none, .none, .none, .ref 220, .int 544 0, .int 219 0, .str (.ofString "/claim/cut.py") 545], #[]⟩) ::
  (nat_lit 222, ⟨.type "function", none, .func ⟨.ofString "_law_typed", .ofString "_law_typed", fA222, .stmts fB222, fS222, 3, [], .none, .none, .none, .str (.ofString "law_nz0571_01") 488, none, .ref 221, .none, 0⟩, #[]⟩) ::
  (nat_lit 223, ⟨.type "tuple", none, .seq #[], #[]⟩) ::
  (nat_lit 225, ⟨.type "tuple", none, .seq #[.str (.ofString "box") 550, .str (.ofString "tokens") 551, .str (.ofString "found") 552, .str (.ofString "is_data") 553, .str (.ofString "ahead") 554, .str (.ofString "token") 555, .str (.ofString "is_parted") 556], #[]⟩) ::
  (nat_lit 226, ⟨.type "tuple", none, .seq #[], #[]⟩) ::
  (nat_lit 228, ⟨.type "code", none, .fields #[.str (.ofString "_law_text") 547, .str (.ofString "_law_text") 548, .str (.ofString "/claim/cut.py") 549, .int 233 0, .int 2 0, .int 0 0, .int 0 0, .int 3 0, .ref 223, .bool true, .int 181 0, .ref 224, .none, .ref 225, .ref 226, .ref 227, .int 557 0, .int 233 0, .str (.ofString "/claim/cut.py") 558], #[]⟩) ::
  (nat_lit 229, ⟨.type "function", none, .func ⟨.ofString "_law_text", .ofString "_law_text", fA229, .stmts fB229, fS229, 3, [], .none, .none, .none, .str (.ofString "law_nz0571_01") 488, none, .ref 228, .none, 0⟩, #[]⟩) ::
  (nat_lit 230, ⟨.type "tuple", none, .seq #[], #[]⟩) ::
  (nat_lit 233, ⟨.type "code", none, .fields #[.str (.ofString "_law_octets") 560, .str (.ofString "_law_octets") 561, .str (.ofString "/claim/cut.py") 562, .int 242 0, .int 1 0, .int 0 0, .int 0 0, .int 3 0, .ref 230, .bool true, .int 181 0, .ref 231, .none, .none, .none, .ref 232, .int 563 0, .int 242 0, .str (.ofString "/claim/cut.py") 564], #[]⟩) ::
  (nat_lit 234, ⟨.type "function", none, .func ⟨.ofString "_law_octets", .ofString "_law_octets", fA234, .stmts fB234, fS234, 3, [], .none, .none, .none, .str (.ofString "law_nz0571_01") 488, none, .ref 233, .none, 0⟩, #[]⟩) ::
  (nat_lit 235, ⟨.type "tuple", none, .seq #[], #[]⟩) ::
  (nat_lit 237, ⟨.type "tuple", none, .seq #[.str (.ofString "work") 569, .str (.ofString "wrong") 570], #[]⟩) ::
  (nat_lit 238, ⟨.type "tuple", none, .seq #[], #[]⟩) ::
  (nat_lit 240, ⟨.type "code", none, .fields #[.str (.ofString "_law_heard") 566, .str (.ofString "_law_heard") 567, .str (.ofString "/claim/cut.py") 568, .int 254 0, .int 1 0, .int 0 0, .int 0 0, .int 3 0, .ref 235, .bool true, .int 181 0, .ref 236, .none, .ref 237, .ref 238, .ref 239, .int 571 0, .int 254 0, .str (.ofString "/claim/cut.py") 572], #[]⟩) ::
  (nat_lit 241, ⟨.type "function", none, .func ⟨.ofString "_law_heard", .ofString "_law_heard", fA241, .stmts fB241, fS241, 3, [], .none, .none, .none, .str (.ofString "law_nz0571_01") 488, none, .ref 240, .none, 0⟩, #[]⟩) ::
  (nat_lit 242, ⟨.type "tuple", none, .seq #[], #[]⟩) ::
  (nat_lit 245, ⟨.type "code", none, .fields #[.str (.ofString "law") 574, .str (.ofString "law") 575, .str (.ofString "/claim/cut.py") 576, .int 259 0, .int 1 0, .int 0 0, .int 0 0, .int 3 0, .ref 242, .bool true, .int 181 0, .ref 243, .none, .none, .none, .ref 244, .int 577 0, .int 259 0, .str (.ofString "/claim/cut.py") 578], #[]⟩) ::
  (nat_lit 246, ⟨.type "function", none, .func ⟨.ofString "law", .ofString "law", fA246, .stmts fB246, fS246, 3, [], .none, .none, .none, .str (.ofString "law_nz0571_01") 488, none, .ref 245, .none, 0⟩, #[]⟩) :: []
noncomputable abbrev KA : List Addr := 2 :: 3 :: 15 :: 16 :: 17 :: 24 :: 26 :: 27 :: 29 :: 30 :: 31 :: 32 :: 33 :: 34 :: 37 :: 39 :: 40 :: 42 :: 43 :: 44 :: 47 :: 48 :: 49 :: 51 :: 52 :: 54 :: 55 :: 56 :: 58 :: 59 :: 61 :: 62 :: 63 :: 65 :: 66 :: 68 :: 69 :: 70 :: 72 :: 73 :: 75 :: 76 :: 77 :: 79 :: 80 :: 82 :: 83 :: 84 :: 86 :: 87 :: 89 :: 90 :: 91 :: 93 :: 94 :: 96 :: 97 :: 98 :: 100 :: 101 :: 103 :: 104 :: 105 :: 107 :: 108 :: 110 :: 111 :: 112 :: 114 :: 115 :: 117 :: 118 :: 119 :: 121 :: 122 :: 124 :: 125 :: 126 :: 128 :: 129 :: 131 :: 132 :: 133 :: 135 :: 136 :: 138 :: 139 :: 140 :: 142 :: 143 :: 145 :: 146 :: 147 :: 150 :: 151 :: 152 :: 154 :: 155 :: 157 :: 158 :: 159 :: 162 :: 163 :: 164 :: 166 :: 167 :: 169 :: 170 :: 171 :: 173 :: 174 :: 176 :: 177 :: 178 :: 180 :: 181 :: 183 :: 184 :: 185 :: 187 :: 188 :: 190 :: 191 :: 192 :: 194 :: 195 :: 197 :: 198 :: 199 :: 202 :: 203 :: 204 :: 206 :: 207 :: 209 :: 210 :: 211 :: 213 :: 214 :: 216 :: 217 :: 218 :: 221 :: 222 :: 223 :: 225 :: 226 :: 228 :: 229 :: 230 :: 233 :: 234 :: 235 :: 237 :: 238 :: 240 :: 241 :: 242 :: 245 :: 246 :: []
end Mine

open PySem PySem.W PyProof.Rows
set_option Elab.async false
namespace Mine
noncomputable abbrev HK : Hook := kmHook KH KA (fun _ => by kernel_rfl) [243]
set_option maxRecDepth 100000 in
set_option maxHeartbeats 80000000 in
theorem left : LeftO PySem.Challenge.rw_nz0571_01.row.prog view loose (fun s => xlAt view [] s && recOk (RowW.records PySem.Challenge.rw_nz0571_01.row.toRowW) s) (Hook.obs HK) (Hook.val HK) 2908 := by
  intro w
  kernel_rfl
end Mine

section
set_option maxHeartbeats 1000000
open PySem PySem.W PyProof.Rows PySem.Spec PySem.Calls
set_option Elab.async false
set_option linter.unusedVariables false
set_option maxRecDepth 100000
namespace Mine
theorem nn {p : Prop} (h : ¬p → False) : p := Classical.byContradiction h
theorem nle {a b m k j : Nat} (h : a + j = b) (h2 : m ≤ b) (hd : Nat.ble (k + j) m = true) : k ≤ a := Nat.le_of_add_le_add_right (Nat.le_trans (Nat.le_of_ble_eq_true hd) (h ▸ h2))
theorem nb {n m : Nat} (h : Nat.ble n m = true) : n ≤ m := Nat.le_of_ble_eq_true h

/-! ## abstract values, the relation -/
inductive V where
  | none
  | bool (b : Bool)
  | int (i : Int)
  | str (x : List Nat)
  | tup (l : List V)
  | lst (i : Nat)
  | fro (l : List V)
  | scr (l : List V)
deriving Inhabited

noncomputable abbrev St := List (List V)
noncomputable def TupE (h : Heap) (a : Addr) (vs : List Value) : Prop := ∃ n, h.get? a = some { cls := .type "tuple", data := .seq vs.toArray n }
noncomputable def LstE (h : Heap) (a : Addr) (vs : List Value) : Prop := ∃ n, h.get? a = some { cls := .type "list", data := .seq vs.toArray n }
theorem TupE.tup {h : Heap} {a : Addr} {vs : List Value} (t : TupE h a vs) : IsTup h a vs.toArray := let ⟨n, e⟩ := t; ⟨_, e, rfl, n, rfl⟩
theorem LstE.list {h : Heap} {a : Addr} {vs : List Value} (t : LstE h a vs) : h.IsList a vs.toArray := let ⟨n, e⟩ := t; ⟨_, e, rfl, n, rfl⟩
/-- the codes of a text -/
noncomputable abbrev cs (x : Str) : List Nat := x.cps.toList

mutual
inductive RV (h : Heap) (ρ : List Addr) : Value → V → Prop
  | none : RV h ρ .none .none
  | bool (b) : RV h ρ (.bool b) (.bool b)
  | int (i t) : RV h ρ (.int i t) (.int i)
  | str (x t) : RV h ρ (.str x t) (.str (cs x))
  | tup {a vs l} : TupE h a vs → a ∉ ρ → RVs h ρ vs l → RV h ρ (.ref a) (.tup l)
  | lst {i a} : ρ[i]? = some a → RV h ρ (.ref a) (.lst i)
  | fro {a vs l} : LstE h a vs → a ∉ ρ → RVs h ρ vs l → RV h ρ (.ref a) (.fro l)
  | scr {a vs l} : h.IsList a vs.toArray → a ∉ ρ → RVs h ρ vs l → RV h ρ (.ref a) (.scr l)
inductive RVs (h : Heap) (ρ : List Addr) : List Value → List V → Prop
  | nil : RVs h ρ [] []
  | cons {v vs d ds} : RV h ρ v d → RVs h ρ vs ds → RVs h ρ (v :: vs) (d :: ds)
end

/-- nothing but the lists of ρ and the objects of S has turned (but for slots and records); what ρ gained is new -/
structure Grow (S : Addr → Prop) (h : Heap) (ρ : List Addr) (h' : Heap) (ρ' : List Addr) : Prop where
  pre : ∃ tl, ρ' = ρ ++ tl
  fresh : ∀ a ∈ ρ', a ∈ ρ ∨ h.get? a = none
  live : ∀ b, h.get? b ≠ none → h'.get? b ≠ none
  keep : ∀ b o, h.get? b = some o → b ∉ ρ → ¬ S b → (∀ vs, o.data ≠ .fields vs) → ∃ sl, h'.get? b = some { o with slots := sl }
  seq : ∀ b o, h.get? b = some o → b ∉ ρ → ¬ S b → (∃ xs n, o.data = .seq xs n) → h'.get? b = some o
  tab : ∀ b o, h.get? b = some o → b ∉ ρ → ¬ S b → o.cls = .none → (∃ ps, o.data = .fields ps) → h'.get? b = some o

/-- the exact one -/
structure Ext (S : Addr → Prop) (h : Heap) (ρ : List Addr) (h' : Heap) (ρ' : List Addr) : Prop where
  pre : ∃ tl, ρ' = ρ ++ tl
  fresh : ∀ a ∈ ρ', a ∈ ρ ∨ h.get? a = none
  live : ∀ b, h.get? b ≠ none → h'.get? b ≠ none
  keep : ∀ b o, h.get? b = some o → b ∉ ρ → ¬ S b → h'.get? b = some o

noncomputable abbrev no : Addr → Prop := fun _ => False

section
variable {S S' : Addr → Prop} {h h' h'' : Heap} {ρ ρ' ρ'' : List Addr}
theorem Ext.grow (x : Ext S h ρ h' ρ') : Grow S h ρ h' ρ' := ⟨x.pre, x.fresh, x.live, fun b o e n s _ => ⟨o.slots, x.keep b o e n s⟩, fun b o e n s _ => x.keep b o e n s, fun b o e n s _ _ => x.keep b o e n s⟩
theorem Ext.refl : Ext S h ρ h ρ := ⟨⟨[], by simp⟩, fun _ a => .inl a, fun _ e => e, fun _ _ e _ _ => e⟩
theorem Ext.weak (x : Ext S h ρ h' ρ') (k : ∀ a, S a → S' a) : Ext S' h ρ h' ρ' :=
  ⟨x.pre, x.fresh, x.live, fun b o e n s => x.keep b o e n fun q => s (k b q)⟩
theorem Ext.up (x : Ext no h ρ h' ρ') : Ext S h ρ h' ρ' := x.weak fun _ q => q.elim
theorem Grow.weak (x : Grow S h ρ h' ρ') (k : ∀ a, S a → S' a) : Grow S' h ρ h' ρ' :=
  ⟨x.pre, x.fresh, x.live, fun b o e n s => x.keep b o e n fun q => s (k b q), fun b o e n s => x.seq b o e n fun q => s (k b q), fun b o e n s => x.tab b o e n fun q => s (k b q)⟩
theorem Grow.up (x : Grow no h ρ h' ρ') : Grow S h ρ h' ρ' := x.weak fun _ q => q.elim
theorem Ext.trans (x : Ext S h ρ h' ρ') (y : Ext S h' ρ' h'' ρ'') : Ext S h ρ h'' ρ'' := by
  refine nn fun nG => ?_
  obtain ⟨t1, e1⟩ := x.pre
  obtain ⟨t2, e2⟩ := y.pre
  refine nG ?_
  clear nG
  refine ⟨⟨t1 ++ t2, by rw [e2, e1, List.append_assoc]⟩, fun a ha => ?_, fun b e => y.live b (x.live b e), fun b o e n s => ?_⟩
  · rcases y.fresh a ha with q | q
    · exact x.fresh a q
    · right
      apply Classical.byContradiction
      intro hn
      exact x.live a hn q
  · refine y.keep b o (x.keep b o e n s) (fun q => ?_) s
    rcases x.fresh b q with q | q
    · exact n q
    · rw [e] at q; cases q
theorem Grow.trans (x : Grow S h ρ h' ρ') (y : Grow S h' ρ' h'' ρ'') : Grow S h ρ h'' ρ'' := by
  refine nn fun nG => ?_
  obtain ⟨t1, e1⟩ := x.pre
  obtain ⟨t2, e2⟩ := y.pre
  refine nG ?_
  clear nG
  have nn : ∀ b o, h.get? b = some o → b ∉ ρ → b ∉ ρ' := fun b o e n q => by
    rcases x.fresh b q with q | q
    · exact n q
    · rw [e] at q; cases q
  refine ⟨⟨t1 ++ t2, by rw [e2, e1, List.append_assoc]⟩, fun a ha => ?_, fun b e => y.live b (x.live b e), fun b o e n s f => ?_, fun b o e n s f => y.seq b o (x.seq b o e n s f) (nn b o e n) s f, fun b o e n s f g => y.tab b o (x.tab b o e n s f g) (nn b o e n) s f g⟩
  · rcases y.fresh a ha with q | q
    · exact x.fresh a q
    · right
      apply Classical.byContradiction
      intro hn
      exact x.live a hn q
  · obtain ⟨sl, e1⟩ := x.keep b o e n s f
    obtain ⟨sl', e2⟩ := y.keep b _ e1 (fun q => by
      rcases x.fresh b q with q | q
      · exact n q
      · rw [e] at q; cases q) s f
    exact ⟨sl', e2⟩
theorem Grow.mem (x : Grow S h ρ h' ρ') {i : Nat} {a : Addr} (e : ρ[i]? = some a) : ρ'[i]? = some a := by
  obtain ⟨tl, rfl⟩ := x.pre
  rw [List.getElem?_append_left (List.getElem?_eq_some_iff.mp e).1]; exact e
theorem Grow.nin (x : Grow S h ρ h' ρ') {a : Addr} {o : Obj} (e : h.get? a = some o) (n : a ∉ ρ) : a ∉ ρ' := fun q => by
  rcases x.fresh a q with q | q
  · exact n q
  · rw [e] at q; cases q

/-- S holds no lists, no tuples -/
noncomputable def Bare (S : Addr → Prop) (h : Heap) : Prop := ∀ a o, S a → h.get? a = some o → ∀ xs n, o.data ≠ .seq xs n
theorem bare_no : Bare no h := fun _ _ q => q.elim

theorem Grow.tup {a : Addr} {xs : List Value} (x : Grow S h ρ h' ρ') (b : Bare S h) (t : TupE h a xs) (n : a ∉ ρ) : TupE h' a xs ∧ a ∉ ρ' := by
  obtain ⟨k, ho⟩ := t
  exact ⟨⟨k, x.seq a _ ho n (fun q => b a _ q ho _ _ rfl) ⟨_, _, rfl⟩⟩, x.nin ho n⟩
theorem Grow.lste {a : Addr} {xs : List Value} (x : Grow S h ρ h' ρ') (b : Bare S h) (t : LstE h a xs) (n : a ∉ ρ) : LstE h' a xs ∧ a ∉ ρ' := by
  obtain ⟨k, ho⟩ := t
  exact ⟨⟨k, x.seq a _ ho n (fun q => b a _ q ho _ _ rfl) ⟨_, _, rfl⟩⟩, x.nin ho n⟩
theorem Grow.list {a : Addr} {xs : Array Value} (x : Grow S h ρ h' ρ') (b : Bare S h) (t : h.IsList a xs) (n : a ∉ ρ) : h'.IsList a xs ∧ a ∉ ρ' := by
  refine nn fun nG => ?_
  obtain ⟨o, ho, hc, k, hd⟩ := t
  obtain ⟨sl, e⟩ := x.keep a o ho n (fun q => b a o q ho _ _ hd) (fun vs q => by rw [hd] at q; cases q)
  refine nG ?_
  clear nG
  exact ⟨⟨_, e, hc, k, hd⟩, x.nin ho n⟩
mutual
theorem RV.mono (x : Grow S h ρ h' ρ') (b : Bare S h) : ∀ {v : Value} {d : V}, RV h ρ v d → RV h' ρ' v d
  | _, _, .none => .none
  | _, _, .bool b => .bool b
  | _, _, .int i t => .int i t
  | _, _, .str i t => .str i t
  | _, _, .tup t n r => .tup (x.tup b t n).1 (x.tup b t n).2 (RVs.mono x b r)
  | _, _, .lst e => .lst (x.mem e)
  | _, _, .fro t n r => .fro (x.lste b t n).1 (x.lste b t n).2 (RVs.mono x b r)
  | _, _, .scr t n r => .scr (x.list b t n).1 (x.list b t n).2 (RVs.mono x b r)
theorem RVs.mono (x : Grow S h ρ h' ρ') (b : Bare S h) : ∀ {vs : List Value} {ds : List V}, RVs h ρ vs ds → RVs h' ρ' vs ds
  | _, _, .nil => .nil
  | _, _, .cons r rs => .cons (RV.mono x b r) (RVs.mono x b rs)
end
theorem RVs.length {vs : List Value} {ds : List V} : RVs h ρ vs ds → vs.length = ds.length := by
  intro r
  induction vs generalizing ds with
  | nil => cases r; rfl
  | cons v vs ih => cases r with | cons _ r => simp [ih r]
theorem RVs.get {vs : List Value} {ds : List V} (r : RVs h ρ vs ds) {i : Nat} {d : V} (e : ds[i]? = some d) : ∃ v, vs[i]? = some v ∧ RV h ρ v d := by
  induction vs generalizing ds i with
  | nil => cases r; simp at e
  | cons v vs ih =>
    cases r with
    | cons r rs =>
      cases i with
      | zero => simp at e; subst e; exact ⟨v, rfl, r⟩
      | succ i => simp at e; exact ih rs e
theorem RVs.append {vs ws : List Value} {ds es : List V} (r : RVs h ρ vs ds) (q : RVs h ρ ws es) : RVs h ρ (vs ++ ws) (ds ++ es) := by
  induction vs generalizing ds with
  | nil => cases r; exact q
  | cons v vs ih => cases r with | cons a b => exact .cons a (ih b)
end

/-! ## the ground, the state -/
structure Ctx where
  K : Frag
  h₀ : Heap
  fs : List Env
  n : Nat

structure Cx (C : Ctx) (A : Around) : Prop where
  kin : C.K.In C.h₀
  top : ∃ p loose mean mg mb, Top p loose mean mg mb C.h₀
  hand : A.handled = none
  frames : A.frames = some C.fs
  depth : A.depth + C.n < recursionLimit
  units : A.units + 8 * C.n < cLine

noncomputable def Frs (h₀ h : Heap) (fs : List Env) : Prop := ∀ env ∈ fs, env.scope.kind = .function ∧ ∃ L m, env.frame = some L ∧ h₀.get? L = none ∧ h.Ns L m
structure Rl (C : Ctx) (h : Heap) (ρ : List Addr) (μ : St) : Prop where
  stay : C.h₀.StaysIn h
  frm : Frs C.h₀ h C.fs
  nd : ρ.Nodup
  len : ρ.length = μ.length
  lst : ∀ (i : Nat) (a : Addr) (l : List V), ρ[i]? = some a → μ[i]? = some l → ∃ vs : List Value, LstE h a vs ∧ RVs h ρ vs l
  new : ∀ a ∈ ρ, C.h₀.get? a = none

noncomputable def Held (env : Env) (h : Heap) (x : Str) (v : Value) : Prop :=
  (env.kindOf x = some .local ∧ ∃ m, h.Ns env.locals m ∧ m x = some v) ∨
  ((env.kindOf x = some .cell ∨ (env.kindOf x = some .free ∧ (x == ("__classdict__" : Str)) = false)) ∧ ∃ c, env.cells.lookup x = some c ∧ h.IsCell c (some v))

noncomputable def SE (env : Env) : Addr → Prop := fun a => a = env.locals ∨ ∃ c ∈ env.cells, c.2 = a

structure Lc (C : Ctx) (env : Env) (h : Heap) (ρ : List Addr) (loc : List (Str × V)) : Prop where
  kind : env.scope.kind = .function
  glob : env.globals = mainGlobals
  bult : env.builtins = builtinsNs
  ns : ∃ m, h.Ns env.locals m
  hn : C.h₀.get? env.locals = none
  cel : ∀ c ∈ env.cells, ∃ v, h.IsCell c.2 v
  nd : (loc.map (·.1)).Nodup
  held : ∀ p ∈ loc, ∃ v, Held env h p.1 v ∧ RV h ρ v p.2

section
variable {C : Ctx} {env : Env} {h h' : Heap} {ρ ρ' : List Addr} {loc : List (Str × V)} {S : Addr → Prop} {μ : St}
theorem Rl.isl (R : Rl C h ρ μ) {a : Addr} (m : a ∈ ρ) : ∃ xs, h.IsList a xs := by
  refine nn fun nG => ?_
  obtain ⟨i, hi, e⟩ := List.getElem_of_mem m
  obtain ⟨vs, l, _⟩ := R.lst i a (μ[i]'(R.len ▸ hi)) (by rw [List.getElem?_eq_getElem hi, e]) (List.getElem?_eq_getElem _)
  refine nG ?_
  clear nG
  exact ⟨_, l.list⟩
theorem Lc.nin (R : Rl C h ρ μ) (L : Lc C env h ρ loc) : ∀ a, SE env a → a ∉ ρ := by
  intro a s m
  refine nn fun nG => ?_
  obtain ⟨xs, o, ho, _, k, hd⟩ := R.isl m
  refine nG ?_
  clear nG
  rcases s with rfl | ⟨c, hc, rfl⟩
  · refine nn fun nG => ?_
    obtain ⟨_, o', es, ep, ho', hd', _⟩ := L.ns
    refine nG ?_
    clear nG
    rw [ho] at ho'; cases ho'; rw [hd] at hd'; cases hd'
  · refine nn fun nG => ?_
    obtain ⟨v, o', ho', hd'⟩ := L.cel c hc
    refine nG ?_
    clear nG
    rw [ho] at ho'; cases ho'; rw [hd] at hd'; cases hd'
theorem Lc.bare (L : Lc C env h ρ loc) : Bare (SE env) h := by
  intro a o s ho xs n hd
  rcases s with rfl | ⟨c, hc, rfl⟩
  · refine nn fun nG => ?_
    obtain ⟨_, o', es, ep, ho', hd', _⟩ := L.ns
    refine nG ?_
    clear nG
    rw [ho] at ho'; cases ho'; rw [hd] at hd'; cases hd'
  · refine nn fun nG => ?_
    obtain ⟨v, o', ho', hd'⟩ := L.cel c hc
    refine nG ?_
    clear nG
    rw [ho] at ho'; cases ho'; rw [hd] at hd'; cases hd'
theorem Grow.ns (x : Grow S h ρ h' ρ') {L : Addr} {m : Str → Option Value} (n : h.Ns L m) (hs : ¬ S L) (hr : L ∉ ρ) : h'.Ns L m := by
  refine nn fun nG => ?_
  obtain ⟨o, es, ep, ho, hd, r⟩ := n
  obtain ⟨sl, e⟩ := x.keep L o ho hr hs (fun vs q => by rw [hd] at q; cases q)
  refine nG ?_
  clear nG
  exact ⟨_, es, ep, e, hd, r⟩
theorem Grow.cell (x : Grow S h ρ h' ρ') {c : Addr} {v : Option Value} (n : h.IsCell c v) (hs : ¬ S c) (hr : c ∉ ρ) : h'.IsCell c v := by
  refine nn fun nG => ?_
  obtain ⟨o, ho, hd⟩ := n
  obtain ⟨sl, e⟩ := x.keep c o ho hr hs (fun vs q => by rw [hd] at q; cases q)
  refine nG ?_
  clear nG
  exact ⟨_, e, hd⟩
theorem mem_cells {cl : List (Str × Addr)} {x : Str} {c : Addr} (e : cl.lookup x = some c) : ∃ p ∈ cl, p.2 = c := by
  induction cl with
  | nil => cases e
  | cons p r ih =>
    obtain ⟨y, d⟩ := p
    rw [List.lookup_cons] at e
    split at e
    · cases e; exact ⟨_, .head _, rfl⟩
    · obtain ⟨p, m, q⟩ := ih e; exact ⟨p, .tail _ m, q⟩
theorem Lc.mono (L : Lc C env h ρ loc) (R : Rl C h ρ μ) (x : Grow no h ρ h' ρ') : Lc C env h' ρ' loc := by
  refine ⟨L.kind, L.glob, L.bult, ?_, L.hn, ?_, L.nd, ?_⟩
  · obtain ⟨m, n⟩ := L.ns
    exact ⟨m, x.ns n (fun q => q) (L.nin R _ (.inl rfl))⟩
  · intro c hc
    obtain ⟨v, n⟩ := L.cel c hc
    exact ⟨v, x.cell n (fun q => q) (L.nin R _ (.inr ⟨c, hc, rfl⟩))⟩
  · intro p hp
    refine nn fun nG => ?_
    obtain ⟨v, hv, r⟩ := L.held p hp
    refine nG ?_
    clear nG
    refine ⟨v, ?_, RV.mono x bare_no r⟩
    rcases hv with ⟨k, m, n, e⟩ | ⟨k, c, hc, i⟩
    · exact .inl ⟨k, m, x.ns n (fun q => q) (L.nin R _ (.inl rfl)), e⟩
    · refine nn fun nG => ?_
      obtain ⟨q, hq, rfl⟩ := mem_cells hc
      refine nG ?_
      clear nG
      exact .inr ⟨k, q.2, hc, x.cell i (fun q => q) (L.nin R _ (.inr ⟨q, hq, rfl⟩))⟩
end

/-- a record, no table -/
noncomputable def TF (o : Obj) (ts : Array Value) : Prop := o.data = .fields ts ∧ o.cls ≠ .none
/-- the exception is of the class at 33, its dict holds kind -/
noncomputable def ExcFl (C : Ctx) (h : Heap) (e : Addr) (vs : Array Value) : Prop :=
  vs[1]? = some .none ∨ ∃ T oT ts fl, vs[1]? = some (.ref T) ∧ C.h₀.get? T = none ∧ T ≠ e ∧ h.get? T = some oT ∧ TF oT ts ∧ ts[3]? = some fl ∧
    (fl = .none ∨ ∃ env outer L, C.fs = env :: outer ∧ env.frame = some L ∧ fl = rawInt L)
noncomputable def Exc (C : Ctx) (h : Heap) (e : Addr) (k : Str) : Prop :=
  C.h₀.get? e = none ∧ ∃ oe vs d m t, h.get? e = some oe ∧ oe.cls = .ref 33 ∧ oe.data = .fields vs ∧ oe.dict = some d ∧ h.Ns d m ∧ m "kind" = some (.str k t) ∧ ExcFl C h e vs

/-! ## the triples -/
section
variable {α β : Type}
noncomputable def OkP (C : Ctx) (S : Addr → Prop) (R : Heap → List Addr → α → β → Prop) (s : Shared) (ρ : List Addr) (Q : β → St → Prop) (P : α → Shared → Prop) : Prop :=
  ∀ a b μ' ρ' h' tk, R h' ρ' a b → Q b μ' → Rl C h' ρ' μ' → Ext S s.heap ρ h' ρ' → P a { s with heap := h', toks := tk }
noncomputable def ErP (C : Ctx) (S : Addr → Prop) (s : Shared) (ρ : List Addr) (X : Str → St → Prop) (PE : Value → Shared → Prop) : Prop :=
  ∀ e k μ' ρ' h' tk, X k μ' → Rl C h' ρ' μ' → Exc C h' e k → Grow S s.heap ρ h' ρ' → PE (.ref e) { s with heap := h', toks := tk }
noncomputable def Run (prog : Program) (w : World) (C : Ctx) (S : Addr → Prop) (R : Heap → List Addr → α → β → Prop) (t : Sem α) (A : Around) (s : Shared) (ρ : List Addr) (Q : β → St → Prop) (X : Str → St → Prop) : Prop :=
  ∀ (P : α → Shared → Prop) (PE : Value → Shared → Prop), OkP C S R s ρ Q P → ErP C S s ρ X PE → wpAny (model prog w) A t P PE s
/-- a tree run in a frame -/
noncomputable def Ev (prog : Program) (w : World) (C : Ctx) (R : Heap → List Addr → α → β → Prop) (env : Env) (X : Str → St → Prop) (t : Sem α) (loc : List (Str × V)) (Q : β → St → Prop) (μ : St) : Prop :=
  ∀ A s ρ, Cx C A → Rl C s.heap ρ μ → Lc C env s.heap ρ loc → Run prog w C no R t A s ρ Q X
/-- a tree run upon related values -/
noncomputable def Op1 (prog : Program) (w : World) (C : Ctx) (R : Heap → List Addr → α → β → Prop) (f : Value → Sem α) (X : Str → St → Prop) (Q : β → St → Prop) (a : V) (μ : St) : Prop :=
  ∀ A s ρ u, Cx C A → Rl C s.heap ρ μ → RV s.heap ρ u a → Run prog w C no R (f u) A s ρ Q X
noncomputable def Op2 (prog : Program) (w : World) (C : Ctx) (R : Heap → List Addr → α → β → Prop) (f : Value → Value → Sem α) (X : Str → St → Prop) (Q : β → St → Prop) (a b : V) (μ : St) : Prop :=
  ∀ A s ρ u v, Cx C A → Rl C s.heap ρ μ → RV s.heap ρ u a → RV s.heap ρ v b → Run prog w C no R (f u v) A s ρ Q X
noncomputable def Op (prog : Program) (w : World) (C : Ctx) (R : Heap → List Addr → α → β → Prop) (f : List Value → Sem α) (X : Str → St → Prop) (Q : β → St → Prop) (args : List V) (μ : St) : Prop :=
  ∀ A s ρ vs, Cx C A → Rl C s.heap ρ μ → RVs s.heap ρ vs args → Run prog w C no R (f vs) A s ρ Q X
end
noncomputable def REq {α : Type} (_ : Heap) (_ : List Addr) (a b : α) : Prop := a = b

section
variable {prog : Program} {w : World} {C : Ctx} {α β : Type} {S : Addr → Prop} {R : Heap → List Addr → α → β → Prop} {t : Sem α} {A : Around} {s : Shared} {ρ : List Addr} {Q Q' : β → St → Prop} {X X' : Str → St → Prop} {P : α → Shared → Prop} {PE : Value → Shared → Prop} {μ : St}
theorem OkP.mono (p : OkP C S R s ρ Q' P) (hQ : ∀ b μ, Q b μ → Q' b μ) : OkP C S R s ρ Q P := fun a b μ' ρ' h' tk r q => p a b μ' ρ' h' tk r (hQ _ _ q)
theorem ErP.mono (p : ErP C S s ρ X' PE) (hX : ∀ k μ, X k μ → X' k μ) : ErP C S s ρ X PE := fun e k μ' ρ' h' tk x => p e k μ' ρ' h' tk (hX _ _ x)
theorem Run.mono (h : Run prog w C S R t A s ρ Q X) (hQ : ∀ b μ, Q b μ → Q' b μ) (hX : ∀ k μ, X k μ → X' k μ) : Run prog w C S R t A s ρ Q' X' :=
  fun P PE p pe => h P PE (p.mono hQ) (pe.mono hX)
theorem Ev.mono {env : Env} {loc : List (Str × V)} (h : Ev prog w C R env X t loc Q μ) (hQ : ∀ b μ, Q b μ → Q' b μ) (hX : ∀ k μ, X k μ → X' k μ) : Ev prog w C R env X' t loc Q' μ :=
  fun A s ρ cx rl lc => (h A s ρ cx rl lc).mono hQ hX
theorem Op.mono {f : List Value → Sem α} {args : List V} (h : Op prog w C R f X Q args μ) (hQ : ∀ b μ, Q b μ → Q' b μ) (hX : ∀ k μ, X k μ → X' k μ) : Op prog w C R f X' Q' args μ :=
  fun A s ρ vs cx rl r => (h A s ρ vs cx rl r).mono hQ hX
theorem ErP.then {h₁ : Heap} {ρ₁ : List Addr} {tk₁ : Nat} (pe : ErP C S s ρ X PE) (e : Ext S s.heap ρ h₁ ρ₁) : ErP C S { s with heap := h₁, toks := tk₁ } ρ₁ X PE :=
  fun e' k μ' ρ' h' tk x l ex g => pe e' k μ' ρ' h' tk x l ex (e.grow.trans g)
theorem OkP.then {h₁ : Heap} {ρ₁ : List Addr} {tk₁ : Nat} (p : OkP C S R s ρ Q P) (e : Ext S s.heap ρ h₁ ρ₁) : OkP C S R { s with heap := h₁, toks := tk₁ } ρ₁ Q P :=
  fun a b μ' ρ' h' tk r q l e' => p a b μ' ρ' h' tk r q l (e.trans e')
theorem OkP.same {a : α} {b : β} {tk₁ : Nat} (p : OkP C S R s ρ Q P) (r : R s.heap ρ a b) (q : Q b μ) (l : Rl C s.heap ρ μ) : P a { s with toks := tk₁ } := p a b μ ρ s.heap tk₁ r q l .refl
theorem OkP.at {a : α} {b : β} (p : OkP C S R s ρ Q P) (r : R s.heap ρ a b) (q : Q b μ) (l : Rl C s.heap ρ μ) : P a s := p a b μ ρ s.heap s.toks r q l .refl
end

/-! ## rules: constants, names -/
section
variable {prog : Program} {w : World} {C : Ctx} {X : Str → St → Prop} {env : Env} {loc : List (Str × V)} {Q : V → St → Prop} {μ : St}
theorem ev_int {i : Int} {k pos} (h : Q (.int i) μ) : Ev prog w C RV env X (eval (.Constant (.int i) k pos) env) loc Q μ :=
  fun A s ρ cx rl lc P PE p pe => wpAny_Constant_int (p.same (.int _ _) h rl)
theorem ev_str {x : Str} {k pos} (h : Q (.str (cs x)) μ) : Ev prog w C RV env X (eval (.Constant (.str x) k pos) env) loc Q μ :=
  fun A s ρ cx rl lc P PE p pe => wpAny_Constant_str (p.same (.str _ _) h rl)
theorem ev_bool {b : Bool} {k pos} (h : Q (.bool b) μ) : Ev prog w C RV env X (eval (.Constant (.bool b) k pos) env) loc Q μ :=
  fun A s ρ cx rl lc P PE p pe => wpAny_Constant_bool (p.at (.bool _) h rl)

theorem ev_loc {x : Str} {pos} {v : V} (m : (x, v) ∈ loc) (h : Q v μ) (hd : (x == ("__debug__" : Str)) = false) : Ev prog w C RV env X (eval (.Name x pos) env) loc Q μ := by
  intro A s ρ cx rl lc P PE p pe
  refine nn fun nG => ?_
  obtain ⟨u, hu, r⟩ := lc.held _ m
  refine nG ?_
  clear nG
  have e : P u s := p.at r h rl
  rcases hu with ⟨k, mm, n, e'⟩ | ⟨k, c, hc, i⟩
  · exact wpAny_Name (wpAny_loadName_local lc.kind k n e' e) hd
  · rcases k with k | ⟨k, k'⟩
    · exact wpAny_Name (wpAny_loadName_cell lc.kind k hc i e) hd
    · exact wpAny_Name (wpAny_loadName_free lc.kind k hc i e k') hd
theorem ev_glob {x : Str} {pos} {u : Value} {v : V} (g : nsIn C.K mainGlobals x = some (some u)) (r : ∀ h ρ, C.K.In h → (∀ a ∈ ρ, C.h₀.get? a = none) → C.K.In C.h₀ → RV h ρ u v) (h : Q v μ) (hk : env.kindOf x = some .globalImplicit) (hd : (x == ("__debug__" : Str)) = false) :
    Ev prog w C RV env X (eval (.Name x pos) env) loc Q μ := by
  intro A s ρ cx rl lc P PE p pe
  refine nn fun nG => ?_
  obtain ⟨_, _, _, mg, mb, T⟩ := cx.top
  refine nG ?_
  clear nG
  exact Name_function_global lc.kind hk (loadGlobal_global (by rw [lc.glob]; exact T.g.keeps rl.stay) (mg_of cx.kin T.g g) (p.at (r _ _ (fun a o e => rl.stay _ _ (cx.kin a o e)) rl.new cx.kin) h rl)) hd
end
end Mine
end

section
set_option maxHeartbeats 1000000
open PySem PySem.W PyProof.Rows PySem.Spec PySem.Calls
set_option Elab.async false
set_option linter.unusedVariables false
set_option maxRecDepth 100000
namespace Mine

/-! ## the state under a step -/
section
variable {C : Ctx} {h h' : Heap} {ρ : List Addr} {μ : St}
theorem ext_of (k : ∀ b o, h.get? b = some o → h'.get? b = some o) : Ext no h ρ h' ρ :=
  ⟨⟨[], by simp⟩, fun a m => .inl m, fun b e => by
    cases q : h.get? b with
    | none => exact absurd q e
    | some o => rw [k b o q]; simp, fun b o e _ _ => k b o e⟩
theorem Rl.keeps (R : Rl C h ρ μ) (k : ∀ b o, h.get? b = some o → h'.get? b = some o) : Rl C h' ρ μ := by
  refine ⟨fun b o e => k b o (R.stay b o e), fun env m => ?_, R.nd, R.len, fun i a l e1 e2 => ?_, R.new⟩
  · refine nn fun nG => ?_
    obtain ⟨h1, L, mm, h2, h3, h4⟩ := R.frm env m
    refine nG ?_
    clear nG
    exact ⟨h1, L, mm, h2, h3, h4.keeps k⟩
  · refine nn fun nG => ?_
    obtain ⟨vs, ⟨o, ho⟩, q⟩ := R.lst i a l e1 e2
    refine nG ?_
    clear nG
    exact ⟨vs, ⟨o, k a _ ho⟩, RVs.mono (ext_of k).grow bare_no q⟩
theorem push_keeps (o : Obj) : ∀ b o', h.get? b = some o' → (h.push o).get? b = some o' := fun b o' e => Heap.get?_push_of_some o e
theorem fresh_none {h : Heap} : h.get? h.objs.size = none := by
  cases q : h.get? h.objs.size with
  | none => rfl
  | some o => exact absurd (Heap.lt_size q) (Nat.lt_irrefl _)
theorem Rl.nins (R : Rl C h ρ μ) {a : Addr} (e : h.get? a = none) : a ∉ ρ := fun m => by
  refine nn fun nG => ?_
  obtain ⟨xs, o, ho, _⟩ := R.isl m
  refine nG ?_
  clear nG
  rw [e] at ho; cases ho
theorem Rl.alloc (R : Rl C h ρ μ) (k : ∀ b o, h.get? b = some o → h'.get? b = some o) {a : Addr} (e : h.get? a = none) {vs : List Value} {l : List V} (il : LstE h' a vs) (r : RVs h ρ vs l) :
    Rl C h' (ρ ++ [a]) (μ ++ [l]) ∧ Ext no h ρ h' (ρ ++ [a]) := by
  have hn := R.nins e
  have ex : Ext no h ρ h' (ρ ++ [a]) := ⟨⟨[a], rfl⟩, fun b m => (List.mem_append.mp m).imp id fun m => by rw [List.mem_singleton.mp m]; exact e, (ext_of (ρ := ρ) k).live, fun b o e _ _ => k b o e⟩
  have R' := R.keeps k
  refine ⟨⟨R'.stay, R'.frm, ?_, by simp [R.len], fun i b l' e1 e2 => ?_, fun b m => ?_⟩, ex⟩
  · exact List.nodup_append.mpr ⟨R.nd, by simp, fun x hx y hy => by rw [List.mem_singleton.mp hy]; exact fun q => hn (q ▸ hx)⟩
  · by_cases hi : i < ρ.length
    · rw [List.getElem?_append_left hi] at e1
      rw [List.getElem?_append_left (R.len ▸ hi)] at e2
      refine nn fun nG => ?_
      obtain ⟨vs', il', r'⟩ := R.lst i b l' e1 e2
      obtain ⟨o, ho⟩ := il'
      refine nG ?_
      clear nG
      exact ⟨vs', ⟨o, k b _ ho⟩, RVs.mono ex.grow bare_no r'⟩
    · have h1 := (List.getElem?_eq_some_iff.mp e1).1
      simp at h1
      have hi' : i = ρ.length := by (first | lia | omega)
      subst hi'
      rw [List.getElem?_append_right (Nat.le_refl _)] at e1
      rw [R.len, List.getElem?_append_right (Nat.le_refl _)] at e2
      simp at e1 e2
      subst e1; subst e2
      exact ⟨vs, il, RVs.mono ex.grow bare_no r⟩
  · rcases List.mem_append.mp m with m | m
    · exact R.new b m
    · rw [List.mem_singleton.mp m]
      cases q : C.h₀.get? a with
      | none => rfl
      | some o => rw [R.stay _ _ q] at e; cases e
/-- one list turned -/
theorem Rl.turn (R : Rl C h ρ μ) {i : Nat} {a : Addr} (hi : ρ[i]? = some a) (sb : Heap.SameBut a h h') {vs : List Value} {l : List V} (il : LstE h' a vs) (r : RVs h ρ vs l) :
    Rl C h' ρ (μ.set i l) ∧ Ext no h ρ h' ρ := by
  have ma : a ∈ ρ := List.mem_of_getElem? hi
  have lv : ∀ b, h.get? b ≠ none → h'.get? b ≠ none := fun b e => by
    by_cases q : b = a
    · subst q; obtain ⟨o, ho⟩ := il; rw [ho]; simp
    · rw [sb.2 b q]; exact e
  have ex : Ext no h ρ h' ρ := ⟨⟨[], by simp⟩, fun a m => .inl m, lv, fun b o e n _ => (sb.2 b fun q => n (q ▸ ma)).trans e⟩
  refine ⟨⟨fun b o e => (sb.2 b fun q => ?_).trans (R.stay b o e), fun env m => ?_, R.nd, by simp [R.len], fun j b l' e1 e2 => ?_, R.new⟩, ex⟩
  · rw [q, R.new a ma] at e; cases e
  · refine nn fun nG => ?_
    obtain ⟨xs, oa, hoa, _, n, hd⟩ := R.isl ma
    obtain ⟨h1, L, mm, h2, h3, h4⟩ := R.frm env m
    refine nG ?_
    clear nG
    refine ⟨h1, L, mm, h2, h3, h4.sameBut sb fun q => ?_⟩
    subst q
    refine nn fun nG => ?_
    obtain ⟨o', es, ep, ho', hd', _⟩ := h4
    refine nG ?_
    clear nG
    rw [hoa] at ho'; cases ho'; rw [hd] at hd'; cases hd'
  · by_cases q : j = i
    · subst q
      rw [hi] at e1; cases e1
      have hl : j < μ.length := R.len ▸ (List.getElem?_eq_some_iff.mp hi).1
      rw [List.getElem?_set_self hl] at e2; cases e2
      exact ⟨vs, il, RVs.mono ex.grow bare_no r⟩
    · rw [List.getElem?_set_ne (Ne.symm q)] at e2
      refine nn fun nG => ?_
      obtain ⟨vs', ⟨o, ho⟩, r'⟩ := R.lst j b l' e1 e2
      refine nG ?_
      clear nG
      have hb : b ≠ a := fun e => by
        subst e
        exact q ((List.getElem?_inj (List.getElem?_eq_some_iff.mp e1).1 R.nd).mp (e1.trans hi.symm))
      exact ⟨vs', ⟨o, (sb.2 b hb).trans ho⟩, RVs.mono ex.grow bare_no r'⟩
theorem RV.tupInv {v : Value} {l : List V} (r : RV h ρ v (.tup l)) : ∃ a vs, v = .ref a ∧ TupE h a vs ∧ a ∉ ρ ∧ RVs h ρ vs l := by cases r; exact ⟨_, _, rfl, ‹_›, ‹_›, ‹_›⟩
theorem RV.scrInv {v : Value} {l : List V} (r : RV h ρ v (.scr l)) : ∃ a vs, v = .ref a ∧ h.IsList a vs.toArray ∧ a ∉ ρ ∧ RVs h ρ vs l := by cases r; exact ⟨_, _, rfl, ‹_›, ‹_›, ‹_›⟩
theorem RV.froInv {v : Value} {l : List V} (r : RV h ρ v (.fro l)) : ∃ a vs, v = .ref a ∧ LstE h a vs ∧ a ∉ ρ ∧ RVs h ρ vs l := by cases r; exact ⟨_, _, rfl, ‹_›, ‹_›, ‹_›⟩
theorem RV.lstInv {v : Value} {i : Nat} (r : RV h ρ v (.lst i)) : ∃ a, v = .ref a ∧ ρ[i]? = some a := by cases r; exact ⟨_, rfl, ‹_›⟩
theorem RV.intInv {v : Value} {i : Int} (r : RV h ρ v (.int i)) : ∃ t, v = .int i t := by cases r; exact ⟨_, rfl⟩
theorem RV.strInv {v : Value} {x : List Nat} (r : RV h ρ v (.str x)) : ∃ y t, v = .str y t ∧ cs y = x := by cases r; exact ⟨_, _, rfl, rfl⟩
theorem RV.boolInv {v : Value} {b : Bool} (r : RV h ρ v (.bool b)) : v = .bool b := by cases r; rfl
end

/-! ## compound expressions -/
section
variable {prog : Program} {w : World} {C : Ctx} {X : Str → St → Prop} {env : Env} {loc : List (Str × V)} {Q : V → St → Prop} {QB : Bool → St → Prop} {QL : List V → St → Prop} {μ : St}
theorem Ev.go {α β : Type} {R : Heap → List Addr → α → β → Prop} {t : Sem α} {Qb : β → St → Prop} (h : Ev prog w C R env X t loc Qb μ) {A : Around} {s : Shared} {ρ : List Addr} {P : α → Shared → Prop} {PE : Value → Shared → Prop} (cx : Cx C A) (rl : Rl C s.heap ρ μ) (lc : Lc C env s.heap ρ loc)
    (pe : ErP C no s ρ X PE) (p : OkP C no R s ρ Qb P) : wpAny (model prog w) A t P PE s := h A s ρ cx rl lc P PE p pe
theorem ev_binop {l op r pos} (h : Ev prog w C RV env X (eval l env) loc (fun a μ₁ => Ev prog w C RV env X (eval r env) loc (fun b μ₂ => Op2 prog w C RV (binaryOp op) X Q a b μ₂) μ₁) μ) :
    Ev prog w C RV env X (eval (.BinOp l op r pos) env) loc Q μ := by
  intro A s ρ cx rl lc P PE p pe
  refine wpAny_BinOp (h.go cx rl lc pe fun u a μ₁ ρ₁ h₁ tk₁ r₁ q₁ l₁ e₁ => ?_)
  refine q₁.go cx l₁ (lc.mono rl e₁.grow) (pe.then e₁) fun v b μ₂ ρ₂ h₂ tk₂ r₂ q₂ l₂ e₂ => ?_
  exact q₂ A _ ρ₂ u v cx l₂ (r₁.mono e₂.grow bare_no) r₂ _ _ ((p.then e₁).then e₂) ((pe.then e₁).then e₂)
theorem ev_cmp {l op r pos} (h : Ev prog w C RV env X (eval l env) loc (fun a μ₁ => Ev prog w C RV env X (eval r env) loc (fun b μ₂ => Op2 prog w C RV (compareOp op) X Q a b μ₂) μ₁) μ) (hm : behindInMarks op r = false) :
    Ev prog w C RV env X (eval (.Compare l [op] [r] pos) env) loc Q μ := by
  intro A s ρ cx rl lc P PE p pe
  refine wpAny_Compare1 (h.go cx rl lc pe fun u a μ₁ ρ₁ h₁ tk₁ r₁ q₁ l₁ e₁ => ?_) hm
  refine q₁.go cx l₁ (lc.mono rl e₁.grow) (pe.then e₁) fun v b μ₂ ρ₂ h₂ tk₂ r₂ q₂ l₂ e₂ => ?_
  exact q₂ A _ ρ₂ u v cx l₂ (r₁.mono e₂.grow bare_no) r₂ _ _ ((p.then e₁).then e₂) ((pe.then e₁).then e₂)
theorem ev_ifexp {t b o pos} (h : Ev prog w C REq env X (isTrue t env (eval t env)) loc (fun c μ₁ => if c then Ev prog w C RV env X (eval b env) loc Q μ₁ else Ev prog w C RV env X (eval o env) loc Q μ₁) μ) :
    Ev prog w C RV env X (eval (.IfExp t b o pos) env) loc Q μ := by
  intro A s ρ cx rl lc P PE p pe
  refine wpAny_IfExp (h.go cx rl lc pe fun u a μ₁ ρ₁ h₁ tk₁ r₁ q₁ l₁ e₁ => ?_)
  cases r₁
  cases u
  · exact q₁.go cx l₁ (lc.mono rl e₁.grow) (pe.then e₁) (p.then e₁)
  · exact q₁.go cx l₁ (lc.mono rl e₁.grow) (pe.then e₁) (p.then e₁)
theorem args_nil' {pos} (h : QL [] μ) : Ev prog w C RVs env X (spliced (backTo pos (starEach [] env))) loc QL μ :=
  fun A s ρ cx rl lc P PE p pe => wpAny_items_nil (p.at .nil h rl)
theorem args_cons' {pos} {e : Expr} {rest : List Expr} (h : Ev prog w C RV env X (eval e env) loc (fun v μ₁ => Ev prog w C RVs env X (spliced (backTo pos (starEach rest env))) loc (fun vs μ₂ => QL (v :: vs) μ₂) μ₁) μ)
    (he : starEach (e :: rest) env = (false, eval e env) :: starEach rest env) : Ev prog w C RVs env X (spliced (backTo pos (starEach (e :: rest) env))) loc QL μ := by
  intro A s ρ cx rl lc P PE p pe
  refine wpAny_items_cons (h.go cx rl lc pe fun u a μ₁ ρ₁ h₁ tk₁ r₁ q₁ l₁ e₁ => ?_) he
  exact q₁.go cx l₁ (lc.mono rl e₁.grow) (pe.then e₁) fun vs bs μ₂ ρ₂ h₂ tk₂ r₂ q₂ l₂ e₂ => (p.then e₁) _ _ μ₂ ρ₂ h₂ tk₂ (.cons (r₁.mono e₂.grow bare_no) r₂) q₂ l₂ e₂
theorem isTup_push {h : Heap} {vs : List Value} : TupE (h.push { cls := .type "tuple", data := .seq vs.toArray }) h.objs.size vs := ⟨_, Heap.get?_push_size _ rfl⟩
theorem isList_push {h : Heap} {vs : List Value} : LstE (h.push { cls := .type "list", data := .seq vs.toArray }) h.objs.size vs := ⟨_, Heap.get?_push_size _ rfl⟩
theorem ev_tuple {elts k pos} (h : Ev prog w C RVs env X (spliced (backTo pos (starEach elts env))) loc (fun vs μ₁ => vs.length ≤ sizeLine ∧ Q (.tup vs) μ₁) μ) : Ev prog w C RV env X (eval (.Tuple elts k pos) env) loc Q μ := by
  intro A s ρ cx rl lc P PE p pe
  refine wpAny_Tuple (h.go cx rl lc pe fun us vs μ₁ ρ₁ h₁ tk₁ r₁ q₁ l₁ e₁ => ⟨r₁.length ▸ q₁.1, ?_⟩)
  have k := push_keeps (h := h₁) { cls := .type "tuple", data := .seq us.toArray }
  have x := ext_of (ρ := ρ₁) k
  refine (p.then e₁) (.ref h₁.objs.size) (.tup vs) μ₁ ρ₁ _ tk₁ ?_ q₁.2 (l₁.keeps k) x
  exact .tup isTup_push (l₁.nins fresh_none) (r₁.mono x.grow bare_no)
theorem ev_list {elts pos} (h : Ev prog w C RVs env X (spliced (backTo pos (starEach elts env))) loc (fun vs μ₁ => vs.length ≤ sizeLine ∧ Q (.lst μ₁.length) (μ₁ ++ [vs])) μ) : Ev prog w C RV env X (eval (.List elts pos) env) loc Q μ := by
  intro A s ρ cx rl lc P PE p pe
  refine wpAny_List (h.go cx rl lc pe fun us vs μ₁ ρ₁ h₁ tk₁ r₁ q₁ l₁ e₁ => ⟨r₁.length ▸ q₁.1, ?_⟩)
  have k := push_keeps (h := h₁) { cls := .type "list", data := .seq us.toArray }
  obtain ⟨l₂, e₂⟩ := l₁.alloc k fresh_none isList_push r₁
  refine (p.then e₁) (.ref h₁.objs.size) (.lst μ₁.length) _ _ _ tk₁ (.lst ?_) q₁.2 l₂ e₂
  rw [← l₁.len]; simp
/-! tests -/
theorem et_cmp {l op r pos whole} (h : Ev prog w C RV env X (eval l env) loc (fun a μ₁ => Ev prog w C RV env X (eval r env) loc (fun b μ₂ => Op2 prog w C RV (compareOp op) X (fun c μ₃ => ∃ t, c = .bool t ∧ QB t μ₃) a b μ₂) μ₁) μ) (hm : behindInMarks op r = false) :
    Ev prog w C REq env X (isTrue (.Compare l [op] [r] pos) env whole) loc QB μ := by
  intro A s ρ cx rl lc P PE p pe
  refine wpAny_isTrue_Compare1 (h.go cx rl lc pe fun u a μ₁ ρ₁ h₁ tk₁ r₁ q₁ l₁ e₁ => ?_) hm
  refine q₁.go cx l₁ (lc.mono rl e₁.grow) (pe.then e₁) fun v b μ₂ ρ₂ h₂ tk₂ r₂ q₂ l₂ e₂ => ?_
  refine q₂ A _ ρ₂ u v cx l₂ (r₁.mono e₂.grow bare_no) r₂ _ _ (fun c d μ₃ ρ₃ h₃ tk₃ r₃ q₃ l₃ e₃ => ?_) ((pe.then e₁).then e₂)
  refine nn fun nG => ?_
  obtain ⟨t, rfl, q⟩ := q₃
  refine nG ?_
  clear nG
  cases r₃
  exact wpAny_truthy_bool (((p.then e₁).then e₂) t t μ₃ ρ₃ h₃ tk₃ rfl q l₃ e₃)
theorem et_not {x pos whole} (h : Ev prog w C REq env X (isTrue x env (eval x env)) loc (fun b μ₁ => QB (!b) μ₁) μ) : Ev prog w C REq env X (isTrue (.UnaryOp .Not x pos) env whole) loc QB μ := by
  intro A s ρ cx rl lc P PE p pe
  refine wpAny_isTrue_Not (h.go cx rl lc pe fun u a μ₁ ρ₁ h₁ tk₁ r₁ q₁ l₁ e₁ => ?_)
  cases r₁
  exact p (!u) (!u) μ₁ ρ₁ h₁ tk₁ rfl q₁ l₁ e₁
theorem et_bool {op values pos whole} (h : Ev prog w C REq env X (allTrue op values env) loc QB μ) : Ev prog w C REq env X (isTrue (.BoolOp op values pos) env whole) loc QB μ :=
  fun A s ρ cx rl lc P PE p pe => wpAny_isTrue_BoolOp (h.go cx rl lc pe p)
theorem et_and_nil (h : QB true μ) : Ev prog w C REq env X (allTrue .And [] env) loc QB μ := fun A s ρ cx rl lc P PE p pe => wpAny_allTrue_And_nil (p.at rfl h rl)
theorem et_or_nil (h : QB false μ) : Ev prog w C REq env X (allTrue .Or [] env) loc QB μ := fun A s ρ cx rl lc P PE p pe => wpAny_allTrue_Or_nil (p.at rfl h rl)
theorem et_and_cons {x rest} (h : Ev prog w C REq env X (isTrue x env (eval x env)) loc (fun b μ₁ => if b then Ev prog w C REq env X (allTrue .And rest env) loc QB μ₁ else QB false μ₁) μ) : Ev prog w C REq env X (allTrue .And (x :: rest) env) loc QB μ := by
  intro A s ρ cx rl lc P PE p pe
  refine wpAny_allTrue_And_cons (h.go cx rl lc pe fun u a μ₁ ρ₁ h₁ tk₁ r₁ q₁ l₁ e₁ => ?_)
  cases r₁
  cases u
  · exact p false false μ₁ ρ₁ h₁ tk₁ rfl q₁ l₁ e₁
  · exact Ev.go (show Ev prog w C REq env X (allTrue .And rest env) loc QB μ₁ from q₁) cx l₁ (lc.mono rl e₁.grow) (pe.then e₁) (p.then e₁)
theorem et_or_cons {x rest} (h : Ev prog w C REq env X (isTrue x env (eval x env)) loc (fun b μ₁ => if b then QB true μ₁ else Ev prog w C REq env X (allTrue .Or rest env) loc QB μ₁) μ) : Ev prog w C REq env X (allTrue .Or (x :: rest) env) loc QB μ := by
  intro A s ρ cx rl lc P PE p pe
  refine wpAny_allTrue_Or_cons (h.go cx rl lc pe fun u a μ₁ ρ₁ h₁ tk₁ r₁ q₁ l₁ e₁ => ?_)
  cases r₁
  cases u
  · exact Ev.go (show Ev prog w C REq env X (allTrue .Or rest env) loc QB μ₁ from q₁) cx l₁ (lc.mono rl e₁.grow) (pe.then e₁) (p.then e₁)
  · exact p true true μ₁ ρ₁ h₁ tk₁ rfl q₁ l₁ e₁
/-- a call of a name's value; the value -/
theorem et_value {e : Expr} {whole} (h : Ev prog w C RV env X whole loc (fun c μ₃ => ∃ t, c = .bool t ∧ QB t μ₃) μ) (he : isTrue e env whole = (do let v ← whole; standAt e.pos; holding [v] (truthy v))) : Ev prog w C REq env X (isTrue e env whole) loc QB μ := by
  intro A s ρ cx rl lc P PE p pe
  refine wpAny_isTrue_value (h.go cx rl lc pe fun u a μ₁ ρ₁ h₁ tk₁ r₁ q₁ l₁ e₁ => ?_) he
  refine nn fun nG => ?_
  obtain ⟨t, rfl, q⟩ := q₁
  refine nG ?_
  clear nG
  cases r₁
  exact wpAny_truthy_bool (p t t μ₁ ρ₁ h₁ tk₁ rfl q l₁ e₁)
/-! value-level and, or, not of bools -/
theorem ev_and2 {x y pos} (h : Ev prog w C RV env X (eval x env) loc (fun v μ₁ => ∃ t, v = .bool t ∧ (if t then Ev prog w C RV env X (eval y env) loc Q μ₁ else Q (.bool false) μ₁)) μ) : Ev prog w C RV env X (eval (.BoolOp .And [x, y] pos) env) loc Q μ := by
  intro A s ρ cx rl lc P PE p pe
  refine wpAny_And2 (h.go cx rl lc pe fun u a μ₁ ρ₁ h₁ tk₁ r₁ q₁ l₁ e₁ => ?_)
  refine nn fun nG => ?_
  obtain ⟨t, rfl, q⟩ := q₁
  refine nG ?_
  clear nG
  cases r₁
  refine wpAny_truthy_bool ?_
  cases t
  · exact p _ _ μ₁ ρ₁ h₁ tk₁ (.bool _) q l₁ e₁
  · exact Ev.go (show Ev prog w C RV env X (eval y env) loc Q μ₁ from q) cx l₁ (lc.mono rl e₁.grow) (pe.then e₁) (p.then e₁)
theorem ev_or2 {x y pos} (h : Ev prog w C RV env X (eval x env) loc (fun v μ₁ => ∃ t, v = .bool t ∧ (if t then Q (.bool true) μ₁ else Ev prog w C RV env X (eval y env) loc Q μ₁)) μ) : Ev prog w C RV env X (eval (.BoolOp .Or [x, y] pos) env) loc Q μ := by
  intro A s ρ cx rl lc P PE p pe
  refine wpAny_Or2 (h.go cx rl lc pe fun u a μ₁ ρ₁ h₁ tk₁ r₁ q₁ l₁ e₁ => ?_)
  refine nn fun nG => ?_
  obtain ⟨t, rfl, q⟩ := q₁
  refine nG ?_
  clear nG
  cases r₁
  refine wpAny_truthy_bool ?_
  cases t
  · exact Ev.go (show Ev prog w C RV env X (eval y env) loc Q μ₁ from q) cx l₁ (lc.mono rl e₁.grow) (pe.then e₁) (p.then e₁)
  · exact p _ _ μ₁ ρ₁ h₁ tk₁ (.bool _) q l₁ e₁
theorem ev_not {x pos} (h : Ev prog w C RV env X (eval x env) loc (fun v μ₁ => ∃ t, v = .bool t ∧ Q (.bool (!t)) μ₁) μ) : Ev prog w C RV env X (eval (.UnaryOp .Not x pos) env) loc Q μ := by
  intro A s ρ cx rl lc P PE p pe
  refine wpAny_UnaryOp (h.go cx rl lc pe fun u a μ₁ ρ₁ h₁ tk₁ r₁ q₁ l₁ e₁ => ?_)
  refine nn fun nG => ?_
  obtain ⟨t, rfl, q⟩ := q₁
  refine nG ?_
  clear nG
  cases r₁
  exact not_value (wpAny_truthy_bool (p _ _ μ₁ ρ₁ h₁ tk₁ (.bool _) q l₁ e₁))
end
end Mine
end

section
set_option maxHeartbeats 1000000
open PySem PySem.W PyProof.Rows PySem.Spec PySem.Calls PySem.SeqAt
set_option Elab.async false
set_option linter.unusedVariables false
set_option maxRecDepth 100000
namespace Mine

theorem cs_append (x y : Str) : cs (x ++ y) = cs x ++ cs y := by
  show (Str.append x y).cps.toList = _
  simp [Str.append, cs]
theorem cs_len (x : Str) : x.length = (cs x).length := by simp [Str.length, cs]
theorem cs_beq (x y : Str) : (x == y) = (cs x == cs y) := (toList_beq x y).symm
theorem cs_bne (x y : Str) : (x != y) = (cs x != cs y) := (toList_bne x y).symm
theorem cs_inj {x y : Str} (h : cs x = cs y) : x = y := by
  have := cs_beq x y
  rw [h] at this
  exact eq_of_beq (this.trans (by simp))

section
variable {prog : Program} {w : World} {C : Ctx} {X : Str → St → Prop} {Q : V → St → Prop} {a b : Int} {x y : List Nat} {μ : St}
theorem o_add_ii (h : Q (.int (a + b)) μ) : Op2 prog w C RV (binaryOp .Add) X Q (.int a) (.int b) μ := by
  intro A s ρ u v cx rl ru rv P PE p pe
  obtain ⟨t, rfl⟩ := ru.intInv
  obtain ⟨t', rfl⟩ := rv.intInv
  with_reducible exact PyProof.Rows.add_int (p.same (.int _ _) h rl)
theorem o_sub_ii (h : Q (.int (a - b)) μ) : Op2 prog w C RV (binaryOp .Sub) X Q (.int a) (.int b) μ := by
  intro A s ρ u v cx rl ru rv P PE p pe
  obtain ⟨t, rfl⟩ := ru.intInv
  obtain ⟨t', rfl⟩ := rv.intInv
  with_reducible exact PyProof.Rows.sub_int (p.same (.int _ _) h rl)
theorem o_mod_ii (h0 : b ≠ 0) (h : Q (.int (a.fmod b)) μ) : Op2 prog w C RV (binaryOp .Mod) X Q (.int a) (.int b) μ := by
  intro A s ρ u v cx rl ru rv P PE p pe
  obtain ⟨t, rfl⟩ := ru.intInv
  obtain ⟨t', rfl⟩ := rv.intInv
  with_reducible exact PyProof.Rows.mod_int' h0 (p.same (.int _ _) h rl)
theorem o_and_ii (h : Q (.int (Builtin.bitAnd a b)) μ) : Op2 prog w C RV (binaryOp .BitAnd) X Q (.int a) (.int b) μ := by
  intro A s ρ u v cx rl ru rv P PE p pe
  obtain ⟨t, rfl⟩ := ru.intInv
  obtain ⟨t', rfl⟩ := rv.intInv
  with_reducible exact PyProof.Rows.and_int (p.same (.int _ _) h rl)
theorem o_or_ii (h : Q (.int (Builtin.bitOr a b)) μ) : Op2 prog w C RV (binaryOp .BitOr) X Q (.int a) (.int b) μ := by
  intro A s ρ u v cx rl ru rv P PE p pe
  obtain ⟨t, rfl⟩ := ru.intInv
  obtain ⟨t', rfl⟩ := rv.intInv
  with_reducible exact PyProof.Rows.or_int (p.same (.int _ _) h rl)
theorem o_shr_ii (h0 : 0 ≤ b) (h : Q (.int (a.fdiv (2 ^ b.toNat))) μ) : Op2 prog w C RV (binaryOp .RShift) X Q (.int a) (.int b) μ := by
  intro A s ρ u v cx rl ru rv P PE p pe
  obtain ⟨t, rfl⟩ := ru.intInv
  obtain ⟨t', rfl⟩ := rv.intInv
  with_reducible exact PyProof.Rows.rshift_int h0 (p.same (.int _ _) h rl)
theorem o_shl_ii (h0 : 0 ≤ b) (h1 : b ≤ 1000000) (h2 : a.natAbs < 2 ^ 64) (h : Q (.int (a * 2 ^ b.toNat)) μ) : Op2 prog w C RV (binaryOp .LShift) X Q (.int a) (.int b) μ := by
  intro A s ρ u v cx rl ru rv P PE p pe
  obtain ⟨t, rfl⟩ := ru.intInv
  obtain ⟨t', rfl⟩ := rv.intInv
  with_reducible exact PyProof.Rows.lshift_int_small h0 h1 h2 (p.same (.int _ _) h rl)
theorem o_mul_ii (hm : IntMulOk a b) (h : Q (.int (a * b)) μ) : Op2 prog w C RV (binaryOp .Mult) X Q (.int a) (.int b) μ := by
  intro A s ρ u v cx rl ru rv P PE p pe
  obtain ⟨t, rfl⟩ := ru.intInv
  obtain ⟨t', rfl⟩ := rv.intInv
  with_reducible exact PyProof.Rows.mul_int (p.same (.int _ _) h rl) hm
theorem o_eq_ii (h : Q (.bool (a == b)) μ) : Op2 prog w C RV (compareOp .Eq) X Q (.int a) (.int b) μ := by
  intro A s ρ u v cx rl ru rv P PE p pe
  obtain ⟨t, rfl⟩ := ru.intInv
  obtain ⟨t', rfl⟩ := rv.intInv
  with_reducible exact PyProof.Rows.eq_int (p.at (.bool _) h rl)
theorem o_ne_ii (h : Q (.bool (a != b)) μ) : Op2 prog w C RV (compareOp .NotEq) X Q (.int a) (.int b) μ := by
  intro A s ρ u v cx rl ru rv P PE p pe
  obtain ⟨t, rfl⟩ := ru.intInv
  obtain ⟨t', rfl⟩ := rv.intInv
  with_reducible exact PyProof.Rows.ne_int (p.at (.bool _) h rl)
theorem o_lt_ii (h : Q (.bool (decide (a < b))) μ) : Op2 prog w C RV (compareOp .Lt) X Q (.int a) (.int b) μ := by
  intro A s ρ u v cx rl ru rv P PE p pe
  obtain ⟨t, rfl⟩ := ru.intInv
  obtain ⟨t', rfl⟩ := rv.intInv
  with_reducible exact PyProof.Rows.lt_int (p.at (.bool _) h rl)
theorem o_le_ii (h : Q (.bool (decide (a ≤ b))) μ) : Op2 prog w C RV (compareOp .LtE) X Q (.int a) (.int b) μ := by
  intro A s ρ u v cx rl ru rv P PE p pe
  obtain ⟨t, rfl⟩ := ru.intInv
  obtain ⟨t', rfl⟩ := rv.intInv
  with_reducible exact PyProof.Rows.le_int (p.at (.bool _) h rl)
theorem o_gt_ii (h : Q (.bool (decide (b < a))) μ) : Op2 prog w C RV (compareOp .Gt) X Q (.int a) (.int b) μ := by
  intro A s ρ u v cx rl ru rv P PE p pe
  obtain ⟨t, rfl⟩ := ru.intInv
  obtain ⟨t', rfl⟩ := rv.intInv
  with_reducible exact PyProof.Rows.gt_int (p.at (.bool _) h rl)
theorem o_ge_ii (h : Q (.bool (decide (b ≤ a))) μ) : Op2 prog w C RV (compareOp .GtE) X Q (.int a) (.int b) μ := by
  intro A s ρ u v cx rl ru rv P PE p pe
  obtain ⟨t, rfl⟩ := ru.intInv
  obtain ⟨t', rfl⟩ := rv.intInv
  with_reducible exact PyProof.Rows.ge_int (p.at (.bool _) h rl)
theorem o_iadd_ii (h : Q (.int (a + b)) μ) : Op2 prog w C RV (inplaceOp .Add) X Q (.int a) (.int b) μ := by
  intro A s ρ u v cx rl ru rv P PE p pe
  obtain ⟨t, rfl⟩ := ru.intInv
  obtain ⟨t', rfl⟩ := rv.intInv
  with_reducible exact PyProof.Rows.iadd_int (p.same (.int _ _) h rl)
theorem o_isub_ii (h : Q (.int (a - b)) μ) : Op2 prog w C RV (inplaceOp .Sub) X Q (.int a) (.int b) μ := by
  intro A s ρ u v cx rl ru rv P PE p pe
  obtain ⟨t, rfl⟩ := ru.intInv
  obtain ⟨t', rfl⟩ := rv.intInv
  with_reducible exact PyProof.Rows.isub_int (p.same (.int _ _) h rl)
theorem o_fdiv_ii (h0 : b ≠ 0) (hp : Builtin.divisionGoesByPylong a b = false) (h : Q (.int (a.fdiv b)) μ) : Op2 prog w C RV (binaryOp .FloorDiv) X Q (.int a) (.int b) μ := by
  intro A s ρ u v cx rl ru rv P PE p pe
  obtain ⟨t, rfl⟩ := ru.intInv
  obtain ⟨t', rfl⟩ := rv.intInv
  with_reducible exact PyProof.Rows.floordiv_int h0 (p.same (.int _ _) h rl) (.inl hp)
theorem o_eq_ss (h : Q (.bool (x == y)) μ) : Op2 prog w C RV (compareOp .Eq) X Q (.str x) (.str y) μ := by
  intro A s ρ u v cx rl ru rv P PE p pe
  obtain ⟨x', t, rfl, rfl⟩ := ru.strInv
  obtain ⟨y', t', rfl, rfl⟩ := rv.strInv
  rw [← cs_beq] at h
  with_reducible exact PyProof.Rows.eq_str (p.at (.bool _) h rl)
theorem o_ne_ss (h : Q (.bool (x != y)) μ) : Op2 prog w C RV (compareOp .NotEq) X Q (.str x) (.str y) μ := by
  intro A s ρ u v cx rl ru rv P PE p pe
  obtain ⟨x', t, rfl, rfl⟩ := ru.strInv
  obtain ⟨y', t', rfl, rfl⟩ := rv.strInv
  rw [← cs_bne] at h
  with_reducible exact PyProof.Rows.ne_str (p.at (.bool _) h rl)
theorem o_le_ss (h : Q (.bool (!(y < x : Bool))) μ) : Op2 prog w C RV (compareOp .LtE) X Q (.str x) (.str y) μ := by
  intro A s ρ u v cx rl ru rv P PE p pe
  obtain ⟨x', t, rfl, rfl⟩ := ru.strInv
  obtain ⟨y', t', rfl, rfl⟩ := rv.strInv
  skip
  with_reducible exact PySem.P.le_str (p.at (.bool _) h rl)
theorem o_add_ss (hl : x.length + y.length ≤ sizeLine) (h : Q (.str (x ++ y)) μ) : Op2 prog w C RV (binaryOp .Add) X Q (.str x) (.str y) μ := by
  intro A s ρ u v cx rl ru rv P PE p pe
  obtain ⟨x', t, rfl, rfl⟩ := ru.strInv
  obtain ⟨y', t', rfl, rfl⟩ := rv.strInv
  rw [← cs_append] at h
  with_reducible exact PyProof.Rows.add_str (fun t'' tk => p.same (.str _ _) h rl) (by rw [cs_len, cs_len]; exact hl)
theorem o_iadd_ss (hl : x.length + y.length ≤ sizeLine) (h : Q (.str (x ++ y)) μ) : Op2 prog w C RV (inplaceOp .Add) X Q (.str x) (.str y) μ := by
  intro A s ρ u v cx rl ru rv P PE p pe
  obtain ⟨x', t, rfl, rfl⟩ := ru.strInv
  obtain ⟨y', t', rfl, rfl⟩ := rv.strInv
  rw [← cs_append] at h
  with_reducible exact PyProof.Rows.iadd_str (fun t'' tk => p.same (.str _ _) h rl) (by rw [cs_len, cs_len]; exact hl)
/-- one sign sought in a text -/
theorem one_cs {y : Str} {c : Nat} (e : cs y = [c]) : y = ⟨#[c]⟩ := cs_inj e
theorem o_in_ss {c : Nat} (h : Q (.bool (decide (c ∈ y))) μ) : Op2 prog w C RV (compareOp .In) X Q (.str [c]) (.str y) μ := by
  intro A s ρ u v cx rl ru rv P PE p pe
  obtain ⟨x', t, rfl, e⟩ := ru.strInv
  obtain ⟨y', t', rfl, rfl⟩ := rv.strInv
  obtain rfl := one_cs e
  with_reducible refine PyProof.Rows.in_str ?_
  rw [StrLaws.found_one]
  exact p.at (.bool _) h rl
theorem o_notin_ss {c : Nat} (h : Q (.bool (!decide (c ∈ y))) μ) : Op2 prog w C RV (compareOp .NotIn) X Q (.str [c]) (.str y) μ := by
  intro A s ρ u v cx rl ru rv P PE p pe
  obtain ⟨x', t, rfl, e⟩ := ru.strInv
  obtain ⟨y', t', rfl, rfl⟩ := rv.strInv
  obtain rfl := one_cs e
  with_reducible refine PyProof.Rows.notIn_str ?_
  rw [StrLaws.found_one]
  exact p.at (.bool _) h rl
theorem o_mul_si {n : Nat} (hl : x.length ≤ 1) (hn : n ≤ 1000) (h : Q (.str (List.replicate n x).flatten) μ) : Op2 prog w C RV (binaryOp .Mult) X Q (.str x) (.int n) μ := by
  intro A s ρ u v cx rl ru rv P PE p pe
  obtain ⟨x', t, rfl, rfl⟩ := ru.strInv
  obtain ⟨t', rfl⟩ := rv.intInv
  with_reducible refine SB.mul (mulOk_of 1 1000 (by rw [cs_len]; exact hl) (by (first | lia | omega)) (by (first | lia | omega)) (by decide) (by decide)) fun t'' k => ?_
  have e : cs (Txt.mul x' (n : Int)) = (List.replicate n (cs x')).flatten := by
    unfold Txt.mul
    split
    · have : n = 0 := by (first | lia | omega)
      subst this; rfl
    · split
      · rename_i h1 h2
        rcases Bool.or_eq_true_iff.mp h2 with h2 | h2
        · have : n = 1 := by have := eq_of_beq h2; (first | lia | omega)
          subst this; simp
        · have h3 : cs x' = [] := by
            have : x'.length = 0 := by simpa using h2
            rw [cs_len] at this
            exact List.eq_nil_of_length_eq_zero this
          rw [h3]
          induction n with
          | zero => rfl
          | succ n ih => simp
      · show (List.foldl (fun a b => a ++ b) #[] (List.replicate (n : Int).toNat x'.cps)).toList = _
        have g : ∀ (k : Nat) (acc : Array Nat), (List.foldl (fun a b => a ++ b) acc (List.replicate k x'.cps)).toList = acc.toList ++ (List.replicate k (cs x')).flatten := by
          intro k
          induction k with
          | zero => intro acc; simp
          | succ k ih => intro acc; simp [List.replicate_succ, ih, cs]
        simpa using g n #[]
  rw [← e] at h
  exact p.same (.str _ _) h rl
/-! flat values compared -/
noncomputable def flq : V → V → Bool
  | .int a, .int b => a == b
  | .str a, .str b => a == b
  | _, _ => false
noncomputable def IsFl : V → Bool
  | .int _ => true
  | .str _ => true
  | _ => false
theorem fl_at {A : Around} {s : Shared} {ρ : List Addr} {u v : Value} {d e : V} (hu : RV s.heap ρ u d) (hv : RV s.heap ρ v e) (h1 : IsFl d = true) (h2 : IsFl e = true) : EqAt A s u v (flq d e) := by
  cases hu <;> cases hv <;> simp [IsFl] at h1 h2
  · exact EqAt.int_int _ _ _ _
  · exact EqAt.int_str _ _ _ _
  · exact EqAt.str_int _ _ _ _
  · rename_i x t y t'
    have := EqAt.str_str (A := A) (s := s) x t y t'
    rw [cs_beq] at this
    exact this
theorem o_ne_fl {d e : V} (h1 : IsFl d = true) (h2 : IsFl e = true) (h : Q (.bool (!flq d e)) μ) : Op2 prog w C RV (compareOp .NotEq) X Q d e μ := by
  cases d <;> cases e <;> simp [IsFl] at h1 h2
  · exact o_ne_ii h
  · intro A s ρ u v cx rl ru rv P PE p pe
    obtain ⟨t, rfl⟩ := ru.intInv
    obtain ⟨y', t', rfl, rfl⟩ := rv.strInv
    have h' : Q (.bool true) μ := h
    with_reducible exact PySem.EqMixed.ne_int_str (p.at (.bool _) h' rl)
  · intro A s ρ u v cx rl ru rv P PE p pe
    obtain ⟨y', t', rfl, rfl⟩ := ru.strInv
    obtain ⟨t, rfl⟩ := rv.intInv
    have h' : Q (.bool true) μ := h
    with_reducible exact PySem.EqMixed.ne_str_int (p.at (.bool _) h' rl)
  · exact o_ne_ss h
end
end Mine
end

section
set_option maxHeartbeats 1000000
open PySem PySem.W PyProof.Rows PySem.Spec PySem.Calls PySem.SeqAt
set_option Elab.async false
set_option linter.unusedVariables false
set_option linter.unusedSimpArgs false
set_option maxRecDepth 100000
namespace Mine

theorem extbut_keeps {h h' : Heap} (e : Heap.ExtBut h.objs.size h h') : ∀ b o, h.get? b = some o → h'.get? b = some o :=
  fun b o q => e b o (Nat.ne_of_lt (Heap.lt_size q)) q

/-! ## slices of a text -/
theorem clip_nonneg {i : Int} {n : Nat} (h : 0 ≤ i) : (max 0 (min (if i < 0 then i + n else i) (n : Int))) = ((min i.toNat n : Nat) : Int) := by
  rw [if_neg (by (first | lia | omega))]; (first | lia | omega)
theorem ssi (i j : Int) (n : Nat) (hi : 0 ≤ i) (hj : 0 ≤ j) : Builtin.Str.strSliceIndices (some i) (some j) 1 n = Builtin.Str.strSliceIndices (some ((min i.toNat n : Nat) : Int)) (some ((min j.toNat n : Nat) : Int)) 1 n := by
  simp only [Builtin.Str.strSliceIndices, show (1 : Int) > 0 by decide, if_true]
  rw [clip_nonneg hi, clip_nonneg hj, clip_nonneg (by (first | lia | omega)), clip_nonneg (by (first | lia | omega))]
  congr 1 <;> (first | lia | omega)
theorem cs_slice (x : Str) {i j : Int} (hi : 0 ≤ i) (hj : 0 ≤ j) : cs (Txt.slice x (some i) (some j)) = ((cs x).take j.toNat).drop i.toNat := by
  have hl := cs_len x
  by_cases hle : min i.toNat x.length ≤ min j.toNat x.length
  · have e : Txt.slice x (some i) (some j) = StrLaws.sliceText x (some ((min i.toNat x.length : Nat) : Int)) (some ((min j.toNat x.length : Nat) : Int)) := by
      unfold Txt.slice StrLaws.sliceText
      rw [ssi i j x.length hi hj]
    rw [e, StrLaws.sliceText_nat x hle (by (first | lia | omega))]
    show ((x.cps.toList.drop _).take _) = _
    show (((cs x).drop _).take _) = _
    rw [hl]
    apply List.ext_getElem?
    intro k
    simp only [List.getElem?_take, List.getElem?_drop]
    split <;> split <;> first | rfl | (simp only [List.getElem?_eq_none_iff]; (first | lia | omega)) | skip
    · congr 1; (first | lia | omega)
    · symm
      apply List.getElem?_eq_none_iff.mpr; (first | lia | omega)
  · have e : Builtin.Str.strSliceIndices (some i) (some j) 1 x.length = [] := by
      rw [ssi i j x.length hi hj]
      simp only [Builtin.Str.strSliceIndices, show (1 : Int) > 0 by decide, if_true]
      rw [clip_nonneg (by (first | lia | omega)), clip_nonneg (by (first | lia | omega))]
      simp only [sliceRange, show (1 : Int) > 0 by decide, if_true]
      rw [if_neg (by (first | lia | omega))]
      simp
    have hx : x.length ≠ 0 := by (first | lia | omega)
    have e2 : cs (Txt.slice x (some i) (some j)) = [] := by
      unfold Txt.slice
      rw [e]
      rw [if_neg (by simp; exact fun q => hx q.symm)]
      simp [cs]
    rw [e2]
    symm
    apply List.drop_eq_nil_of_le
    rw [List.length_take, ← hl]
    (first | lia | omega)
theorem cs_slice_from (x : Str) {i : Int} (hi : 0 ≤ i) : cs (Txt.slice x (some i) none) = (cs x).drop i.toNat := by
  have e : Txt.slice x (some i) none = Txt.slice x (some i) (some (x.length : Int)) := by
    unfold Txt.slice
    rw [StrLaws.sliceIdx_none_hi]
  rw [e, cs_slice x hi (by (first | lia | omega)), cs_len, Int.toNat_natCast, List.take_length]

section
variable {prog : Program} {w : World} {C : Ctx} {X : Str → St → Prop} {env : Env} {loc : List (Str × V)} {Q : V → St → Prop} {a b : Int} {x y : List Nat} {μ : St}
theorem keptKeeps (h : Heap) : KeptH (fun h' => ∀ b o, h.get? b = some o → h'.get? b = some o) := fun h' ob k b o e => Heap.get?_push_of_some _ (k b o e)
theorem lt_str {value : Expr} {x : Str} {t : Tok} : ∀ r, letTemporaryGo value (.str x t) r = pure () := by intro r; cases value <;> rfl

theorem ev_slice_ss {value : Expr} {lo hi : Expr} {p pos}
    (h : Ev prog w C RV env X (eval value env) loc (fun v μ₁ => Ev prog w C RV env X (eval lo env) loc (fun i μ₂ => Ev prog w C RV env X (eval hi env) loc (fun j μ₃ => ∃ x a b, v = .str x ∧ i = .int a ∧ j = .int b ∧ 0 ≤ a ∧ 0 ≤ b ∧ x.length ≤ sizeLine ∧ Q (.str ((x.take b.toNat).drop a.toNat)) μ₃) μ₂) μ₁) μ) :
    Ev prog w C RV env X (eval (.Subscript value (.Slice (some lo) (some hi) none p) pos) env) loc Q μ := by
  intro A s ρ cx rl lc P PE pp pe
  refine Subscript_ (h.go cx rl lc pe fun v dv μ₁ ρ₁ h₁ tk₁ r₁ q₁ l₁ e₁ => ?_)
  refine wpAny_Slice (q₁.go cx l₁ (lc.mono rl e₁.grow) (pe.then e₁) fun i di μ₂ ρ₂ h₂ tk₂ r₂ q₂ l₂ e₂ => ?_)
  refine q₂.go cx l₂ ((lc.mono rl e₁.grow).mono l₁ e₂.grow) ((pe.then e₁).then e₂) fun j dj μ₃ ρ₃ h₃ tk₃ r₃ q₃ l₃ e₃ => ?_
  rw [evalPart_none]
  refine wpAny_pure ?_
  refine nn fun nG => ?_
  obtain ⟨x, a, b, rfl, rfl, rfl, ha, hb, hs, q⟩ := q₃
  obtain ⟨x', t, rfl, rfl⟩ := r₁.strInv
  obtain ⟨ta, rfl⟩ := r₂.intInv
  obtain ⟨tb, rfl⟩ := r₃.intInv
  refine nG ?_
  clear nG
  with_reducible refine tail_of_ItemOn (SBH.sliceItem_ss (s := ⟨h₃, _, _, tk₃, _⟩) (keptKeeps h₃) (fun _ _ e => e) (fun h' t' k kk => ?_) (by rw [cs_len]; exact hs)) rfl lt_str
  rw [← cs_slice x' ha hb] at q
  exact (((pp.then e₁).then e₂).then e₃) _ _ μ₃ ρ₃ h' k (.str _ _) q (l₃.keeps kk) (ext_of kk)
theorem ev_slice_sn {value : Expr} {lo : Expr} {p pos}
    (h : Ev prog w C RV env X (eval value env) loc (fun v μ₁ => Ev prog w C RV env X (eval lo env) loc (fun i μ₂ => ∃ x a, v = .str x ∧ i = .int a ∧ 0 ≤ a ∧ x.length ≤ sizeLine ∧ Q (.str (x.drop a.toNat)) μ₂) μ₁) μ) :
    Ev prog w C RV env X (eval (.Subscript value (.Slice (some lo) none none p) pos) env) loc Q μ := by
  intro A s ρ cx rl lc P PE pp pe
  refine Subscript_ (h.go cx rl lc pe fun v dv μ₁ ρ₁ h₁ tk₁ r₁ q₁ l₁ e₁ => ?_)
  refine wpAny_Slice (q₁.go cx l₁ (lc.mono rl e₁.grow) (pe.then e₁) fun i di μ₂ ρ₂ h₂ tk₂ r₂ q₂ l₂ e₂ => ?_)
  rw [evalPart_none]
  refine wpAny_pure (wpAny_pure ?_)
  refine nn fun nG => ?_
  obtain ⟨x, a, rfl, rfl, ha, hs, q⟩ := q₂
  obtain ⟨x', t, rfl, rfl⟩ := r₁.strInv
  obtain ⟨ta, rfl⟩ := r₂.intInv
  refine nG ?_
  clear nG
  with_reducible refine tail_of_ItemOn (SBH.sliceItem_sn (s := ⟨h₂, _, _, tk₂, _⟩) (keptKeeps h₂) (fun _ _ e => e) (fun h' t' k kk => ?_) (by rw [cs_len]; exact hs)) rfl lt_str
  rw [← cs_slice_from x' ha] at q
  exact ((pp.then e₁).then e₂) _ _ μ₂ ρ₂ h' k (.str _ _) q (l₂.keeps kk) (ext_of kk)

/-! ## items -/
theorem ev_sub {value slice : Expr} {pos} (h : Ev prog w C RV env X (eval value env) loc (fun v μ₁ => Ev prog w C RV env X (eval slice env) loc (fun i μ₂ => Op2 prog w C RV (subscriptTail value slice) X Q v i μ₂) μ₁) μ) :
    Ev prog w C RV env X (eval (.Subscript value slice pos) env) loc Q μ := by
  intro A s ρ cx rl lc P PE p pe
  refine Subscript_ (h.go cx rl lc pe fun u a μ₁ ρ₁ h₁ tk₁ r₁ q₁ l₁ e₁ => ?_)
  refine q₁.go cx l₁ (lc.mono rl e₁.grow) (pe.then e₁) fun v b μ₂ ρ₂ h₂ tk₂ r₂ q₂ l₂ e₂ => ?_
  exact q₂ A _ ρ₂ u v cx l₂ (r₁.mono e₂.grow bare_no) r₂ _ _ ((p.then e₁).then e₂) ((pe.then e₁).then e₂)
theorem seqIdx {k : Int} {n j : Nat} (h0 : k = j) (h1 : j < n) : seqIndex? k n = some j := by
  subst h0
  rw [StrLaws.seqIndex_nonneg (by (first | lia | omega)) (by (first | lia | omega))]; simp
theorem o_item_tup {value slice : Expr} {l : List V} {k : Int} {d : V} (j : Nat) (hk : k = j) (hj : j < 2 ^ 62) (hd : l[j]? = some d) (h : Q d μ) (hs : ∀ o i, subscripted slice false o i = operate [o, i] (getItem o i)) :
    Op2 prog w C RV (subscriptTail value slice) X Q (.tup l) (.int k) μ := by
  intro A s ρ u v cx rl ru rv P PE p pe
  refine nn fun nG => ?_
  obtain ⟨ta, vs, rfl, t, n, r⟩ := ru.tupInv
  obtain ⟨tk, rfl⟩ := rv.intInv
  obtain ⟨x, hx, rx⟩ := r.get hd
  refine nG ?_
  clear nG
  have hlt := (List.getElem?_eq_some_iff.mp hx).1
  exact tail_any t.tup.typeIs PyProof.Rows.slot_tuple_getitem.lookup (getItem_tuple t.tup (by (first | lia | omega)) (by (first | lia | omega)) (seqIdx hk (by simpa using hlt)) (by simpa using hx) (p.at rx h rl)) (hs _ _)
theorem o_item_lst {value slice : Expr} {i : Nat} {l : List V} {k : Int} {d : V} (j : Nat) (hk : k = j) (hj : j < 2 ^ 62) (hl : μ[i]? = some l) (hd : l[j]? = some d) (h : Q d μ) (hs : ∀ o i, subscripted slice false o i = operate [o, i] (getItem o i)) :
    Op2 prog w C RV (subscriptTail value slice) X Q (.lst i) (.int k) μ := by
  intro A s ρ u v cx rl ru rv P PE p pe
  refine nn fun nG => ?_
  obtain ⟨ta, rfl, e⟩ := ru.lstInv
  obtain ⟨tk, rfl⟩ := rv.intInv
  obtain ⟨vs, t, r⟩ := rl.lst i ta l e hl
  obtain ⟨x, hx, rx⟩ := r.get hd
  refine nG ?_
  clear nG
  exact tail_any t.list.typeIs slot_list_getitem.lookup (wpAny_getItem_list t.list (by (first | lia | omega)) (by (first | lia | omega)) (by subst hk; simpa using hx) (p.at rx h rl)) (hs _ _)
theorem o_item_fro {value slice : Expr} {l : List V} {k : Int} {d : V} (j : Nat) (hk : k = j) (hj : j < 2 ^ 62) (hd : l[j]? = some d) (h : Q d μ) (hs : ∀ o i, subscripted slice false o i = operate [o, i] (getItem o i)) :
    Op2 prog w C RV (subscriptTail value slice) X Q (.fro l) (.int k) μ := by
  intro A s ρ u v cx rl ru rv P PE p pe
  refine nn fun nG => ?_
  obtain ⟨ta, vs, rfl, t, n, r⟩ := ru.froInv
  obtain ⟨tk, rfl⟩ := rv.intInv
  obtain ⟨x, hx, rx⟩ := r.get hd
  refine nG ?_
  clear nG
  exact tail_any t.list.typeIs slot_list_getitem.lookup (wpAny_getItem_list t.list (by (first | lia | omega)) (by (first | lia | omega)) (by subst hk; simpa using hx) (p.at rx h rl)) (hs _ _)
theorem o_item_str {value slice : Expr} {k : Int} {c : Nat} (j : Nat) (hk : k = j) (hj : j < 2 ^ 62) (hd : x[j]? = some c) (h : Q (.str [c]) μ) (hs : ∀ o i, subscripted slice false o i = operate [o, i] (getItem o i)) :
    Op2 prog w C RV (subscriptTail value slice) X Q (.str x) (.int k) μ := by
  intro A s ρ u v cx rl ru rv P PE p pe
  refine nn fun nG => ?_
  obtain ⟨x', t, rfl, rfl⟩ := ru.strInv
  obtain ⟨tk, rfl⟩ := rv.intInv
  refine nG ?_
  clear nG
  refine tail_any (typeIs_str _ _ _) PySem.F.slot_str_getitem.lookup (PyProof.Rows.getItem_str (c := c) ?_ ?_ (p.same (.str _ _) h rl)) (hs _ _)
  · have a1 : ¬ k < -(2 ^ 63 : Int) := by (first | lia | omega)
    have a2 : ¬ k ≥ (2 ^ 63 : Int) := by (first | lia | omega)
    rw [decide_eq_false a1, decide_eq_false a2]; rfl
  · refine StrLaws.at_nonneg (by (first | lia | omega)) ?_
    subst hk
    simpa [cs] using hd
theorem o_item_str_neg {value slice : Expr} {c : Nat} (hd : x.getLast? = some c) (h : Q (.str [c]) μ) (hs : ∀ o i, subscripted slice false o i = operate [o, i] (getItem o i)) :
    Op2 prog w C RV (subscriptTail value slice) X Q (.str x) (.int (-1)) μ := by
  intro A s ρ u v cx rl ru rv P PE p pe
  refine nn fun nG => ?_
  obtain ⟨x', t, rfl, rfl⟩ := ru.strInv
  obtain ⟨tk, rfl⟩ := rv.intInv
  refine nG ?_
  clear nG
  refine tail_any (typeIs_str _ _ _) PySem.F.slot_str_getitem.lookup (PyProof.Rows.getItem_str (c := c) (by decide) ?_ (p.same (.str _ _) h rl)) (hs _ _)
  have hne : (cs x') ≠ [] := fun e => by rw [e] at hd; cases hd
  have hlen : 0 < x'.length := by rw [cs_len]; exact List.length_pos_iff.mpr hne
  rw [StrLaws.seqIndex_neg (by (first | lia | omega)) (by (first | lia | omega))]
  show x'.cps[_]? = some c
  rw [List.getLast?_eq_getElem?] at hd
  have e : ((-1 : Int) + (x'.length : Int)).toNat = (cs x').length - 1 := by rw [← cs_len]; (first | lia | omega)
  rw [e]
  simpa [cs] using hd
/-! ## tuples compared, sought -/
noncomputable def leq : List V → List V → Bool
  | [], [] => true
  | a :: l, b :: r => flq a b && leq l r
  | _, _ => false
theorem leq_all : ∀ (l r : List V), ((List.range (min l.length r.length)).all (fun j => flq (l.getD j .none) (r.getD j .none)) && l.length == r.length) = leq l r
  | [], [] => rfl
  | [], b :: r => by simp [leq]
  | a :: l, [] => by simp [leq]
  | a :: l, b :: r => by
    rw [leq, ← leq_all l r]
    simp only [List.length_cons, Nat.succ_min_succ, Nat.add_min_add_right, List.range_succ_eq_map, List.all_cons, List.all_map, List.getD_cons_zero, Function.comp_def, List.getD_cons_succ]
    rw [Bool.and_assoc]
    congr 2
    simp
theorem tup_at {A : Around} {s : Shared} {ρ : List Addr} {u v : Value} {l r : List V} (hu : RV s.heap ρ u (.tup l)) (hv : RV s.heap ρ v (.tup r)) (h1 : l.all IsFl = true) (h2 : r.all IsFl = true) (hc : A.units < cLine) :
    (∃ a b, u = .ref a ∧ v = .ref b) ∧ RcAt A s u v (leq l r) := by
  refine nn fun nG => ?_
  obtain ⟨a, vs, rfl, t, n, rs⟩ := hu.tupInv
  obtain ⟨b, us, rfl, t', n', rs'⟩ := hv.tupInv
  refine nG ?_
  clear nG
  refine ⟨⟨a, b, rfl, rfl⟩, ?_⟩
  have := RcAt.tuples (A := A) (s := s) (l := a) (b := b) (items := vs.toArray) (items2 := us.toArray) (e := fun j => flq (l.getD j .none) (r.getD j .none)) t.tup t'.tup hc (fun j h1' h2' => ?_)
  · rw [← leq_all]
    simpa [rs.length, rs'.length] using this
  · have g1 : j < l.length := by rw [← rs.length]; simpa using h1'
    have g2 : j < r.length := by rw [← rs'.length]; simpa using h2'
    refine nn fun nG => ?_
    obtain ⟨x, hx, rx⟩ := rs.get (List.getElem?_eq_getElem g1)
    obtain ⟨y, hy, ry⟩ := rs'.get (List.getElem?_eq_getElem g2)
    refine nG ?_
    clear nG
    have ex : vs.toArray[j] = x := by simpa using (List.getElem?_eq_some_iff.mp hx).2
    have ey : us.toArray[j] = y := by simpa using (List.getElem?_eq_some_iff.mp hy).2
    rw [ex, ey]
    have d1 : l.getD j .none = l[j] := by rw [List.getD_eq_getElem?_getD, List.getElem?_eq_getElem g1]; rfl
    have d2 : r.getD j .none = r[j] := by rw [List.getD_eq_getElem?_getD, List.getElem?_eq_getElem g2]; rfl
    rw [d1, d2]
    exact fl_at rx ry (List.all_eq_true.mp h1 _ (List.getElem_mem _)) (List.all_eq_true.mp h2 _ (List.getElem_mem _))
theorem tup_ne {A : Around} {s : Shared} {ρ : List Addr} {u v : Value} {l r : List V} (hu : RV s.heap ρ u (.tup l)) (hv : RV s.heap ρ v (.tup r)) (h1 : l.all IsFl = true) (h2 : r.all IsFl = true) (hc : A.units < cLine) :
    RcNeAt A s u v (!leq l r) := by
  refine nn fun nG => ?_
  obtain ⟨a, vs, rfl, t, n, rs⟩ := hu.tupInv
  obtain ⟨b, us, rfl, t', n', rs'⟩ := hv.tupInv
  refine nG ?_
  clear nG
  have := RcNeAt.tuples (A := A) (s := s) (l := a) (b := b) (items := vs.toArray) (items2 := us.toArray) (e := fun j => flq (l.getD j .none) (r.getD j .none)) t.tup t'.tup hc (fun j h1' h2' => ?_)
  · rw [← leq_all]
    simpa [rs.length, rs'.length] using this
  · have g1 : j < l.length := by rw [← rs.length]; simpa using h1'
    have g2 : j < r.length := by rw [← rs'.length]; simpa using h2'
    refine nn fun nG => ?_
    obtain ⟨x, hx, rx⟩ := rs.get (List.getElem?_eq_getElem g1)
    obtain ⟨y, hy, ry⟩ := rs'.get (List.getElem?_eq_getElem g2)
    refine nG ?_
    clear nG
    have ex : vs.toArray[j] = x := by simpa using (List.getElem?_eq_some_iff.mp hx).2
    have ey : us.toArray[j] = y := by simpa using (List.getElem?_eq_some_iff.mp hy).2
    rw [ex, ey]
    have d1 : l.getD j .none = l[j] := by rw [List.getD_eq_getElem?_getD, List.getElem?_eq_getElem g1]; rfl
    have d2 : r.getD j .none = r[j] := by rw [List.getD_eq_getElem?_getD, List.getElem?_eq_getElem g2]; rfl
    rw [d1, d2]
    exact fl_at rx ry (List.all_eq_true.mp h1 _ (List.getElem_mem _)) (List.all_eq_true.mp h2 _ (List.getElem_mem _))
theorem Cx.units' {A : Around} (cx : Cx C A) : A.units < cLine := by have := cx.units; (first | lia | omega)
theorem o_eq_tt {l r : List V} (h1 : l.all IsFl = true) (h2 : r.all IsFl = true) (h : Q (.bool (leq l r)) μ) : Op2 prog w C RV (compareOp .Eq) X Q (.tup l) (.tup r) μ := by
  intro A s ρ u v cx rl ru rv P PE p pe
  exact (tup_at ru rv h1 h2 cx.units').2 prog w _ _ (p.at (.bool _) h rl)
theorem o_ne_tt {l r : List V} (h1 : l.all IsFl = true) (h2 : r.all IsFl = true) (h : Q (.bool (!leq l r)) μ) : Op2 prog w C RV (compareOp .NotEq) X Q (.tup l) (.tup r) μ := by
  intro A s ρ u v cx rl ru rv P PE p pe
  exact (tup_ne ru rv h1 h2 cx.units') prog w _ _ (p.at (.bool _) h rl)
theorem o_in_st {l : List V} (hl : ∀ d ∈ l, ∃ z, d = .str z) (h : Q (.bool (l.any fun d => flq d (.str x))) μ) : Op2 prog w C RV (compareOp .In) X Q (.str x) (.tup l) μ := by
  intro A s ρ u v cx rl ru rv P PE p pe
  refine nn fun nG => ?_
  obtain ⟨b, us, rfl, t, n, rs⟩ := rv.tupInv
  obtain ⟨x', tx, rfl, rfl⟩ := ru.strInv
  refine nG ?_
  clear nG
  let e : Value → Bool := fun v => match v with | .str y _ => y == x' | _ => false
  have key : ∀ (us : List Value) (l : List V), RVs s.heap ρ us l → (∀ d ∈ l, ∃ z, d = .str z) → (us.any e = l.any fun d => flq d (.str (cs x'))) ∧ ∀ y ∈ us, EqAt A.in1 s y (.str x' tx) (e y) := by
    intro us
    induction us with
    | nil => intro l r _; cases r; exact ⟨rfl, fun _ q => nomatch q⟩
    | cons v us ih =>
      intro l r hl
      cases r with
      | cons r rs =>
        refine nn fun nG => ?_
        obtain ⟨z, rfl⟩ := hl _ (.head _)
        obtain ⟨y, ty, rfl, rfl⟩ := r.strInv
        obtain ⟨i1, i2⟩ := ih _ rs fun d m => hl d (.tail _ m)
        refine nG ?_
        clear nG
        refine ⟨?_, fun y' m => ?_⟩
        · rw [List.any_cons, List.any_cons, i1]
          show ((y == x') || _) = _
          rw [cs_beq]; rfl
        · rcases List.mem_cons.mp m with rfl | m
          · exact EqAt.str_str _ _ _ _
          · exact i2 _ m
  obtain ⟨k1, k2⟩ := key us l rs hl
  refine in_tupleAt e t.tup (fun y m => k2 y (by simpa using m)) ?_
  have k3 : us.toArray.any e = us.any e := by simp
  rw [k3, k1]
  exact p.at (.bool _) h rl
theorem o_notin_st {l : List V} (hl : ∀ d ∈ l, ∃ z, d = .str z) (h : Q (.bool (!l.any fun d => flq d (.str x))) μ) : Op2 prog w C RV (compareOp .NotIn) X Q (.str x) (.tup l) μ := by
  intro A s ρ u v cx rl ru rv P PE p pe
  refine nn fun nG => ?_
  obtain ⟨b, us, rfl, t, n, rs⟩ := rv.tupInv
  obtain ⟨x', tx, rfl, rfl⟩ := ru.strInv
  refine nG ?_
  clear nG
  let e : Value → Bool := fun v => match v with | .str y _ => y == x' | _ => false
  have key : ∀ (us : List Value) (l : List V), RVs s.heap ρ us l → (∀ d ∈ l, ∃ z, d = .str z) → (us.any e = l.any fun d => flq d (.str (cs x'))) ∧ ∀ y ∈ us, EqAt A.in1 s y (.str x' tx) (e y) := by
    intro us
    induction us with
    | nil => intro l r _; cases r; exact ⟨rfl, fun _ q => nomatch q⟩
    | cons v us ih =>
      intro l r hl
      cases r with
      | cons r rs =>
        refine nn fun nG => ?_
        obtain ⟨z, rfl⟩ := hl _ (.head _)
        obtain ⟨y, ty, rfl, rfl⟩ := r.strInv
        obtain ⟨i1, i2⟩ := ih _ rs fun d m => hl d (.tail _ m)
        refine nG ?_
        clear nG
        refine ⟨?_, fun y' m => ?_⟩
        · rw [List.any_cons, List.any_cons, i1]
          show ((y == x') || _) = _
          rw [cs_beq]; rfl
        · rcases List.mem_cons.mp m with rfl | m
          · exact EqAt.str_str _ _ _ _
          · exact i2 _ m
  obtain ⟨k1, k2⟩ := key us l rs hl
  refine notIn_tupleAt e t.tup (fun y m => k2 y (by simpa using m)) ?_
  have k3 : us.toArray.any e = us.any e := by simp
  rw [k3, k1]
  exact p.at (.bool _) h rl
end
end Mine
end

section
set_option maxHeartbeats 1000000
open PySem PySem.W PyProof.Rows PySem.Spec PySem.Calls PySem.SeqAt
set_option Elab.async false
set_option linter.unusedVariables false
set_option linter.unusedSimpArgs false
set_option maxRecDepth 100000
namespace Mine

/-! ## calls -/
section
variable {prog : Program} {w : World} {C : Ctx} {X : Str → St → Prop} {env : Env} {loc : List (Str × V)} {Q : V → St → Prop} {μ : St}
theorem Op.go {α β : Type} {R : Heap → List Addr → α → β → Prop} {f : List Value → Sem α} {args : List V} {Qb : β → St → Prop} (h : Op prog w C R f X Qb args μ) {A : Around} {s : Shared} {ρ : List Addr} {vs : List Value} {P : α → Shared → Prop} {PE : Value → Shared → Prop} (cx : Cx C A) (rl : Rl C s.heap ρ μ) (r : RVs s.heap ρ vs args)
    (pe : ErP C no s ρ X PE) (p : OkP C no R s ρ Qb P) : wpAny (model prog w) A (f vs) P PE s := h A s ρ vs cx rl r P PE p pe
theorem globAt {A : Around} {s : Shared} {ρ : List Addr} {E : Value → Shared → Prop} {x : Str} {pos : Pos} {u : Value} {P : Value → Shared → Prop} (cx : Cx C A) (rl : Rl C s.heap ρ μ) (lc : Lc C env s.heap ρ loc) (g : nsIn C.K mainGlobals x = some (some u)) (hk : env.kindOf x = some .globalImplicit) (hd : (x == ("__debug__" : Str)) = false) (h : P u s) :
    wpAny (model prog w) A (eval (.Name x pos) env) P E s := by
  obtain ⟨_, _, _, mg, mb, T⟩ := cx.top
  exact Name_function_global lc.kind hk (loadGlobal_global (by rw [lc.glob]; exact T.g.keeps rl.stay) (mg_of cx.kin T.g g) h) hd
theorem builtinAt {A : Around} {s : Shared} {ρ : List Addr} {E : Value → Shared → Prop} {x : Str} {pos : Pos} {u : Value} {P : Value → Shared → Prop} (cx : Cx C A) (rl : Rl C s.heap ρ μ) (lc : Lc C env s.heap ρ loc) (g : nsIn C.K mainGlobals x = some none) (hv : bootBuiltins x = some u) (hn : x ≠ "__name__") (hk : env.kindOf x = some .globalImplicit) (hd : (x == ("__debug__" : Str)) = false) (h : P u s) :
    wpAny (model prog w) A (eval (.Name x pos) env) P E s := by
  obtain ⟨_, _, _, mg, mb, T⟩ := cx.top
  exact Name_function_global lc.kind hk (loadGlobal_builtin (by rw [lc.glob]; exact T.g.keeps rl.stay) (mg_none_of cx.kin T.g g) (by rw [lc.bult]; exact T.b.keeps rl.stay) ((T.builtins x hn).trans hv) h) hd

theorem ev_call_def {x : Str} {np pos : Pos} {e : Expr} {rest : List Expr} {f : Addr} {oc : Value} {od : Option Addr} {fd : FuncData} {osl : Array (Option Value)}
    (g : nsIn C.K mainGlobals x = some (some (.ref f))) (ho : C.K.lookup f = some ⟨oc, od, .func fd, osl⟩) (hk : env.kindOf x = some .globalImplicit) (hd : (x == ("__debug__" : Str)) = false)
    (he : starEach (e :: rest) env = (false, eval e env) :: starEach rest env)
    (h : Ev prog w C RVs env X (spliced (backTo pos (starEach (e :: rest) env))) loc (fun vs μ₁ => Op prog w C RV (fun us => call (.ref f) us) X Q vs μ₁) μ) :
    Ev prog w C RV env X (eval (.Call (.Name x np) (e :: rest) [] pos) env) loc Q μ := by
  intro A s ρ cx rl lc P PE p pe
  refine Call_ (globAt cx rl lc g hk hd ?_) rfl
  refine callWith_def (o := ⟨oc, od, .func fd, osl⟩) (fd := fd) rfl (h.go cx rl lc pe fun us vs μ₁ ρ₁ h₁ tk₁ r₁ q₁ l₁ e₁ => ⟨l₁.stay _ _ (cx.kin _ _ ho), ?_⟩) he
  exact q₁.go cx l₁ r₁ (pe.then e₁) (p.then e₁)
theorem ev_call_def0 {x : Str} {np pos : Pos} {f : Addr} {oc : Value} {od : Option Addr} {fd : FuncData} {osl : Array (Option Value)}
    (g : nsIn C.K mainGlobals x = some (some (.ref f))) (ho : C.K.lookup f = some ⟨oc, od, .func fd, osl⟩) (hk : env.kindOf x = some .globalImplicit) (hd : (x == ("__debug__" : Str)) = false)
    (h : Op prog w C RV (fun us => call (.ref f) us) X Q [] μ) :
    Ev prog w C RV env X (eval (.Call (.Name x np) [] [] pos) env) loc Q μ := by
  intro A s ρ cx rl lc P PE p pe
  refine Call_ (globAt cx rl lc g hk hd ?_) rfl
  refine callWith_function (o := ⟨oc, od, .func fd, osl⟩) (fd := fd) (args := []) (first := []) (PyProof.Rows.evalArgs_none ⟨⟨rl.stay _ _ (cx.kin _ _ ho), rfl⟩, ?_⟩)
  exact h.go cx rl .nil pe p
theorem ev_call_builtin {x : Str} {np pos : Pos} {e : Expr} {rest : List Expr} {id : String}
    (g : nsIn C.K mainGlobals x = some none) (hv : bootBuiltins x = some (.builtin id)) (hn : x ≠ "__name__") (hk : env.kindOf x = some .globalImplicit) (hd : (x == ("__debug__" : Str)) = false)
    (he : starEach (e :: rest) env = (false, eval e env) :: starEach rest env) (hp : (backTo pos (starEach rest env)).any (·.1) = false)
    (h : Ev prog w C RVs env X (spliced (backTo pos (starEach (e :: rest) env))) loc (fun vs μ₁ => Op prog w C RV (fun us => call (.builtin id) us) X Q vs μ₁) μ) :
    Ev prog w C RV env X (eval (.Call (.Name x np) (e :: rest) [] pos) env) loc Q μ := by
  intro A s ρ cx rl lc P PE p pe
  refine Call_ (builtinAt cx rl lc g hv hn hk hd ?_) rfl
  refine PyProof.Rows.callWith_builtin1 (h.go cx rl lc pe fun us vs μ₁ ρ₁ h₁ tk₁ r₁ q₁ l₁ e₁ => ?_) he hp
  exact q₁.go cx l₁ r₁ (pe.then e₁) (p.then e₁)
theorem ev_call_type {x : Str} {np pos : Pos} {e : Expr} {rest : List Expr} {T : String}
    (g : nsIn C.K mainGlobals x = some none) (hv : bootBuiltins x = some (.type T)) (hn : x ≠ "__name__") (hk : env.kindOf x = some .globalImplicit) (hd : (x == ("__debug__" : Str)) = false)
    (he : starEach (e :: rest) env = (false, eval e env) :: starEach rest env) (hp : (backTo pos (starEach rest env)).any (·.1) = false)
    (h : Ev prog w C RVs env X (spliced (backTo pos (starEach (e :: rest) env))) loc (fun vs μ₁ => Op prog w C RV (fun us => call (.type T) us) X Q vs μ₁) μ) :
    Ev prog w C RV env X (eval (.Call (.Name x np) (e :: rest) [] pos) env) loc Q μ := by
  intro A s ρ cx rl lc P PE p pe
  refine Call_ (builtinAt cx rl lc g hv hn hk hd ?_) rfl
  refine PyProof.Rows.callWith_type1 (h.go cx rl lc pe fun us vs μ₁ ρ₁ h₁ tk₁ r₁ q₁ l₁ e₁ => ?_) he hp
  exact q₁.go cx l₁ r₁ (pe.then e₁) (p.then e₁)
theorem RVs.one {h : Heap} {ρ : List Addr} {us : List Value} {a : V} (r : RVs h ρ us [a]) : ∃ u, us = [u] ∧ RV h ρ u a := by
  cases r with | cons r q => cases q; exact ⟨_, rfl, r⟩
theorem RVs.two {h : Heap} {ρ : List Addr} {us : List Value} {a b : V} (r : RVs h ρ us [a, b]) : ∃ u v, us = [u, v] ∧ RV h ρ u a ∧ RV h ρ v b := by
  cases r with | cons r q => cases q with | cons r' q => cases q; exact ⟨_, _, rfl, r, r'⟩
theorem RVs.three {h : Heap} {ρ : List Addr} {us : List Value} {a b c : V} (r : RVs h ρ us [a, b, c]) : ∃ u v z, us = [u, v, z] ∧ RV h ρ u a ∧ RV h ρ v b ∧ RV h ρ z c := by
  cases r with | cons r q => cases q with | cons r' q => cases q with | cons r'' q => cases q; exact ⟨_, _, _, rfl, r, r', r''⟩

/-! ## builtins -/
theorem b_len_str {x : List Nat} (hl : x.length < 2 ^ 62) (h : Q (.int x.length) μ) : Op prog w C RV (fun us => call (.builtin "len") us) X Q [.str x] μ := by
  intro A s ρ us cx rl r P PE p pe
  obtain ⟨u, rfl, ru⟩ := r.one
  obtain ⟨x', t, rfl, rfl⟩ := ru.strInv
  rw [← cs_len] at h hl
  with_reducible exact PyProof.Rows.len_str (by (first | lia | omega)) (p.same (.int _ _) h rl)
theorem b_len_lst {i : Nat} {l : List V} (hi : μ[i]? = some l) (hl : l.length < 2 ^ 62) (h : Q (.int l.length) μ) : Op prog w C RV (fun us => call (.builtin "len") us) X Q [.lst i] μ := by
  intro A s ρ us cx rl r P PE p pe
  obtain ⟨u, rfl, ru⟩ := r.one
  obtain ⟨a, rfl, e⟩ := ru.lstInv
  obtain ⟨vs, t, rs⟩ := rl.lst i a l e hi
  rw [← rs.length] at h hl
  refine call_len_list t.list (by simp; (first | lia | omega)) ?_
  simp only [List.size_toArray]
  exact p.same (.int _ _) h rl
theorem b_len_fro {l : List V} (hl : l.length < 2 ^ 62) (h : Q (.int l.length) μ) : Op prog w C RV (fun us => call (.builtin "len") us) X Q [.fro l] μ := by
  intro A s ρ us cx rl r P PE p pe
  obtain ⟨u, rfl, ru⟩ := r.one
  obtain ⟨a, vs, rfl, t, n, rs⟩ := ru.froInv
  rw [← rs.length] at h hl
  refine call_len_list t.list (by simp; (first | lia | omega)) ?_
  simp only [List.size_toArray]
  exact p.same (.int _ _) h rl
theorem b_ord {c : Nat} (h : Q (.int c) μ) : Op prog w C RV (fun us => call (.builtin "ord") us) X Q [.str [c]] μ := by
  intro A s ρ us cx rl r P PE p pe
  obtain ⟨u, rfl, ru⟩ := r.one
  obtain ⟨x', t, rfl, e⟩ := ru.strInv
  obtain rfl := one_cs e
  with_reducible exact PySem.P.ord_of_char (p.same (.int _ _) h rl)
theorem b_chr {k : Int} (h0 : 0 ≤ k) (h1 : k ≤ 1114111) (h : Q (.str [k.toNat]) μ) : Op prog w C RV (fun us => call (.builtin "chr") us) X Q [.int k] μ := by
  intro A s ρ us cx rl r P PE p pe
  obtain ⟨u, rfl, ru⟩ := r.one
  obtain ⟨t, rfl⟩ := ru.intInv
  with_reducible exact chr_of_range h0 h1 (p.same (.str _ _) h rl)
theorem b_abs {k : Int} (h : Q (.int (if k < 0 then -k else k)) μ) : Op prog w C RV (fun us => call (.builtin "abs") us) X Q [.int k] μ := by
  intro A s ρ us cx rl r P PE p pe
  obtain ⟨u, rfl, ru⟩ := r.one
  obtain ⟨t, rfl⟩ := ru.intInv
  with_reducible exact call_abs_int (fun u tk => p.same (.int _ _) h rl)
theorem b_int_int {k : Int} (h : Q (.int k) μ) : Op prog w C RV (fun us => call (.type "int") us) X Q [.int k] μ := by
  intro A s ρ us cx rl r P PE p pe
  obtain ⟨u, rfl, ru⟩ := r.one
  obtain ⟨t, rfl⟩ := ru.intInv
  with_reducible exact call_int_int (p.same (.int _ _) h rl)
theorem b_int_str {x : List Nat} {k : Int} (hl : x.length ≤ 640) (hn : ∀ y, cs y = x → PySem.intText? y = some k) (h : Q (.int k) μ) : Op prog w C RV (fun us => call (.type "int") us) X Q [.str x] μ := by
  intro A s ρ us cx rl r P PE p pe
  obtain ⟨u, rfl, ru⟩ := r.one
  obtain ⟨x', t, rfl, rfl⟩ := ru.strInv
  with_reducible exact KIN.call_text (hn _ rfl) (by rw [cs_len]; exact hl) (p.same (.int _ _) h rl)
theorem b_str_int {k : Int} (h0 : 0 ≤ k) (h1 : k < 10 ^ 10) (h : Q (.str (cs (toString k : String))) μ) : Op prog w C RV (fun us => call (.type "str") us) X Q [.int k] μ := by
  intro A s ρ us cx rl r P PE p pe
  obtain ⟨u, rfl, ru⟩ := r.one
  obtain ⟨t, rfl⟩ := ru.intInv
  refine str_of_int_fit (N := 10 ^ 10) (by rw [if_neg (by (first | lia | omega))]; exact h1) (by decide) fun _ => ?_
  exact p.same (.str _ _) h rl
end
end Mine
end

section
set_option maxHeartbeats 1000000
open PySem PySem.W PyProof.Rows PySem.Spec PySem.Calls PySem.SeqAt
set_option Elab.async false
set_option linter.unusedVariables false
set_option linter.unusedSimpArgs false
set_option maxRecDepth 100000
namespace Mine

/-! ## methods -/
section
variable {prog : Program} {w : World} {C : Ctx} {X : Str → St → Prop} {env : Env} {loc : List (Str × V)} {Q : V → St → Prop} {μ : St}
theorem ev_mstr {o : Expr} {name : Str} {apos pos : Pos} {e : Expr} {rest : List Expr} {id : String} {pl : Sem Bool} (slot : Slot "str" name id) (ty : typeOf (.builtin id) = pure (.type "method_descriptor"))
    (hE : eval (.Call (.Attribute o name apos) (e :: rest) [] pos) env = (do
      let ov ← eval o env
      standAt apos.atName
      let (f, first) ← holding [ov] (getMethod ov name pl)
      callWith pos f first (backTo pos (starEach (e :: rest) env)) []))
    (he : starEach (e :: rest) env = (false, eval e env) :: starEach rest env) (hp : (backTo pos (starEach rest env)).any (·.1) = false)
    (h : Ev prog w C RV env X (eval o env) loc (fun v μ₁ => ∃ x, v = .str x ∧ Ev prog w C RVs env X (spliced (backTo pos (starEach (e :: rest) env))) loc (fun vs μ₂ => Op prog w C RV (fun us => call (.builtin id) us) X Q (.str x :: vs) μ₂) μ₁) μ) :
    Ev prog w C RV env X (eval (.Call (.Attribute o name apos) (e :: rest) [] pos) env) loc Q μ := by
  intro A s ρ cx rl lc P PE p pe
  refine MethodCall_ (h.go cx rl lc pe fun u a μ₁ ρ₁ h₁ tk₁ r₁ q₁ l₁ e₁ => ?_) hE
  refine nn fun nG => ?_
  obtain ⟨x, rfl, q⟩ := q₁
  obtain ⟨x', t, rfl, rfl⟩ := r₁.strInv
  refine nG ?_
  clear nG
  with_reducible refine getMethod_builtin (typeIs_str _ _ _) PySem.F.plainAttrs_str slot ty (fun _ e => nomatch e) ?_
  with_reducible refine PyProof.Rows.callWith_method1 ?_ he hp
  refine q.go cx l₁ (lc.mono rl e₁.grow) (pe.then e₁) fun us vs μ₂ ρ₂ h₂ tk₂ r₂ q₂ l₂ e₂ => ?_
  exact q₂.go cx l₂ (.cons (.str _ _) r₂) ((pe.then e₁).then e₂) ((p.then e₁).then e₂)
theorem ev_mstr0 {o : Expr} {name : Str} {apos pos : Pos} {id : String} {pl : Sem Bool} (slot : Slot "str" name id) (ty : typeOf (.builtin id) = pure (.type "method_descriptor"))
    (hE : eval (.Call (.Attribute o name apos) [] [] pos) env = (do
      let ov ← eval o env
      standAt apos.atName
      let (f, first) ← holding [ov] (getMethod ov name pl)
      callWith pos f first (backTo pos (starEach [] env)) []))
    (h : Ev prog w C RV env X (eval o env) loc (fun v μ₁ => ∃ x, v = .str x ∧ Op prog w C RV (fun us => call (.builtin id) us) X Q [.str x] μ₁) μ) :
    Ev prog w C RV env X (eval (.Call (.Attribute o name apos) [] [] pos) env) loc Q μ := by
  intro A s ρ cx rl lc P PE p pe
  refine MethodCall_ (h.go cx rl lc pe fun u a μ₁ ρ₁ h₁ tk₁ r₁ q₁ l₁ e₁ => ?_) hE
  refine nn fun nG => ?_
  obtain ⟨x, rfl, q⟩ := q₁
  obtain ⟨x', t, rfl, rfl⟩ := r₁.strInv
  refine nG ?_
  clear nG
  with_reducible refine getMethod_builtin (typeIs_str _ _ _) PySem.F.plainAttrs_str slot ty (fun _ e => nomatch e) ?_
  with_reducible refine PyProof.Rows.callWith_method0 ?_
  exact q.go cx l₁ (.cons (.str _ _) .nil) (pe.then e₁) (p.then e₁)
noncomputable def IsL : V → Prop
  | .lst _ => True
  | .fro _ => True
  | _ => False
theorem lstOf {h : Heap} {ρ : List Addr} {v : V} {u : Value} (R : Rl C h ρ μ) (r : RV h ρ u v) (i : IsL v) (hl : ∀ k, v = .lst k → k < μ.length) : ∃ a vs, u = .ref a ∧ LstE h a vs := by
  cases r <;> simp [IsL] at i
  · rename_i k a e
    have h1 := hl k rfl
    refine nn fun nG => ?_
    obtain ⟨vs, t, _⟩ := R.lst k a μ[k] e (List.getElem?_eq_getElem h1)
    refine nG ?_
    clear nG
    exact ⟨a, vs, rfl, t⟩
  · exact ⟨_, _, rfl, ‹_›⟩
theorem ev_mlist {o : Expr} {name : Str} {apos pos : Pos} {e : Expr} {rest : List Expr} {id : String} {pl : Sem Bool} (slot : Slot "list" name id) (ty : typeOf (.builtin id) = pure (.type "method_descriptor"))
    (hE : eval (.Call (.Attribute o name apos) (e :: rest) [] pos) env = (do
      let ov ← eval o env
      standAt apos.atName
      let (f, first) ← holding [ov] (getMethod ov name pl)
      callWith pos f first (backTo pos (starEach (e :: rest) env)) []))
    (he : starEach (e :: rest) env = (false, eval e env) :: starEach rest env) (hp : (backTo pos (starEach rest env)).any (·.1) = false)
    (h : Ev prog w C RV env X (eval o env) loc (fun v μ₁ => IsL v ∧ (∀ k, v = .lst k → k < μ₁.length) ∧ Ev prog w C RVs env X (spliced (backTo pos (starEach (e :: rest) env))) loc (fun vs μ₂ => Op prog w C RV (fun us => call (.builtin id) us) X Q (v :: vs) μ₂) μ₁) μ) :
    Ev prog w C RV env X (eval (.Call (.Attribute o name apos) (e :: rest) [] pos) env) loc Q μ := by
  intro A s ρ cx rl lc P PE p pe
  refine MethodCall_ (h.go cx rl lc pe fun u v μ₁ ρ₁ h₁ tk₁ r₁ q₁ l₁ e₁ => ?_) hE
  refine nn fun nG => ?_
  obtain ⟨hi, hk, q⟩ := q₁
  obtain ⟨a, vs, rfl, t⟩ := lstOf l₁ r₁ hi hk
  refine nG ?_
  clear nG
  with_reducible refine getMethod_builtin t.list.typeIs PySem.F.plainAttrs_list slot ty (fun b e => ?_) ?_
  · cases e; obtain ⟨n, ho⟩ := t; exact ⟨_, ho, rfl⟩
  with_reducible refine PyProof.Rows.callWith_method1 ?_ he hp
  refine q.go cx l₁ (lc.mono rl e₁.grow) (pe.then e₁) fun us vs μ₂ ρ₂ h₂ tk₂ r₂ q₂ l₂ e₂ => ?_
  exact q₂.go cx l₂ (.cons (r₁.mono e₂.grow bare_no) r₂) ((pe.then e₁).then e₂) ((p.then e₁).then e₂)

/-- the first place of c from k on -/
noncomputable def ixOf (c : Nat) (l : List Nat) (k : Nat) : Int := match (l.drop k).findIdx? (· == c) with | some j => ((k + j : Nat) : Int) | none => -1
theorem find3_ix (x : Str) (c : Nat) (k : Nat) : Txt.find3 x ⟨#[c]⟩ (k : Int) = ixOf c (cs x) k := by
  have hf : fromIndex x.length (k : Int) = k := by
    unfold fromIndex
    rw [if_neg (by (first | lia | omega))]; (first | lia | omega)
  have gd : ∀ v, x.cps.getD v 0 = (cs x).getD v 0 := fun v => by
    rw [List.getD_eq_getElem?_getD, Array.getD_eq_getD_getElem?]
    simp [cs]
  have hl := cs_len x
  unfold ixOf
  rcases StrLaws.find3_spec x c (k : Int) with ⟨h, hn⟩ | ⟨j, h, h1, h2, h3, hn⟩
  · rw [hf] at hn
    rw [h]
    have : ((cs x).drop k).findIdx? (· == c) = none := by
      rw [List.findIdx?_eq_none_iff]
      intro y hy
      refine nn fun nG => ?_
      obtain ⟨i, hi, rfl⟩ := List.getElem_of_mem hy
      refine nG ?_
      clear nG
      have hi' : i < (cs x).length - k := by simpa using hi
      have := hn (k + i) (by (first | lia | omega)) (by (first | lia | omega))
      rw [gd, List.getD_eq_getElem?_getD, List.getElem?_eq_getElem (by (first | lia | omega))] at this
      simpa using this
    rw [this]
  · rw [hf] at h1 hn
    rw [h]
    have : ((cs x).drop k).findIdx? (· == c) = some (j - k) := by
      rw [List.findIdx?_eq_some_iff_getElem]
      refine ⟨by rw [List.length_drop]; (first | lia | omega), ?_, fun i hi => ?_⟩
      · rw [gd, List.getD_eq_getElem?_getD, List.getElem?_eq_getElem (by (first | lia | omega))] at h3
        simp only [List.getElem_drop, beq_iff_eq]
        have e : k + (j - k) = j := by (first | lia | omega)
        simp only [e]
        simpa using h3
      · have := hn (k + i) (by (first | lia | omega)) (by (first | lia | omega))
        rw [gd, List.getD_eq_getElem?_getD, List.getElem?_eq_getElem (by (first | lia | omega))] at this
        simpa using this
    rw [this]
    show (j : Int) = ((k + (j - k) : Nat) : Int)
    (first | lia | omega)
theorem m_find {x : List Nat} {c k : Nat} (h : Q (.int (ixOf c x k)) μ) : Op prog w C RV (fun us => call (.builtin "str.find") us) X Q [.str x, .str [c], .int k] μ := by
  intro A s ρ us cx rl r P PE p pe
  refine nn fun nG => ?_
  obtain ⟨u, v, z, rfl, r1, r2, r3⟩ := r.three
  obtain ⟨x', t, rfl, rfl⟩ := r1.strInv
  obtain ⟨y', t', rfl, e⟩ := r2.strInv
  obtain ⟨t'', rfl⟩ := r3.intInv
  refine nG ?_
  clear nG
  obtain rfl := one_cs e
  rw [← find3_ix] at h
  with_reducible exact PySem.SC.find3 (p.same (.int _ _) h rl)
theorem m_lower {x : List Nat} (hl : x.length ≤ 5000) (h : Q (.str (cs (Txt.lower ⟨x.toArray⟩))) μ) : Op prog w C RV (fun us => call (.builtin "str.lower") us) X Q [.str x] μ := by
  intro A s ρ us cx rl r P PE p pe
  refine nn fun nG => ?_
  obtain ⟨u, rfl, r1⟩ := r.one
  obtain ⟨x', t, rfl, rfl⟩ := r1.strInv
  refine nG ?_
  clear nG
  have e : (⟨(cs x').toArray⟩ : Str) = x' := cs_inj rfl
  rw [e] at h
  exact PySem.SC.lower (fit_lower (by rw [cs_len]; (first | lia | omega))) (p.same (.str _ _) h rl)
theorem m_strip {x : List Nat} (hl : x.length ≤ 5000) (h : Q (.str (cs (Txt.strip ⟨x.toArray⟩))) μ) : Op prog w C RV (fun us => call (.builtin "str.strip") us) X Q [.str x] μ := by
  intro A s ρ us cx rl r P PE p pe
  refine nn fun nG => ?_
  obtain ⟨u, rfl, r1⟩ := r.one
  obtain ⟨x', t, rfl, rfl⟩ := r1.strInv
  refine nG ?_
  clear nG
  have e : (⟨(cs x').toArray⟩ : Str) = x' := cs_inj rfl
  rw [e] at h
  exact PySem.SC.strip (fun t' k => p.same (.str _ _) h rl) (by rw [cs_len, sizeLine_eq]; (first | lia | omega))
/-- texts of a list -/
noncomputable def strsOf : List V → Option (List (List Nat))
  | [] => some []
  | .str x :: r => (strsOf r).map (x :: ·)
  | _ => none
theorem strs_of {h : Heap} {ρ : List Addr} : ∀ {vs : List Value} {l : List V} {xs : List (List Nat)}, RVs h ρ vs l → strsOf l = some xs → ∃ ps : List (Str × Tok), vs = strValues ps ∧ ps.map (fun p => cs p.1) = xs
  | _, [], xs, .nil, e => by simp [strsOf] at e; subst e; exact ⟨[], rfl, rfl⟩
  | v :: vs, d :: l, xs, .cons r rs, e => by
    cases d <;> simp [strsOf] at e
    refine nn fun nG => ?_
    obtain ⟨ys, e1, rfl⟩ := e
    obtain ⟨x', t, rfl, rfl⟩ := r.strInv
    obtain ⟨ps, rfl, rfl⟩ := strs_of rs e1
    refine nG ?_
    clear nG
    exact ⟨(x', t) :: ps, rfl, rfl⟩
theorem join_flat : ∀ (l : List Str), cs (Txt.join ⟨#[]⟩ l) = (l.map cs).flatten := by
  intro l
  show cs (Builtin.Str.glued _ _) = _
  rw [StrLaws.glued_eq_join]
  have g : ∀ (l : List Str) (a : Str), cs (Str.join ⟨#[]⟩ (a :: l)) = cs a ++ (l.map cs).flatten := by
    intro l
    induction l with
    | nil => intro a; simp [Str.join]
    | cons b l ih =>
      intro a
      have e : Str.join ⟨#[]⟩ (a :: b :: l) = a ++ ⟨#[]⟩ ++ Str.join ⟨#[]⟩ (b :: l) := rfl
      rw [e, cs_append, cs_append, ih]
      simp [cs]
  cases l with
  | nil => rfl
  | cons a l => rw [g]; simp
end
end Mine
end

section
set_option maxHeartbeats 1000000
open PySem PySem.W PyProof.Rows PySem.Spec PySem.Calls PySem.SeqAt
set_option Elab.async false
set_option linter.unusedVariables false
set_option linter.unusedSimpArgs false
set_option maxRecDepth 100000
namespace Mine

/-! ## lists that turn -/
section
variable {prog : Program} {w : World} {C : Ctx} {X : Str → St → Prop} {env : Env} {loc : List (Str × V)} {Q : V → St → Prop} {μ : St}
theorem eq_get {h : Heap} {a : Addr} {vs : List Value} (t : LstE h a vs) : ∃ n, h.get? a = some { cls := .type "list", data := .seq vs.toArray n } := t
theorem m_append {i : Nat} {l : List V} {d : V} (hi : μ[i]? = some l) (hl : l.length ≤ 1000000) (h : Q .none (μ.set i (l ++ [d]))) : Op prog w C RV (fun us => call (.builtin "list.append") us) X Q [.lst i, d] μ := by
  intro A s ρ us cx rl r P PE p pe
  refine nn fun nG => ?_
  obtain ⟨u, v, rfl, r1, r2⟩ := r.two
  obtain ⟨a, rfl, ea⟩ := r1.lstInv
  obtain ⟨vs, ⟨n, ho⟩, rs⟩ := rl.lst i a l ea hi
  refine nG ?_
  clear nG
  refine append_at ho (fun h' sb ho' => ?_) (by rw [List.size_toArray, rs.length, sizeLine_eq]; (first | lia | omega))
  have t' : LstE h' a (vs ++ [v]) := ⟨n + 1, by rw [ho']; simp⟩
  obtain ⟨l', e'⟩ := rl.turn ea sb t' (rs.append (.cons r2 .nil))
  exact p _ _ _ _ h' s.toks .none h l' e'
theorem upd_list {s : Shared} {ρ : List Addr} {i : Nat} {a : Addr} {vs vs' : List Value} {l' : List V} {n : Nat} {f : Array Value → Array Value} (rl : Rl C s.heap ρ μ) (ea : ρ[i]? = some a) (ho : s.heap.get? a = some { cls := .type "list", data := .seq vs.toArray n })
    (hf : f vs.toArray = vs'.toArray) (rs : RVs s.heap ρ vs' l') : Rl C (s.heap.update a (Obj.mapSeq f)) ρ (μ.set i l') ∧ Ext no s.heap ρ (s.heap.update a (Obj.mapSeq f)) ρ := by
  have e := PySem.IsL.update ho f
  rw [hf] at e
  exact rl.turn ea (Heap.SameBut.update ..) ⟨_, e⟩ rs
theorem m_pop0 {i : Nat} {l : List V} {d : V} (hi : μ[i]? = some (d :: l)) (hl : l.length ≤ 1000000) (h : Q d (μ.set i l)) : Op prog w C RV (fun us => call (.builtin "list.pop") us) X Q [.lst i, .int 0] μ := by
  intro A s ρ us cx rl r P PE p pe
  refine nn fun nG => ?_
  obtain ⟨u, v, rfl, r1, r2⟩ := r.two
  obtain ⟨a, rfl, ea⟩ := r1.lstInv
  obtain ⟨t, rfl⟩ := r2.intInv
  obtain ⟨vs, ⟨n, ho⟩, rs⟩ := rl.lst i a _ ea hi
  refine nG ?_
  clear nG
  cases rs with
  | @cons y vs _ _ ry rs =>
    obtain ⟨l', e'⟩ := upd_list (f := fun xs => xs.eraseIdxIfInBounds 0) rl ea ho (by simp [Array.eraseIdxIfInBounds]) rs
    have hz : (y :: vs).toArray.size ≤ sizeLine := by rw [List.size_toArray, List.length_cons, rs.length, sizeLine_eq]; (first | lia | omega)
    exact call_meets PySem.F.slot_list_pop ⟨_, ho, rfl⟩ PySem.F.entry_list_pop (PySem.F.args_list_pop_2 _ _) (PySem.MeetsSeq.list_pop_at a _ n 0 t 0 y (by decide) (by simp [seqIndex?]) (by simp) hz)
      ⟨ho, p _ _ _ _ _ s.toks (ry.mono e'.grow bare_no) h l' e'⟩
/-- a list's item set -/
noncomputable def Op3 {α β : Type} (prog : Program) (w : World) (C : Ctx) (R : Heap → List Addr → α → β → Prop) (f : Value → Value → Value → Sem α) (X : Str → St → Prop) (Q : β → St → Prop) (a b c : V) (μ : St) : Prop :=
  ∀ A s ρ u v z, Cx C A → Rl C s.heap ρ μ → RV s.heap ρ u a → RV s.heap ρ v b → RV s.heap ρ z c → Run prog w C no R (f u v z) A s ρ Q X
theorem o_set_lst {i : Nat} {l : List V} {k : Int} {d : V} {QU : Unit → St → Prop} (j : Nat) (hk : k = j) (hi : μ[i]? = some l) (hj : j < l.length) (hl : l.length ≤ 1000000) (h : QU () (μ.set i (l.set j d))) : Op3 prog w C REq (fun o i v => setItem o i v) X QU (.lst i) (.int k) d μ := by
  intro A s ρ u v z cx rl r1 r2 r3 P PE p pe
  refine nn fun nG => ?_
  obtain ⟨a, rfl, ea⟩ := r1.lstInv
  obtain ⟨t, rfl⟩ := r2.intInv
  obtain ⟨vs, ⟨n, ho⟩, rs⟩ := rl.lst i a l ea hi
  refine nG ?_
  clear nG
  have hs : RVs s.heap ρ (vs.set j z) (l.set j d) := by
    clear ho hi h hj hl hk
    induction vs generalizing l j with
    | nil => cases rs; exact .nil
    | cons y vs ih =>
      cases rs with
      | cons r rs =>
        cases j with
        | zero => exact .cons r3 rs
        | succ j => exact .cons r (ih _ rs)
  subst hk
  obtain ⟨l', e'⟩ := upd_list (f := fun xs => xs.setIfInBounds j z) rl ea ho (by simp) hs
  refine ki_setAt (n := n) ho (by (first | lia | omega)) (by (first | lia | omega)) (by rw [List.size_toArray, rs.length]; (first | lia | omega)) ?_
  rw [Int.toNat_natCast]
  exact p _ _ _ _ _ s.toks rfl h l' e'
/-- the place of a text in a list of texts -/
theorem m_index {i : V} {l : List V} {xs : List (List Nat)} {x : List Nat} (j : Nat) (hL : i = .fro l ∨ ∃ k, i = .lst k ∧ μ[k]? = some l) (hx : strsOf l = some xs) (hj : xs[j]? = some x) (hno : ∀ m < j, xs[m]? ≠ some x) (hs : j < 1000000) (h : Q (.int j) μ) :
    Op prog w C RV (fun us => call (.builtin "list.index") us) X Q [i, .str x] μ := by
  intro A s ρ us cx rl r P PE p pe
  refine nn fun nG => ?_
  obtain ⟨u, v, rfl, r1, r2⟩ := r.two
  refine nG ?_
  clear nG
  have : ∃ a vs n, u = .ref a ∧ s.heap.get? a = some { cls := .type "list", data := .seq vs.toArray n } ∧ RVs s.heap ρ vs l := by
    rcases hL with rfl | ⟨k, rfl, hk⟩
    · refine nn fun nG => ?_
      obtain ⟨a, vs, rfl, ⟨n, ho⟩, _, rs⟩ := r1.froInv
      refine nG ?_
      clear nG
      exact ⟨a, vs, n, rfl, ho, rs⟩
    · refine nn fun nG => ?_
      obtain ⟨a, rfl, ea⟩ := r1.lstInv
      obtain ⟨vs, ⟨n, ho⟩, rs⟩ := rl.lst k a l ea hk
      refine nG ?_
      clear nG
      exact ⟨a, vs, n, rfl, ho, rs⟩
  refine nn fun nG => ?_
  obtain ⟨a, vs, n, rfl, ho, rs⟩ := this
  obtain ⟨ps, rfl, rfl⟩ := strs_of rs hx
  obtain ⟨x', t, rfl, rfl⟩ := r2.strInv
  refine nG ?_
  clear nG
  let e : Value → Bool := fun v => match v with | .str y _ => y == x' | _ => false
  have hjl : j < ps.length := by have := (List.getElem?_eq_some_iff.mp hj).1; simpa using this
  have gx : ∀ m (hm : m < ps.length), (ps.map fun p => cs p.1)[m]? = some (cs ps[m].1) := fun m hm => by simp [hm]
  have ge : ∀ m (hm : m < (strValues ps).toArray.size), ∃ hm' : m < ps.length, (strValues ps).toArray[m] = .str ps[m].1 ps[m].2 := fun m hm => by
    have hm' : m < ps.length := by simpa [strValues] using hm
    exact ⟨hm', by simp [strValues]⟩
  have hsz : j < (strValues ps).toArray.size := by simpa [strValues] using hjl
  refine call_meets PySem.F.slot_list_index ⟨_, ho, rfl⟩ PySem.F.entry_list_index (PySem.F.args_list_index_2 _ _) (list_indexAt a _ n none #[] (.str x' t) e j hsz (by (first | lia | omega)) ?_ ?_) ⟨ho, fun y hy => ?_, p.same (.int _ _) h rl⟩
  · obtain ⟨hm', e1⟩ := ge j hsz
    rw [e1]
    show (ps[j].1 == x') = true
    rw [cs_beq]
    rw [gx j hjl] at hj
    simpa using hj
  · intro m hm hlt
    obtain ⟨hm', e1⟩ := ge m hm
    rw [e1]
    show (ps[m].1 == x') = false
    rw [cs_beq]
    have := hno m hlt
    rw [gx m hm'] at this
    simpa using this
  · have hy' : y ∈ strValues ps := by simpa using hy
    refine nn fun nG => ?_
    obtain ⟨q, hq, rfl⟩ := List.mem_map.mp hy'
    refine nG ?_
    clear nG
    exact EqAt.str_str _ _ _ _
end
end Mine
end

section
set_option maxHeartbeats 1000000
open PySem PySem.W PyProof.Rows PySem.Spec PySem.Calls PySem.SeqAt
set_option Elab.async false
set_option linter.unusedVariables false
set_option linter.unusedSimpArgs false
set_option maxRecDepth 100000
namespace Mine

/-! ## what a flying exception turns: slots, records, new objects -/
structure Soft (C : Ctx) (h h' : Heap) : Prop where
  stay : ∀ b o, C.h₀.get? b = some o → h.get? b = some o → h'.get? b = some o
  live : ∀ b, h.get? b ≠ none → h'.get? b ≠ none
  keep : ∀ b o, h.get? b = some o → (∀ vs, o.data ≠ .fields vs) → ∃ sl, h'.get? b = some { o with slots := sl }
  seq : ∀ b o, h.get? b = some o → (∃ xs n, o.data = .seq xs n) → h'.get? b = some o
  tab : ∀ b o, h.get? b = some o → o.cls = .none → (∃ ps, o.data = .fields ps) → h'.get? b = some o
section
variable {C : Ctx} {h h' h'' : Heap} {ρ : List Addr} {μ : St}
theorem Soft.refl : Soft C h h := ⟨fun _ _ _ e => e, fun _ e => e, fun _ o e _ => ⟨o.slots, e⟩, fun _ _ e _ => e, fun _ _ e _ _ => e⟩
theorem Soft.trans (x : Soft C h h') (y : Soft C h' h'') : Soft C h h'' :=
  ⟨fun b o q e => y.stay b o q (x.stay b o q e), fun b e => y.live b (x.live b e), fun b o e n => let ⟨_, e1⟩ := x.keep b o e n; let ⟨sl, e2⟩ := y.keep b _ e1 n; ⟨sl, e2⟩, fun b o e n => y.seq b o (x.seq b o e n) n, fun b o e n m => y.tab b o (x.tab b o e n m) n m⟩
theorem Soft.of_keeps (k : ∀ b o, h.get? b = some o → h'.get? b = some o) : Soft C h h' :=
  ⟨fun b o _ e => k b o e, (ext_of (ρ := []) k).live, fun b o e _ => ⟨o.slots, k b o e⟩, fun b o e _ => k b o e, fun b o e _ _ => k b o e⟩
theorem Soft.grow (x : Soft C h h') : Grow no h ρ h' ρ :=
  ⟨⟨[], by simp⟩, fun _ m => .inl m, x.live, fun b o e _ _ n => x.keep b o e n, fun b o e _ _ n => x.seq b o e n, fun b o e _ _ n m => x.tab b o e n m⟩
theorem Soft.rl (x : Soft C h h') (R : Rl C h ρ μ) : Rl C h' ρ μ := by
  refine ⟨fun b o e => x.stay b o e (R.stay b o e), fun env m => ?_, R.nd, R.len, fun i a l e1 e2 => ?_, R.new⟩
  · refine nn fun nG => ?_
    obtain ⟨h1, L, mm, h2, h3, o, es, ep, ho, hd, r⟩ := R.frm env m
    obtain ⟨sl, e⟩ := x.keep L o ho (fun vs q => by rw [hd] at q; cases q)
    refine nG ?_
    clear nG
    exact ⟨h1, L, mm, h2, h3, _, es, ep, e, hd, r⟩
  · refine nn fun nG => ?_
    obtain ⟨vs, ⟨n, ho⟩, q⟩ := R.lst i a l e1 e2
    refine nG ?_
    clear nG
    exact ⟨vs, ⟨n, x.seq a _ ho ⟨_, _, rfl⟩⟩, q.mono x.grow bare_no⟩
theorem Soft.ns (x : Soft C h h') {L : Addr} {m : Str → Option Value} (n : h.Ns L m) : h'.Ns L m := by
  refine nn fun nG => ?_
  obtain ⟨o, es, ep, ho, hd, r⟩ := n
  obtain ⟨sl, e⟩ := x.keep L o ho (fun vs q => by rw [hd] at q; cases q)
  refine nG ?_
  clear nG
  exact ⟨_, es, ep, e, hd, r⟩
theorem Soft.update {a : Addr} {o : Obj} {vs : Array Value} {f : Array Value → Array Value} (ho : h.get? a = some o) (hd : TF o vs) (hn : C.h₀.get? a = none) : Soft C h (h.update a (Obj.mapFields f)) := by
  have oth : ∀ b, b ≠ a → (h.update a (Obj.mapFields f)).get? b = h.get? b := fun b hb => Heap.get?_update_other _ _ (Ne.symm hb)
  have self := Heap.get?_update_self (Obj.mapFields f) ho (Obj.isFreed_of_fields (Obj.data_mapFields hd.1 f))
  refine ⟨fun b o' q e => (oth b fun z => by rw [z, hn] at q; cases q).trans e, fun b e => ?_, fun b o' e n => ?_, fun b o' e n => ?_, fun b o' e n m => ?_⟩
  · by_cases q : b = a
    · rw [q, self]; simp
    · rw [oth b q]; exact e
  · exact ⟨o'.slots, (oth b fun z => by rw [z, ho] at e; cases e; exact n vs hd.1).trans e⟩
  · exact (oth b fun z => by rw [z, ho] at e; cases e; obtain ⟨xs, k, q⟩ := n; rw [hd.1] at q; cases q).trans e
  · exact (oth b fun z => by rw [z, ho] at e; cases e; exact hd.2 n).trans e
theorem Soft.slots (S : Heap.SlotsOnly (C.fs.filterMap (·.frame)) h h') (F : Frs C.h₀ h C.fs) : Soft C h h' := by
  have fr : ∀ b ∈ C.fs.filterMap (·.frame), C.h₀.get? b = none ∧ ∃ m, h.Ns b m := fun b m => by
    refine nn fun nG => ?_
    obtain ⟨env, he, hf⟩ := List.mem_filterMap.mp m
    obtain ⟨_, L, mm, h2, h3, h4⟩ := F env he
    refine nG ?_
    clear nG
    rw [h2] at hf; cases hf
    exact ⟨h3, mm, h4⟩
  refine ⟨fun b o q e => (S.2.1 b fun m => by rw [(fr b m).1] at q; cases q).trans e, fun b e => ?_, fun b o e _ => S.2.2 b o e, fun b o e n => (S.2.1 b fun m => ?_).trans e, fun b o e n n' => (S.2.1 b fun m => ?_).trans e⟩
  · cases q : h.get? b with
    | none => exact absurd q e
    | some o => obtain ⟨sl, z⟩ := S.2.2 b o q; rw [z]; simp
  · refine nn fun nG => ?_
    obtain ⟨_, mm, o', es, ep, ho, hd, _⟩ := fr b m
    refine nG ?_
    clear nG
    rw [e] at ho; cases ho
    refine nn fun nG => ?_
    obtain ⟨xs, k, q⟩ := n
    refine nG ?_
    clear nG
    rw [q] at hd; cases hd
  · refine nn fun nG => ?_
    obtain ⟨_, mm, o', es, ep, ho, hd, _⟩ := fr b m
    refine nG ?_
    clear nG
    rw [e] at ho; cases ho
    obtain ⟨xs, q⟩ := n'
    rw [q] at hd; cases hd
theorem funFrames (F : Frs C.h₀ h C.fs) : h.FunFrames C.h₀ C.fs := by
  revert F
  generalize C.fs = fs
  intro F
  induction fs with
  | nil => trivial
  | cons env rest ih =>
    refine nn fun nG => ?_
    obtain ⟨h1, L, mm, h2, h3, o, es, ep, ho, hd, _⟩ := F env (.head _)
    refine nG ?_
    clear nG
    exact ⟨by rw [h1]; simp, ⟨L, o, h2, h3, ho, fun vs q => by rw [hd] at q; cases q⟩, ih fun e m => F e (.tail _ m)⟩
theorem mapFields_dict (o : Obj) (f) : (o.mapFields f).dict = o.dict := by obtain ⟨c, d, dt, sl⟩ := o; cases dt <;> rfl
/-- the exception, its traceback's flight told -/
noncomputable def ExcAt (C : Ctx) (h : Heap) (e : Addr) (k : Str) (fl : Value) : Prop :=
  C.h₀.get? e = none ∧ ∃ oe vs d m t T oT ts, h.get? e = some oe ∧ oe.cls = .ref 33 ∧ oe.data = .fields vs ∧ oe.dict = some d ∧ h.Ns d m ∧ m "kind" = some (.str k t) ∧
    vs[1]? = some (.ref T) ∧ C.h₀.get? T = none ∧ T ≠ e ∧ h.get? T = some oT ∧ TF oT ts ∧ ts[3]? = some fl
theorem ExcAt.exc {e : Addr} {k : Str} (x : ExcAt C h e k .none) : Exc C h e k := by
  refine nn fun nG => ?_
  obtain ⟨h1, oe, vs, d, m, t, T, oT, ts, a1, a2, a3, a4, a5, a6, a7, a8, a9, a10, a11, a12⟩ := x
  refine nG ?_
  clear nG
  exact ⟨h1, oe, vs, d, m, t, a1, a2, a3, a4, a5, a6, .inr ⟨T, oT, ts, _, a7, a8, a9, a10, a11, a12, .inl rfl⟩⟩
theorem ExcAt.excL {e : Addr} {k : Str} {env : Env} {outer : List Env} {L : Addr} (x : ExcAt C h e k (rawInt L)) (hf : C.fs = env :: outer) (hl : env.frame = some L) : Exc C h e k := by
  refine nn fun nG => ?_
  obtain ⟨h1, oe, vs, d, m, t, T, oT, ts, a1, a2, a3, a4, a5, a6, a7, a8, a9, a10, a11, a12⟩ := x
  refine nG ?_
  clear nG
  exact ⟨h1, oe, vs, d, m, t, a1, a2, a3, a4, a5, a6, .inr ⟨T, oT, ts, _, a7, a8, a9, a10, a11, a12, .inr ⟨env, outer, L, hf, hl, rfl⟩⟩⟩
theorem ns_live {h : Heap} {d : Addr} {m} (n : h.Ns d m) : d < h.objs.size := let ⟨_, _, _, ho, _⟩ := n; Heap.lt_size ho
end

section
variable {prog : Program} {w : World} {C : Ctx} {A : Around} {E : Value → Shared → Prop} {s : Shared} {ρ : List Addr} {e : Addr} {k : Str} {μ : St}
/-- a new entry ahead -/
theorem newEntry_exc {env : Env} {outer : List Env} {L : Addr} {oe : Obj} {vs : Array Value} {d : Addr} {m : Str → Option Value} {t : Tok} {head : Value} {hadNext : Bool} {Q : Unit → Shared → Prop} (cx : Cx C A) (R : Rl C s.heap ρ μ) (hf : C.fs = env :: outer) (hl : env.frame = some L)
    (hen : C.h₀.get? e = none) (a1 : s.heap.get? e = some oe) (a2 : oe.cls = .ref 33) (a3 : oe.data = .fields vs) (a4 : oe.dict = some d) (a5 : s.heap.Ns d m) (a6 : m "kind" = some (.str k t)) (hsz : 1 < vs.size)
    (h : ∀ h', ExcAt C h' e k (rawInt L) → Soft C s.heap h' → Q () { s with heap := h' }) :
    wpAny (model prog w) A (do let a ← frameOf env; let pl ← entryPlaceOf L hadNext; let b ← EntryCells.newEntry head a .none (rawInt L) .none pl; setField (.ref e) 1 b) Q E s := by
  have fr := funFrames R.frm
  rw [hf] at fr
  refine wpAny_bind (wpAny_frameOf_fun (by rw [cx.frames, hf]) fr hl fun h₁ hs₁ => ?_)
  rw [← hf] at hs₁
  have S₁ := Soft.slots hs₁ R.frm
  have nfr : e ∉ C.fs.filterMap (·.frame) := fun mm => by
    refine nn fun nG => ?_
    obtain ⟨env', he', hf'⟩ := List.mem_filterMap.mp mm
    obtain ⟨_, L', m', g2, g3, o', es, ep, ho', hd', _⟩ := R.frm env' he'
    refine nG ?_
    clear nG
    rw [g2] at hf'; cases hf'
    rw [a1] at ho'; cases ho'; rw [a3] at hd'; cases hd'
  refine wpAny_bind (wpAny_entryPlaceOf fun pl hpl => ?_)
  unfold EntryCells.newEntry newFields
  refine wpAny_bind (wpAny_newObj_type ?_ (hpl.sizeOk5 _ _ _ _ _))
  have e₁ : h₁.get? e = some oe := (hs₁.2.1 e nfr).trans a1
  have tnew : C.h₀.get? h₁.objs.size = none := by
    cases q : C.h₀.get? h₁.objs.size with
    | none => rfl
    | some o => exact absurd (Heap.lt_size (S₁.stay _ _ q (R.stay _ _ q))) (Nat.lt_irrefl _)
  generalize hT : ({ cls := .type "traceback", dict := Option.none, data := .fields ([head, .ref L, .none, rawInt L, .none] ++ (if pl.isEmpty then List.replicate 6 Value.none else pl)).toArray } : Obj) = oT
  have hTd : oT.data = .fields ([head, .ref L, .none, rawInt L, .none] ++ (if pl.isEmpty then List.replicate 6 Value.none else pl)).toArray := by rw [← hT]
  have hTf : oT.isFreed = false := by rw [← hT]; rfl
  have S₂ : Soft C h₁ (h₁.push oT) := Soft.of_keeps (push_keeps oT)
  have e₂ : (h₁.push oT).get? e = some oe := push_keeps oT _ _ e₁
  refine wpAny_setField e₂ a3 hsz (h _ ?_ ((S₁.trans S₂).trans (Soft.update e₂ ⟨a3, by rw [a2]; simp⟩ hen)))
  have hne : h₁.objs.size ≠ e := Nat.ne_of_gt (Heap.lt_size e₁)
  have S₃ := (S₁.trans S₂).trans (Soft.update (f := (·.setIfInBounds 1 (Value.ref h₁.objs.size))) e₂ ⟨a3, by rw [a2]; simp⟩ hen)
  refine ⟨hen, _, _, d, m, t, h₁.objs.size, oT, _, Heap.get?_update_self _ e₂ (Obj.isFreed_of_fields (Obj.data_mapFields a3 _)), (Obj.cls_mapFields _ _).trans a2, Obj.data_mapFields a3 _, (mapFields_dict _ _).trans a4, S₃.ns a5, a6, by simp [hsz], tnew, hne, ?_, ⟨hTd, by rw [← hT]; simp⟩, ?_⟩
  · exact (Heap.get?_update_other _ _ hne.symm).trans (Heap.get?_push_size _ hTf)
  · rcases hpl with rfl | ⟨_, _, _, _, _, _, _, rfl⟩ <;> simp
theorem note_exc {env : Env} {outer : List Env} {L : Addr} {Q : Unit → Shared → Prop} (cx : Cx C A) (R : Rl C s.heap ρ μ) (hf : C.fs = env :: outer) (hl : env.frame = some L) (x : Exc C s.heap e k)
    (h : ∀ h', ExcAt C h' e k (rawInt L) → Soft C s.heap h' → Q () { s with heap := h' }) : wpAny (model prog w) A (noteFrame (.ref e) env) Q E s := by
  refine nn fun nG => ?_
  obtain ⟨hen, oe, vs, d, m, t, a1, a2, a3, a4, a5, a6, fl⟩ := x
  refine nG ?_
  clear nG
  unfold noteFrame
  simp only [hl]
  rcases fl with q | ⟨T, oT, ts, fl, b1, b2, b3, b4, b5, b6, b7⟩
  · refine wpAny_bind (wpAny_field a1 a3 q ?_)
    rw [if_neg (by decide)]
    exact newEntry_exc cx R hf hl hen a1 a2 a3 a4 a5 a6 (Array.getElem?_eq_some_iff.mp q).1 h
  · refine wpAny_bind (wpAny_field a1 a3 b1 ?_)
    rw [if_pos (show (Value.ref T != Value.none) = true from by simp)]
    refine wpAny_bind (wpAny_field b4 b5.1 b6 ?_)
    by_cases hq : fl = rawInt L
    · rw [if_pos (by rw [hq]; simp)]
      refine wpAny_pure (h s.heap ⟨hen, oe, vs, d, m, t, T, oT, ts, a1, a2, a3, a4, a5, a6, b1, b2, b3, b4, b5, ?_⟩ .refl)
      rw [b6, hq]
    · rw [if_neg (by simpa using hq)]
      refine wpAny_bind (wpAny_setField b4 b5.1 (Array.getElem?_eq_some_iff.mp b6).1 ?_)
      have S := Soft.update (C := C) (f := (·.setIfInBounds 3 Value.none)) b4 b5 b2
      refine newEntry_exc (s := ⟨s.heap.update T _, _, _, _, _⟩) cx (S.rl R) hf hl hen ((Heap.get?_update_other _ _ b3).trans a1) a2 a3 a4 (S.ns a5) a6 (Array.getElem?_eq_some_iff.mp b1).1 fun h' x' S' => h h' x' (S.trans S')
theorem flight_exc {fl : Value} {fr : Option Addr} {Q : Unit → Shared → Prop} (x : ExcAt C s.heap e k fl)
    (h : ∀ h', ExcAt C h' e k (fr.elim .none fun f => rawInt f) → Soft C s.heap h' → Q () { s with heap := h' }) : wpAny (model prog w) A (setFlight (.ref e) fr) Q E s := by
  refine nn fun nG => ?_
  obtain ⟨h1, oe, vs, d, m, t, T, oT, ts, a1, a2, a3, a4, a5, a6, a7, a8, a9, a10, a11, a12⟩ := x
  refine nG ?_
  clear nG
  unfold setFlight
  refine wpAny_bind (wpAny_field a1 a3 a7 ?_)
  rw [if_pos (show (Value.ref T != Value.none) = true from by simp)]
  have hsz := (Array.getElem?_eq_some_iff.mp a12).1
  have S := Soft.update (C := C) (f := (·.setIfInBounds 3 (fr.elim .none fun f => rawInt f))) a10 a11 a8
  refine wpAny_setField a10 a11.1 hsz (h _ ⟨h1, oe, vs, d, m, t, T, _, _, (Heap.get?_update_other _ _ a9).trans a1, a2, a3, a4, S.ns a5, a6, a7, a8, a9, Heap.get?_update_self _ a10 (Obj.isFreed_of_fields (Obj.data_mapFields a11.1 _)), ⟨Obj.data_mapFields a11.1 _, by rw [Obj.cls_mapFields]; exact a11.2⟩, by simp [hsz]⟩ S)
theorem leaving_exc {env : Env} {outer : List Env} {L : Addr} {Q : Unit → Shared → Prop} (cx : Cx C A) (R : Rl C s.heap ρ μ) (hf : C.fs = env :: outer) (hl : env.frame = some L) (x : Exc C s.heap e k)
    (h : ∀ h', ExcAt C h' e k .none → Soft C s.heap h' → Q () { s with heap := h' }) : wpAny (model prog w) A (leaving env (.ref e)) Q E s := by
  unfold leaving
  refine wpAny_bind (note_exc cx R hf hl x fun h' x' S' => ?_)
  exact flight_exc (s := ⟨h', _, _, _, _⟩) (fr := Option.none) x' fun h'' x'' S'' => h h'' x'' (S'.trans S'')
theorem noted_exc {env : Env} {outer : List Env} {L : Addr} (cx : Cx C A) (R : Rl C s.heap ρ μ) (hf : C.fs = env :: outer) (hl : env.frame = some L) (x : Exc C s.heap e k)
    (h : ∀ h', ExcAt C h' e k (rawInt L) → Soft C s.heap h' → E (.ref e) { s with heap := h' }) : notedBy (model prog w) A env E (.ref e) s := note_exc cx R hf hl x h
theorem camebk_exc {env : Env} {outer : List Env} {L : Addr} (hf : C.fs = env :: outer) (hl : env.frame = some L) (x : ExcAt C s.heap e k (rawInt L))
    (h : ∀ h', Exc C h' e k → Soft C s.heap h' → E (.ref e) { s with heap := h' }) : cameBackBy (model prog w) A env E (.ref e) s := by
  refine nn fun nG => ?_
  obtain ⟨h1, oe, vs, d, m, t, T, oT, ts, a1, a2, a3, a4, a5, a6, a7, a8⟩ := id x
  refine nG ?_
  clear nG
  unfold cameBackBy
  refine wpAny_bind (wpAny_field a1 a3 a7 ?_)
  rw [if_neg (by simp)]
  refine flight_exc (fr := env.frame) x fun h' x' S' => ?_
  rw [hl] at x'
  exact h h' (x'.excL hf hl) S'
end
end Mine
end

section
set_option maxHeartbeats 1000000
open PySem PySem.W PyProof.Rows PySem.Spec PySem.Calls PySem.SeqAt
set_option Elab.async false
set_option linter.unusedVariables false
set_option linter.unusedSimpArgs false
set_option maxRecDepth 100000
namespace Mine

/-! ## statements -/
inductive FV where
  | next | brk | cont
  | ret (v : V)
inductive RF (h : Heap) (ρ : List Addr) : Flow → FV → Prop
  | next : RF h ρ .next .next
  | brk : RF h ρ .brk .brk
  | cont : RF h ρ .cont .cont
  | ret {u v} : RV h ρ u v → RF h ρ (.ret u) (.ret v)
noncomputable abbrev Loc := List (Str × V)

noncomputable def OkS (C : Ctx) (env : Env) (s : Shared) (ρ : List Addr) (Q : FV → Loc → St → Prop) (P : Flow → Shared → Prop) : Prop :=
  ∀ f F loc' μ' ρ' h' tk, RF h' ρ' f F → Q F loc' μ' → Rl C h' ρ' μ' → Lc C env h' ρ' loc' → Ext (SE env) s.heap ρ h' ρ' → P f { s with heap := h', toks := tk }
noncomputable def Ex (prog : Program) (w : World) (C : Ctx) (env : Env) (t : Sem Flow) (X : Str → St → Prop) (Q : FV → Loc → St → Prop) (loc : Loc) (μ : St) : Prop :=
  ∀ A s ρ, Cx C A → Rl C s.heap ρ μ → Lc C env s.heap ρ loc → ∀ (P : Flow → Shared → Prop) (PE : Value → Shared → Prop), OkS C env s ρ Q P → ErP C (SE env) s ρ X PE → wpAny (model prog w) A t P PE s

section
variable {prog : Program} {w : World} {C : Ctx} {env : Env} {loc : Loc} {Q Q' : FV → Loc → St → Prop} {X X' : Str → St → Prop} {s : Shared} {ρ : List Addr} {P : Flow → Shared → Prop} {PE : Value → Shared → Prop} {μ : St}
theorem OkS.then {h₁ : Heap} {ρ₁ : List Addr} {tk₁ : Nat} (p : OkS C env s ρ Q P) (e : Ext (SE env) s.heap ρ h₁ ρ₁) : OkS C env { s with heap := h₁, toks := tk₁ } ρ₁ Q P :=
  fun f F loc' μ' ρ' h' tk r q l lc e' => p f F loc' μ' ρ' h' tk r q l lc (e.trans e')
theorem ErP.up {C : Ctx} {S : Addr → Prop} (pe : ErP C S s ρ X PE) : ErP C no s ρ X PE := fun e k μ' ρ' h' tk x l ex g => pe e k μ' ρ' h' tk x l ex g.up
theorem Ex.go {t : Sem Flow} (h : Ex prog w C env t X Q loc μ) {A : Around} (cx : Cx C A) (rl : Rl C s.heap ρ μ) (lc : Lc C env s.heap ρ loc) (pe : ErP C (SE env) s ρ X PE) (p : OkS C env s ρ Q P) : wpAny (model prog w) A t P PE s := h A s ρ cx rl lc P PE p pe
theorem Ex.mono {t : Sem Flow} (h : Ex prog w C env t X Q loc μ) (hQ : ∀ F l μ, Q F l μ → Q' F l μ) (hX : ∀ k μ, X k μ → X' k μ) : Ex prog w C env t X' Q' loc μ :=
  fun A s ρ cx rl lc P PE p pe => h A s ρ cx rl lc P PE (fun f F loc' μ' ρ' h' tk r q => p f F loc' μ' ρ' h' tk r (hQ _ _ _ q)) (pe.mono hX)
theorem ex_nil (h : Q .next loc μ) : Ex prog w C env (execs [] env) X Q loc μ :=
  fun A s ρ cx rl lc P PE p pe => wpAny_execs_nil (p .next .next loc μ ρ s.heap s.toks .next h rl lc .refl)
theorem ex_cons {st : Stmt} {rest : List Stmt} (h : Ex prog w C env (exec st env) X (fun F loc₁ μ₁ => match F with | .next => Ex prog w C env (execs rest env) X Q loc₁ μ₁ | F => Q F loc₁ μ₁) loc μ) :
    Ex prog w C env (execs (st :: rest) env) X Q loc μ := by
  intro A s ρ cx rl lc P PE p pe
  refine wpAny_execs_cons (h.go cx rl lc pe fun f F loc₁ μ₁ ρ₁ h₁ tk₁ r₁ q₁ l₁ lc₁ e₁ => ?_)
  cases r₁ with
  | next => exact Ex.go q₁ cx l₁ lc₁ (pe.then e₁) (p.then e₁)
  | brk => exact p _ _ _ _ _ h₁ tk₁ .brk q₁ l₁ lc₁ e₁
  | cont => exact p _ _ _ _ _ h₁ tk₁ .cont q₁ l₁ lc₁ e₁
  | ret r => exact p _ _ _ _ _ h₁ tk₁ (.ret r) q₁ l₁ lc₁ e₁
theorem ex_ret {e : Expr} {pos : Pos} (h : Ev prog w C RV env X (eval e env) loc (fun v μ₁ => Q (.ret v) loc μ₁) μ) : Ex prog w C env (exec (.Return (some e) pos) env) X Q loc μ := by
  intro A s ρ cx rl lc P PE p pe
  exact wpAny_Return_some (h.go cx rl lc pe.up fun u v μ₁ ρ₁ h₁ tk₁ r₁ q₁ l₁ e₁ => p _ _ _ _ _ h₁ tk₁ (.ret r₁) q₁ l₁ (lc.mono rl e₁.grow) e₁.up)
theorem ex_if {test : Expr} {body orelse : List Stmt} {pos : Pos} (h : Ev prog w C REq env X (isTrue test env (eval test env)) loc (fun b μ₁ => if b then Ex prog w C env (execs body env) X Q loc μ₁ else Ex prog w C env (execs orelse env) X Q loc μ₁) μ) :
    Ex prog w C env (exec (.If test body orelse pos) env) X Q loc μ := by
  intro A s ρ cx rl lc P PE p pe
  refine wpAny_If (h.go cx rl lc pe.up fun u v μ₁ ρ₁ h₁ tk₁ r₁ q₁ l₁ e₁ => ?_)
  cases r₁
  cases u
  · exact Ex.go q₁ cx l₁ (lc.mono rl e₁.grow) (pe.then e₁.up) (p.then e₁.up)
  · exact Ex.go q₁ cx l₁ (lc.mono rl e₁.grow) (pe.then e₁.up) (p.then e₁.up)
/-! names stored -/
noncomputable def put (x : Str) (v : V) : Loc → Loc
  | [] => [(x, v)]
  | (y, u) :: r => if y = x then (x, v) :: r else (y, u) :: put x v r
theorem put_keys {x : Str} {v : V} : ∀ {loc : Loc}, (loc.map (·.1)).Nodup → ((put x v loc).map (·.1)).Nodup ∧ ∀ y, y ∈ (put x v loc).map (·.1) → y = x ∨ y ∈ loc.map (·.1)
  | [], _ => by simp [put]
  | (y, u) :: r, h => by
    unfold put
    have h' := List.nodup_cons.mp (by simpa using h : (y :: r.map (·.1)).Nodup)
    by_cases e : y = x
    · rw [if_pos e]; subst e
      exact ⟨by simpa using h, fun z hz => .inr (by simpa using hz)⟩
    · rw [if_neg e]
      obtain ⟨i1, i2⟩ := put_keys (x := x) (v := v) h'.2
      refine ⟨?_, fun z hz => ?_⟩
      · rw [List.map_cons, List.nodup_cons]
        exact ⟨fun m => (i2 _ m).elim e h'.1, i1⟩
      · rw [List.map_cons, List.mem_cons] at hz
        rcases hz with rfl | hz
        · exact .inr (by simp)
        · exact (i2 _ hz).imp id fun m => by simp only [List.map_cons, List.mem_cons]; exact .inr m
theorem put_mem {x : Str} {v : V} : ∀ {loc : Loc}, (loc.map (·.1)).Nodup → ∀ p ∈ put x v loc, p = (x, v) ∨ (p ∈ loc ∧ p.1 ≠ x)
  | [], _, p, m => by simp [put] at m; exact .inl m
  | (y, u) :: r, h, p, m => by
    unfold put at m
    have h' := List.nodup_cons.mp (by simpa using h : (y :: r.map (·.1)).Nodup)
    by_cases e : y = x
    · rw [if_pos e] at m
      rcases List.mem_cons.mp m with rfl | m
      · exact .inl rfl
      · exact .inr ⟨.tail _ m, fun q => h'.1 (by rw [e, ← q]; exact List.mem_map_of_mem m)⟩
    · rw [if_neg e] at m
      rcases List.mem_cons.mp m with rfl | m
      · exact .inr ⟨.head _, e⟩
      · exact (put_mem h'.2 p m).imp id fun q => ⟨.tail _ q.1, q.2⟩
theorem store_own {A : Around} {E : Value → Shared → Prop} {x : Str} {u : Value} {v : V} {PU : Unit → Shared → Prop} (rl : Rl C s.heap ρ μ) (lc : Lc C env s.heap ρ loc) (hk : env.kindOf x = some .local) (r : RV s.heap ρ u v)
    (h : ∀ h' tk, Rl C h' ρ μ → Lc C env h' ρ (put x v loc) → Ext (fun a => a = env.locals) s.heap ρ h' ρ → PU () { s with heap := h', toks := tk }) : wpAny (model prog w) A (storeName env x u) PU E s := by
  obtain ⟨m, n⟩ := lc.ns
  have hp : (env.scope.kind == .class || (env.scope.kind == .module && env.locals != env.globals)) = false := by rw [lc.kind]; rfl
  refine wpAny_storeName_local hk n (fun h' n' sb => ?_) hp
  have nL : env.locals ∉ ρ := lc.nin rl _ (.inl rfl)
  have ex : Ext (fun a => a = env.locals) s.heap ρ h' ρ := by
    refine ⟨⟨[], by simp⟩, fun _ m => .inl m, fun b e => ?_, fun b o e _ q => (sb.2 b fun z => q z).trans e⟩
    by_cases q : b = env.locals
    · rw [q]; obtain ⟨o, _, _, ho, _⟩ := n'; rw [ho]; simp
    · rw [sb.2 b q]; exact e
  have bl : Bare (fun a => a = env.locals) s.heap := fun a o q => lc.bare a o (.inl q)
  have nd : ∀ b o, s.heap.get? b = some o → (∃ xs k, o.data = .seq xs k) → b ≠ env.locals := fun b o e q z => by
    refine nn fun nG => ?_
    obtain ⟨o', _, _, ho, hd, _⟩ := n
    refine nG ?_
    clear nG
    rw [z, ho] at e; cases e; obtain ⟨xs, k, q⟩ := q; rw [hd] at q; cases q
  refine h h' _ ⟨fun b o e => ?_, fun env' m' => ?_, rl.nd, rl.len, fun i a l e1 e2 => ?_, rl.new⟩ ⟨lc.kind, lc.glob, lc.bult, ⟨_, n'⟩, lc.hn, fun c hc => ?_, (put_keys lc.nd).1, fun p hp => ?_⟩ ex
  · have e' := rl.stay b o e
    by_cases q : b = env.locals
    · rw [q, lc.hn] at e; cases e
    · exact (sb.2 b q).trans e'
  · refine nn fun nG => ?_
    obtain ⟨h1, L, mm, h2, h3, h4⟩ := rl.frm env' m'
    refine nG ?_
    clear nG
    by_cases q : L = env.locals
    · exact ⟨h1, L, _, h2, h3, q ▸ n'⟩
    · exact ⟨h1, L, mm, h2, h3, h4.sameBut sb q⟩
  · refine nn fun nG => ?_
    obtain ⟨vs, ⟨k, ho⟩, rs⟩ := rl.lst i a l e1 e2
    refine nG ?_
    clear nG
    exact ⟨vs, ⟨k, (sb.2 a (nd a _ ho ⟨_, _, rfl⟩)).trans ho⟩, rs.mono ex.grow bl⟩
  · refine nn fun nG => ?_
    obtain ⟨v', o, ho, hd⟩ := lc.cel c hc
    refine nG ?_
    clear nG
    refine ⟨v', o, (sb.2 c.2 fun z => ?_).trans ho, hd⟩
    refine nn fun nG => ?_
    obtain ⟨o', _, _, ho', hd', _⟩ := n
    refine nG ?_
    clear nG
    rw [z, ho'] at ho; cases ho; rw [hd'] at hd; cases hd
  · rcases put_mem lc.nd p hp with rfl | ⟨hm, hne⟩
    · exact ⟨u, .inl ⟨hk, _, n', by simp⟩, r.mono ex.grow bl⟩
    · refine nn fun nG => ?_
      obtain ⟨v', hv', r'⟩ := lc.held p hm
      refine nG ?_
      clear nG
      refine ⟨v', ?_, r'.mono ex.grow bl⟩
      rcases hv' with ⟨k, m', n'', e⟩ | ⟨k, c, hc, o, ho, hd⟩
      · refine .inl ⟨k, _, n', ?_⟩
        show (if p.1 = x then some u else m p.1) = some v'
        rw [if_neg hne]
        refine nn fun nG => ?_
        obtain ⟨o1, es1, ep1, g1, g2, _, g4⟩ := n
        obtain ⟨o2, es2, ep2, k1, k2, _, k4⟩ := n''
        refine nG ?_
        clear nG
        rw [g1] at k1; cases k1; rw [g2] at k2; cases k2
        rw [← g4, k4, e]
      · refine .inr ⟨k, c, hc, o, (sb.2 c fun z => ?_).trans ho, hd⟩
        refine nn fun nG => ?_
        obtain ⟨o', _, _, ho', hd', _⟩ := n
        refine nG ?_
        clear nG
        rw [z, ho'] at ho; cases ho; rw [hd'] at hd; cases hd
theorem store_at {A : Around} {E : Value → Shared → Prop} {x : Str} {u : Value} {v : V} {PU : Unit → Shared → Prop} (rl : Rl C s.heap ρ μ) (lc : Lc C env s.heap ρ loc) (hk : env.kindOf x = some .local) (r : RV s.heap ρ u v)
    (h : ∀ h' tk, Rl C h' ρ μ → Lc C env h' ρ (put x v loc) → Ext (SE env) s.heap ρ h' ρ → PU () { s with heap := h', toks := tk }) : wpAny (model prog w) A (storeName env x u) PU E s :=
  store_own rl lc hk r fun h' tk l c e => h h' tk l c (e.weak fun _ q => .inl q)
end
end Mine
end

section
set_option maxHeartbeats 1000000
open PySem PySem.W PyProof.Rows PySem.Spec PySem.Calls PySem.SeqAt
set_option Elab.async false
set_option linter.unusedVariables false
set_option linter.unusedSimpArgs false
set_option maxRecDepth 100000
namespace Mine

/-! ## objects of W turned -/
noncomputable def Kp (W : Addr → Prop) (h h' : Heap) : Prop := ∀ b o, ¬ W b → h.get? b = some o → h'.get? b = some o
noncomputable def Fld (W : Addr → Prop) (h : Heap) : Prop := ∀ a, W a → ∃ o fs, h.get? a = some o ∧ o.data = .fields fs
section
variable {C : Ctx} {env : Env} {h h' : Heap} {ρ ρ' : List Addr} {loc : Loc} {W S : Addr → Prop} {μ : St}
theorem Fld.bare (f : Fld W h) : Bare W h := by
  intro a o wa ho xs n hd
  refine nn fun nG => ?_
  obtain ⟨o', fs, ho', hd'⟩ := f a wa
  refine nG ?_
  clear nG
  rw [ho] at ho'; cases ho'; rw [hd] at hd'; cases hd'
theorem Fld.frs (f : Fld W h) (R : Rl C h ρ μ) : ∀ env ∈ C.fs, ∀ L, env.frame = some L → ¬ W L := by
  intro env m L hL wL
  refine nn fun nG => ?_
  obtain ⟨_, L', mm, h2, _, o, es, ep, ho, hd, _⟩ := R.frm env m
  refine nG ?_
  clear nG
  rw [hL] at h2; cases h2
  refine nn fun nG => ?_
  obtain ⟨o', fs, ho', hd'⟩ := f L wL
  refine nG ?_
  clear nG
  rw [ho] at ho'; cases ho'; rw [hd] at hd'; cases hd'
theorem Ext.off {W : Addr → Prop} {h : Heap} {ρ : List Addr} {h' : Heap} {ρ' : List Addr} (x : Ext W h ρ h' ρ') (S : Addr → Prop) : Ext (fun a => W a ∨ S a) h ρ h' ρ' := x.weak fun _ q => .inl q
/-- what was new ahead is no matter -/
theorem Ext.drop {W S : Addr → Prop} {h : Heap} {ρ : List Addr} {h' : Heap} {ρ' : List Addr} (x : Ext (fun a => W a ∨ S a) h ρ h' ρ') (n : ∀ a, W a → h.get? a = none) : Ext S h ρ h' ρ' :=
  ⟨x.pre, x.fresh, x.live, fun b o e m q => x.keep b o e m fun z => z.elim (fun z => by rw [n b z] at e; cases e) q⟩
theorem Grow.drop {W S : Addr → Prop} {h : Heap} {ρ : List Addr} {h' : Heap} {ρ' : List Addr} (x : Grow (fun a => W a ∨ S a) h ρ h' ρ') (n : ∀ a, W a → h.get? a = none) : Grow S h ρ h' ρ' :=
  ⟨x.pre, x.fresh, x.live, fun b o e m q => x.keep b o e m fun z => z.elim (fun z => by rw [n b z] at e; cases e) q, fun b o e m q => x.seq b o e m fun z => z.elim (fun z => by rw [n b z] at e; cases e) q, fun b o e m q => x.tab b o e m fun z => z.elim (fun z => by rw [n b z] at e; cases e) q⟩
mutual
theorem RV.kp (k : Kp W h h') (b : Bare W h) : ∀ {v : Value} {d : V}, RV h ρ v d → RV h' ρ v d
  | _, _, .none => .none
  | _, _, .bool b => .bool b
  | _, _, .int i t => .int i t
  | _, _, .str i t => .str i t
  | _, _, .tup ⟨m, ho⟩ n r => .tup ⟨m, k _ _ (fun q => b _ _ q ho _ _ rfl) ho⟩ n (RVs.kp k b r)
  | _, _, .lst e => .lst e
  | _, _, .fro ⟨m, ho⟩ n r => .fro ⟨m, k _ _ (fun q => b _ _ q ho _ _ rfl) ho⟩ n (RVs.kp k b r)
  | _, _, .scr ⟨o, ho, hc, m, hd⟩ n r => .scr ⟨o, k _ _ (fun q => b _ _ q ho _ _ hd) ho, hc, m, hd⟩ n (RVs.kp k b r)
theorem RVs.kp (k : Kp W h h') (b : Bare W h) : ∀ {vs : List Value} {ds : List V}, RVs h ρ vs ds → RVs h' ρ vs ds
  | _, _, .nil => .nil
  | _, _, .cons r rs => .cons (RV.kp k b r) (RVs.kp k b rs)
end
theorem Kp.ns (k : Kp W h h') {L : Addr} {m : Str → Option Value} (n : h.Ns L m) (hs : ¬ W L) : h'.Ns L m := by
  refine nn fun nG => ?_
  obtain ⟨o, es, ep, ho, r⟩ := n
  refine nG ?_
  clear nG
  exact ⟨o, es, ep, k L o hs ho, r⟩
theorem Kp.cell (k : Kp W h h') {c : Addr} {v : Option Value} (n : h.IsCell c v) (hs : ¬ W c) : h'.IsCell c v := by
  refine nn fun nG => ?_
  obtain ⟨o, ho, hd⟩ := n
  refine nG ?_
  clear nG
  exact ⟨o, k c o hs ho, hd⟩
theorem Lc.kp (L : Lc C env h ρ loc) (k : Kp W h h') (b : Bare W h) (ns : ∀ a, W a → ¬ SE env a) : Lc C env h' ρ loc := by
  refine ⟨L.kind, L.glob, L.bult, ?_, L.hn, ?_, L.nd, ?_⟩
  · obtain ⟨m, n⟩ := L.ns
    exact ⟨m, k.ns n (fun q => ns _ q (.inl rfl))⟩
  · intro c hc
    obtain ⟨v, n⟩ := L.cel c hc
    exact ⟨v, k.cell n (fun q => ns _ q (.inr ⟨c, hc, rfl⟩))⟩
  · intro p hp
    refine nn fun nG => ?_
    obtain ⟨v, hv, r⟩ := L.held p hp
    refine nG ?_
    clear nG
    refine ⟨v, ?_, r.kp k b⟩
    rcases hv with ⟨q, m, n, e⟩ | ⟨q, c, hc, i⟩
    · exact .inl ⟨q, m, k.ns n (fun q => ns _ q (.inl rfl)), e⟩
    · refine nn fun nG => ?_
      obtain ⟨z, hq, rfl⟩ := mem_cells hc
      refine nG ?_
      clear nG
      exact .inr ⟨q, z.2, hc, k.cell i (fun q => ns _ q (.inr ⟨z, hq, rfl⟩))⟩
theorem Rl.kp (R : Rl C h ρ μ) (k : Kp W h h') (b : Bare W h) (hW : ∀ a, W a → C.h₀.get? a = none) (hfr : ∀ env ∈ C.fs, ∀ L, env.frame = some L → ¬ W L) : Rl C h' ρ μ := by
  refine ⟨fun b o e => k b o (fun q => by rw [hW b q] at e; cases e) (R.stay b o e), fun env m => ?_, R.nd, R.len, fun i a l e1 e2 => ?_, R.new⟩
  · refine nn fun nG => ?_
    obtain ⟨h1, L, mm, h2, h3, h4⟩ := R.frm env m
    refine nG ?_
    clear nG
    exact ⟨h1, L, mm, h2, h3, k.ns h4 (hfr env m L h2)⟩
  · refine nn fun nG => ?_
    obtain ⟨vs, ⟨n, ho⟩, q⟩ := R.lst i a l e1 e2
    refine nG ?_
    clear nG
    exact ⟨vs, ⟨n, k a _ (fun q => b _ _ q ho _ _ rfl) ho⟩, q.kp k b⟩
theorem Rl.fld (R : Rl C h ρ μ) (k : Kp W h h') (f : Fld W h) (hW : ∀ a, W a → C.h₀.get? a = none) : Rl C h' ρ μ := R.kp k f.bare hW (f.frs R)
theorem Kp.ext (k : Kp W h h') (lv : ∀ b, W b → h'.get? b ≠ none) : Ext W h ρ h' ρ := by
  refine ⟨⟨[], by simp⟩, fun _ m => .inl m, fun b e => ?_, fun b o e _ q => k b o q e⟩
  by_cases q : W b
  · exact lv b q
  · cases e' : h.get? b with
    | none => exact absurd e' e
    | some o => rw [k b o q e']; simp
theorem Ext.over {h₀ : Heap} (e : Ext (fun a => W a ∨ S a) h₀ ρ h ρ') (k : Kp W h h') (wn : ∀ a, W a → h₀.get? a = none) : Ext S h₀ ρ h' ρ' := by
  have e' := e.drop wn
  refine ⟨e.pre, e.fresh, fun b hb => ?_, fun b o hb hn hs => k b o (fun q => by rw [wn b q] at hb; cases hb) (e'.keep b o hb hn hs)⟩
  cases q : h.get? b with
  | none => exact absurd q (e.live b hb)
  | some o => rw [k b o (fun z => hb (wn b z)) q]; simp
theorem sb_kp {a : Addr} (s : Heap.SameBut a h h') : Kp (· = a) h h' := fun b o q e => (s.2 b q).trans e
theorem eb_kp {a : Addr} (s : Heap.ExtBut a h h') : Kp (· = a) h h' := fun b o q e => s b o q e
theorem fresh_h₀ (R : Rl C h ρ μ) {a : Addr} (e : h.get? a = none) : C.h₀.get? a = none := by
  cases q : C.h₀.get? a with
  | none => rfl
  | some o => rw [R.stay _ _ q] at e; cases e
theorem push_live {o : Obj} (hf : o.isFreed = false := by rfl) : (h.push o).get? h.objs.size ≠ none := by rw [Heap.get?_push_size _ hf]; simp

end

section
variable {prog : Program} {w : World} {C : Ctx} {env : Env} {loc : Loc} {Q Q' : FV → Loc → St → Prop} {X X' : Str → St → Prop} {s : Shared} {ρ : List Addr} {P : Flow → Shared → Prop} {PE : Value → Shared → Prop} {μ : St}

theorem keeps_eb {h h' : Heap} (x : Heap.ExtBut h.objs.size h h') : ∀ b o, h.get? b = some o → h'.get? b = some o :=
  fun b o e => x b o (Nat.ne_of_lt (Heap.lt_size e)) e

/-- names let go -/
noncomputable def Sub (l' l : Loc) : Prop := (l'.map (·.1)).Nodup ∧ ∀ p ∈ l', p ∈ l
theorem Lc.sub {h : Heap} {ρ : List Addr} {loc' : Loc} (L : Lc C env h ρ loc) (sb : Sub loc' loc) : Lc C env h ρ loc' :=
  ⟨L.kind, L.glob, L.bult, L.ns, L.hn, L.cel, sb.1, fun p m => L.held p (sb.2 p m)⟩
theorem Sub.nil {l : Loc} : ∀ p ∈ ([] : Loc), p ∈ l := fun _ m => nomatch m
theorem Sub.cons {a : Str × V} {l' l : Loc} (h : a ∈ l) (r : ∀ p ∈ l', p ∈ l) : ∀ p ∈ a :: l', p ∈ l := fun p m => (List.mem_cons.mp m).elim (fun e => e ▸ h) (r p)
theorem put_new {x : Str} {v : V} : ∀ {l : Loc}, (x, v) ∈ put x v l
  | [] => .head _
  | (y, u) :: r => by
    unfold put; split
    · exact .head _
    · exact .tail _ put_new
theorem put_old {x : Str} {v : V} {p : Str × V} : ∀ {l : Loc}, p ∈ l → p.1 ≠ x → p ∈ put x v l
  | (z, t) :: r, m, hne => by
    unfold put
    rcases List.mem_cons.mp m with e | m'
    · subst e; rw [if_neg hne]; exact .head _
    · split
      · exact .tail _ m'
      · exact .tail _ (put_old m' hne)
theorem ex_sub {t : Sem Flow} {loc' : Loc} (h : Ex prog w C env t X Q loc' μ) (sb : Sub loc' loc) : Ex prog w C env t X Q loc μ :=
  fun A s ρ cx rl lc P PE p pe => h A s ρ cx rl (lc.sub sb) P PE p pe

theorem ex_assign {x : Str} {pos' : Pos} {value : Expr} {pos : Pos} (h : Ev prog w C RV env X (eval value env) loc (fun v μ₁ => Q .next (put x v loc) μ₁) μ)
    (hk : env.kindOf x = some .local) (hs : swapsWith value (some (.Name x pos')) pos.line env = pure false) :
    Ex prog w C env (exec (.Assign [.Name x pos'] value pos) env) X Q loc μ := by
  intro A s ρ cx rl lc P PE p pe
  with_reducible refine wpAny_Assign_Name ?_ hs
  refine h.go cx rl lc pe.up fun u v μ₁ ρ₁ h₁ tk₁ r₁ q₁ l₁ e₁ => ?_
  exact store_at (s := ⟨h₁, _, _, _, _⟩) l₁ (lc.mono rl e₁.grow) hk r₁ fun h' tk l₂ lc₂ e₂ => p _ _ _ _ _ h' tk .next q₁ l₂ lc₂ (e₁.up.trans e₂)
theorem load_at {A : Around} {E : Value → Shared → Prop} {x : Str} {v : V} {PU : Value → Shared → Prop} (lc : Lc C env s.heap ρ loc) (m : (x, v) ∈ loc)
    (h : ∀ u, RV s.heap ρ u v → PU u s) : wpAny (model prog w) A (loadName env x) PU E s := by
  refine nn fun nG => ?_
  obtain ⟨u, hu, r⟩ := lc.held _ m
  refine nG ?_
  clear nG
  have e := h u r
  rcases hu with ⟨k, mm, n, e'⟩ | ⟨k, c, hc, i⟩
  · exact wpAny_loadName_local lc.kind k n e' e
  · rcases k with k | ⟨k, k'⟩
    · exact wpAny_loadName_cell lc.kind k hc i e
    · exact wpAny_loadName_free lc.kind k hc i e k'
theorem ex_aug {x : Str} {a : V} {pos' : Pos} {op : Operator} {value : Expr} {pos : Pos} (m : (x, a) ∈ loc)
    (h : Ev prog w C RV env X (eval value env) loc (fun v μ₁ => Op2 prog w C RV (inplaceOp op) X (fun r μ₂ => Q .next (put x r loc) μ₂) a v μ₁) μ)
    (hk : env.kindOf x = some .local) :
    Ex prog w C env (exec (.AugAssign (.Name x pos') op value pos) env) X Q loc μ := by
  intro A s ρ cx rl lc P PE p pe
  with_reducible refine wpAny_AugAssign_Name ?_
  refine load_at lc m fun o ro => ?_
  refine h.go cx rl lc pe.up fun u v μ₁ ρ₁ h₁ tk₁ r₁ q₁ l₁ e₁ => ?_
  have lc₁ := lc.mono rl e₁.grow
  refine q₁ A _ ρ₁ o u cx l₁ (ro.mono e₁.grow bare_no) r₁ _ _ (fun u₂ v₂ μ₂ ρ₂ h₂ tk₂ r₂ q₂ l₂ e₂ => ?_) (pe.then e₁.up).up
  exact store_at (s := ⟨h₂, _, _, _, _⟩) l₂ (lc₁.mono l₁ e₂.grow) hk r₂ fun h' tk l₃ lc₃ e₃ => p _ _ _ _ _ h' tk .next q₂ l₃ lc₃ ((e₁.up.trans e₂.up).trans e₃)
theorem ex_expr {e : Expr} {pos : Pos} (h : Ev prog w C RV env X (eval e env) loc (fun v μ₁ => v = .none ∧ Q .next loc μ₁) μ)
    (hi : interactive env = false) (hs : swapsWith e none pos.line env = pure false) : Ex prog w C env (exec (.Expr e pos) env) X Q loc μ := by
  intro A s ρ cx rl lc P PE p pe
  with_reducible refine wpAny_Expr ?_ hi hs
  refine h.go cx rl lc pe.up fun u v μ₁ ρ₁ h₁ tk₁ r₁ q₁ l₁ e₁ => ?_
  obtain ⟨rfl, q⟩ := q₁
  cases r₁
  exact p _ _ _ _ _ h₁ tk₁ .next q l₁ (lc.mono rl e₁.grow) e₁.up

/-! targets -/
noncomputable def AsT (prog : Program) (w : World) (C : Ctx) (env : Env) (target : Expr) (v : V) (loc loc' : Loc) : Prop :=
  ∀ (A : Around) (s : Shared) (ρ : List Addr) (μ : St) (u : Value) (PU : Unit → Shared → Prop) (E : Value → Shared → Prop), Cx C A → Rl C s.heap ρ μ → Lc C env s.heap ρ loc → RV s.heap ρ u v →
    (∀ h' tk, Rl C h' ρ μ → Lc C env h' ρ loc' → Ext (SE env) s.heap ρ h' ρ → PU () { s with heap := h', toks := tk }) → wpAny (model prog w) A (assign target env u) PU E s
theorem ast_name {x : Str} {px : Pos} {v : V} (hk : env.kindOf x = some .local) : AsT prog w C env (.Name x px) v loc (put x v loc) := by
  intro A s ρ μ u PU E cx rl lc r h
  with_reducible refine PyProof.Rows.assign_Name ?_
  exact store_at rl lc hk r h
theorem ast_two {x y : Str} {px py : Pos} {k} {tpos : Pos} {a b : V} (hx : env.kindOf x = some .local) (hy : env.kindOf y = some .local) : AsT prog w C env (.Tuple [.Name x px, .Name y py] k tpos) (.tup [a, b]) loc (put y b (put x a loc)) := by
  intro A s ρ μ u PU E cx rl lc r h
  refine nn fun nG => ?_
  obtain ⟨t, us, rfl, ht, hn, rs⟩ := r.tupInv
  refine nG ?_
  clear nG
  obtain ⟨u1, u2, rfl, r1, r2⟩ : ∃ u v, us = [u, v] ∧ RV s.heap ρ u a ∧ RV s.heap ρ v b := by
    cases rs with | cons r q => cases q with | cons r' q => cases q; exact ⟨_, _, rfl, r, r'⟩
  refine assign_Tuple_tuple cx.hand ht.tup rfl rfl fun h' eb => ?_
  have k := keeps_eb eb
  have x := ext_of (ρ := ρ) k
  have lc' := lc.mono rl x.grow
  show wpAny _ _ (assignInOrder [assign (.Name _ _) env, assign (.Name _ _) env] [u1, u2]) _ _ _
  with_reducible refine PyProof.Rows.assignInOrder_cons (PyProof.Rows.assign_Name ?_)
  refine store_at (s := ⟨h', _, _, _, _⟩) (rl.keeps k) lc' hx (r1.mono x.grow bare_no) fun h₁ tk₁ l₁ lc₁ e₁ => ?_
  with_reducible refine PyProof.Rows.assignInOrder_cons (PyProof.Rows.assign_Name ?_)
  refine store_at (s := ⟨h₁, _, _, _, _⟩) l₁ lc₁ hy ((r2.mono x.grow bare_no).mono e₁.grow lc'.bare) fun h₂ tk₂ l₂ lc₂ e₂ => ?_
  with_reducible refine PyProof.Rows.assignInOrder_nil ?_
  exact h h₂ _ l₂ lc₂ ((x.up.trans e₁).trans e₂)
theorem ex_asgT {elts : List Expr} {k} {tpos : Pos} {value : Expr} {pos : Pos}
    (h : Ev prog w C RV env X (eval value env) loc (fun v μ₁ => ∃ loc', AsT prog w C env (.Tuple elts k tpos) v loc loc' ∧ Q .next loc' μ₁) μ)
    (hs : swapsWithSole [.Tuple elts k tpos] value pos.line env = pure false) (hw : swappedStores [.Tuple elts k tpos] value env = pure none) :
    Ex prog w C env (exec (.Assign [.Tuple elts k tpos] value pos) env) X Q loc μ := by
  intro A s ρ cx rl lc P PE p pe
  with_reducible refine PyProof.Rows.Assign_Tuple ?_ hs hw
  refine h.go cx rl lc pe.up fun u v μ₁ ρ₁ h₁ tk₁ r₁ q₁ l₁ e₁ => ?_
  refine nn fun nG => ?_
  obtain ⟨loc', ha, q⟩ := q₁
  refine nG ?_
  clear nG
  exact ha A ⟨h₁, _, _, _, _⟩ ρ₁ μ₁ u _ _ cx l₁ (lc.mono rl e₁.grow) r₁ fun h' tk l₂ lc₂ e₂ => p _ _ _ _ _ h' tk .next q l₂ lc₂ (e₁.up.trans e₂)
theorem ex_asg2 {x y : Str} {px py : Pos} {k} {tpos : Pos} {value : Expr} {pos : Pos}
    (h : Ev prog w C RV env X (eval value env) loc (fun v μ₁ => ∃ a b, v = .tup [a, b] ∧ Q .next (put y b (put x a loc)) μ₁) μ) (hx : env.kindOf x = some .local) (hy : env.kindOf y = some .local)
    (hs : swapsWithSole [.Tuple [.Name x px, .Name y py] k tpos] value pos.line env = pure false) (hw : swappedStores [.Tuple [.Name x px, .Name y py] k tpos] value env = pure none) :
    Ex prog w C env (exec (.Assign [.Tuple [.Name x px, .Name y py] k tpos] value pos) env) X Q loc μ :=
  ex_asgT (h.mono (fun v μ₁ ⟨a, b, e, q⟩ => ⟨_, e ▸ ast_two hx hy, q⟩) fun _ _ x => x) hs hw
theorem ex_asg2s {x y : Str} {px py : Pos} {k} {tpos : Pos} {value : Expr} {pos : Pos}
    (h : Ev prog w C RV env X (eval value env) loc (fun v μ₁ => ∃ a b, v = .tup [a, b] ∧ Q .next (put x a (put y b loc)) μ₁) μ) (hx : env.kindOf x = some .local) (hy : env.kindOf y = some .local)
    (hs : swapsWithSole [.Tuple [.Name x px, .Name y py] k tpos] value pos.line env = pure false) (hw : swappedStores [.Tuple [.Name x px, .Name y py] k tpos] value env = pure (some [x, y])) :
    Ex prog w C env (exec (.Assign [.Tuple [.Name x px, .Name y py] k tpos] value pos) env) X Q loc μ := by
  intro A s ρ cx rl lc P PE p pe
  with_reducible refine PyProof.Rows.Assign_Tuple_swapped ?_ hs hw
  refine h.go cx rl lc pe.up fun u v μ₁ ρ₁ h₁ tk₁ r₁ q₁ l₁ e₁ => ?_
  refine nn fun nG => ?_
  obtain ⟨a, b, rfl, q⟩ := q₁
  obtain ⟨t, us, rfl, ht, hn, rs⟩ := r₁.tupInv
  refine nG ?_
  clear nG
  obtain ⟨u1, u2, rfl, r1, r2⟩ : ∃ u v, us = [u, v] ∧ RV h₁ ρ₁ u a ∧ RV h₁ ρ₁ v b := by
    cases rs with | cons r q => cases q with | cons r' q => cases q; exact ⟨_, _, rfl, r, r'⟩
  refine unpackItems_tuple (items := #[u1, u2]) (s := ⟨h₁, _, _, _, _⟩) cx.hand ht.tup fun h' eb => ?_
  have kk := keeps_eb eb
  have xx := ext_of (ρ := ρ₁) kk
  have lc' := (lc.mono rl e₁.grow).mono l₁ xx.grow
  show wpAny _ _ (assignInOrder [bindName env y, bindName env x] [u2, u1]) _ _ _
  with_reducible refine PyProof.Rows.assignInOrder_cons (bindName_ ?_)
  refine store_at (s := ⟨h', _, _, _, _⟩) (l₁.keeps kk) lc' hy (r2.mono xx.grow bare_no) fun h₂ tk₂ l₂ lc₂ e₂ => ?_
  with_reducible refine PyProof.Rows.assignInOrder_cons (bindName_ ?_)
  refine store_at (s := ⟨h₂, _, _, _, _⟩) l₂ lc₂ hx ((r1.mono xx.grow bare_no).mono e₂.grow lc'.bare) fun h₃ tk₃ l₃ lc₃ e₃ => ?_
  with_reducible refine PyProof.Rows.assignInOrder_nil ?_
  exact p _ _ _ _ _ h₃ _ .next q l₃ lc₃ (((e₁.up.trans xx.up).trans e₂).trans e₃)
theorem ex_set {o i : Expr} {pos' : Pos} {value : Expr} {pos : Pos}
    (h : Ev prog w C RV env X (eval value env) loc (fun v μ₁ => Ev prog w C RV env X (eval o env) loc (fun a μ₂ => Ev prog w C RV env X (eval i env) loc (fun b μ₃ =>
      Op3 prog w C (fun (_ : Heap) (_ : List Addr) (_ : Unit) (_ : Unit) => True) setItem X (fun _ μ₄ => Q .next loc μ₄) a b v μ₃) μ₂) μ₁) μ)
    (hs : swapsWith value (some (.Subscript o i pos')) pos.line env = pure false) :
    Ex prog w C env (exec (.Assign [.Subscript o i pos'] value pos) env) X Q loc μ := by
  intro A s ρ cx rl lc P PE p pe
  with_reducible refine wpAny_Assign_Subscript ?_ hs
  refine h.go cx rl lc pe.up fun u v μ₁ ρ₁ h₁ tk₁ r₁ q₁ l₁ e₁ => ?_
  have lc₁ := lc.mono rl e₁.grow
  refine q₁.go cx l₁ lc₁ (pe.then e₁.up).up fun u₂ v₂ μ₂ ρ₂ h₂ tk₂ r₂ q₂ l₂ e₂ => ?_
  have lc₂ := lc₁.mono l₁ e₂.grow
  refine q₂.go cx l₂ lc₂ ((pe.then e₁.up).then e₂.up).up fun u₃ v₃ μ₃ ρ₃ h₃ tk₃ r₃ q₃ l₃ e₃ => ?_
  have lc₃ := lc₂.mono l₂ e₃.grow
  refine q₃ A _ ρ₃ u₂ u₃ u cx l₃ (r₂.mono e₃.grow bare_no) r₃ ((r₁.mono e₂.grow bare_no).mono e₃.grow bare_no) _ _ (fun u₄ v₄ μ₄ ρ₄ h₄ tk₄ r₄ q₄ l₄ e₄ => ?_) (((pe.then e₁.up).then e₂.up).then e₃.up).up
  exact p _ _ _ _ _ h₄ tk₄ .next q₄ l₄ (lc₃.mono l₃ e₄.grow) (((e₁.up.trans e₂.up).trans e₃.up).trans e₄.up)

/-! loops -/
theorem loopErr {A : Around} {S : Addr → Prop} {outer : List Env} {L : Addr} (cx : Cx C A) (hf : C.fs = env :: outer) (hl : env.frame = some L) (pe : ErP C S s ρ X PE) :
    ErP C S s ρ X (notedBy (model prog w) A env fun e s' => cameBackBy (model prog w) A env PE e s') := by
  intro e k μ' ρ' h' tk x l ex g
  refine noted_exc (s := ⟨h', _, _, _, _⟩) cx l hf hl ex fun h₁ x₁ S₁ => ?_
  refine camebk_exc (s := ⟨h₁, _, _, _, _⟩) hf hl x₁ fun h₂ x₂ S₂ => ?_
  exact pe e k μ' ρ' h₂ tk x (S₂.rl (S₁.rl l)) x₂ (g.trans (S₁.trans S₂).grow.up)
theorem ex_while {test : Expr} {body orelse : List Stmt} {pos : Pos} {outer : List Env} {L : Addr} (I : Nat → Loc → St → Prop) (n : Nat) (h0 : I n loc μ)
    (turn : ∀ n loc μ, I n loc μ → Ev prog w C REq env X (isTrue test env (eval test env)) loc (fun b μ₁ =>
      if b then Ex prog w C env (execs body env) X (fun F loc₂ μ₂ => match F with
        | .next => ∃ m loc₃, m < n ∧ Sub loc₃ loc₂ ∧ I m loc₃ μ₂
        | .cont => ∃ m loc₃, m < n ∧ Sub loc₃ loc₂ ∧ I m loc₃ μ₂
        | .brk => Q .next loc₂ μ₂ | .ret v => Q (.ret v) loc₂ μ₂) loc μ₁
      else Ex prog w C env (execs orelse env) X Q loc μ₁) μ)
    (hf : C.fs = env :: outer) (hl : env.frame = some L) : Ex prog w C env (exec (.While test body orelse pos) env) X Q loc μ := by
  intro A s ρ cx rl lc P PE p pe
  with_reducible refine wpAny_While ?_
  refine codeAny_whileLoop (fun n s' => ∃ loc' μ' ρ' h' tk', s' = { s with heap := h', toks := tk' } ∧ I n loc' μ' ∧ Rl C h' ρ' μ' ∧ Lc C env h' ρ' loc' ∧ Ext (SE env) s.heap ρ h' ρ') ?_ n ⟨loc, μ, ρ, s.heap, s.toks, rfl, h0, rl, lc, .refl⟩
  intro n _ hz1
  refine nn fun nG => ?_
  obtain ⟨loc', μ', ρ', h', tk', rfl, hI, rl', lc', e'⟩ := hz1
  refine nG ?_
  clear nG
  have pe' := pe.then (tk₁ := tk') e'
  have pn := loopErr (prog := prog) (w := w) cx hf hl pe'
  refine (turn n loc' μ' hI).go cx rl' lc' pn.up fun b b' μ₁ ρ₁ h₁ tk₁ r₁ q₁ l₁ e₁ => ?_
  cases r₁
  have lc₁ := lc'.mono rl' e₁.grow
  have pn₁ := pn.then (tk₁ := tk₁) e₁.up
  have p₁ := (p.then (tk₁ := tk') e').then (tk₁ := tk₁) e₁.up
  cases b
  · refine Ex.go (show Ex prog w C env (execs orelse env) X Q loc' μ₁ from q₁) cx l₁ lc₁ pn₁ ?_
    intro f F loc₂ μ₂ ρ₂ h₂ tk₂ r₂ q₂ l₂ lc₂ e₂
    exact p₁ f F loc₂ μ₂ ρ₂ h₂ tk₂ r₂ q₂ l₂ lc₂ e₂
  · refine Ex.go q₁ cx l₁ lc₁ pn₁ ?_
    intro f F loc₂ μ₂ ρ₂ h₂ tk₂ r₂ q₂ l₂ lc₂ e₂
    cases r₂ with
    | next => obtain ⟨m, loc₃, hm, sb, hI'⟩ := q₂; exact ⟨m, hm, loc₃, μ₂, ρ₂, h₂, tk₂, rfl, hI', l₂, lc₂.sub sb, (e'.trans e₁.up).trans e₂⟩
    | cont => obtain ⟨m, loc₃, hm, sb, hI'⟩ := q₂; exact ⟨m, hm, loc₃, μ₂, ρ₂, h₂, tk₂, rfl, hI', l₂, lc₂.sub sb, (e'.trans e₁.up).trans e₂⟩
    | brk => exact p₁ _ _ _ _ _ h₂ tk₂ .next q₂ l₂ lc₂ e₂
    | ret r => exact p₁ _ _ _ _ _ h₂ tk₂ (.ret r) q₂ l₂ lc₂ e₂

/-! iterators -/
structure Itr (prog : Program) (w : World) (C : Ctx) (target : Expr) (it : Value) (l : List V) (M : St → Prop) (W : Addr → Prop) (J : Nat → Heap → List Addr → Prop) (K : Nat → Value → Heap → List Addr → Prop) : Prop where
  keep : ∀ {k h ρ h' ρ' S}, J k h ρ → Ext S h ρ h' ρ' → (∀ a, W a → ¬ S a) → Bare S h → J k h' ρ'
  live : ∀ {k h ρ a}, J k h ρ → W a → a ∉ ρ ∧ ∃ o fs, h.get? a = some o ∧ o.data = .fields fs
  step : ∀ {k v A s ρ μ} {P : Option Value → Shared → Prop} {E : Value → Shared → Prop}, l[k]? = some v → Cx C A → Rl C s.heap ρ μ → M μ → J k s.heap ρ →
    (∀ u h' tk, RV h' ρ u v → K k u h' ρ → Rl C h' ρ μ → Ext W s.heap ρ h' ρ → P (some u) { s with heap := h', toks := tk }) → wpAny (model prog w) A (pyNext it) P E s
  own : ∀ {k u v A s ρ μ} {P : Unit → Shared → Prop} {E : Value → Shared → Prop}, Cx C A → Rl C s.heap ρ μ → RV s.heap ρ u v → K k u s.heap ρ →
    (∀ h' tk, RV h' ρ u v → J (k + 1) h' ρ → Rl C h' ρ μ → Ext W s.heap ρ h' ρ → P () { s with heap := h', toks := tk }) → wpAny (model prog w) A (letOwnedTupleGo target it u) P E s
  stop : ∀ {k A s ρ μ} {P : Option Value → Shared → Prop} {E : Value → Shared → Prop}, l[k]? = none → Cx C A → Rl C s.heap ρ μ → M μ → J k s.heap ρ →
    (∀ h' tk, Rl C h' ρ μ → Kp W s.heap h' → P none { s with heap := h', toks := tk }) → wpAny (model prog w) A (pyNext it) P E s
  named : (∃ x p, target = .Name x p) → ∀ {k u h ρ}, K k u h ρ → J (k + 1) h ρ
  self : ∀ {A s ρ} {P : Value → Shared → Prop} {E : Value → Shared → Prop}, J 0 s.heap ρ → P it s → wpAny (model prog w) A (pyIter it) P E s
theorem Itr.bare {target it l M W J K} (I : Itr prog w C target it l M W J K) {k h ρ} (j : J k h ρ) : Bare W h := by
  intro a o wa ho xs n hd
  refine nn fun nG => ?_
  obtain ⟨_, o', fs, ho', hd'⟩ := I.live j wa
  refine nG ?_
  clear nG
  rw [ho] at ho'; cases ho'; rw [hd] at hd'; cases hd'
theorem Lc.ext {W : Addr → Prop} {h h' : Heap} {ρ ρ' : List Addr} (L : Lc C env h ρ loc) (R : Rl C h ρ μ) (x : Ext W h ρ h' ρ') (b : Bare W h) (ns : ∀ a, W a → ¬ SE env a) : Lc C env h' ρ' loc := by
  refine ⟨L.kind, L.glob, L.bult, ?_, L.hn, ?_, L.nd, ?_⟩
  · obtain ⟨m, n⟩ := L.ns
    exact ⟨m, x.grow.ns n (fun q => ns _ q (.inl rfl)) (L.nin R _ (.inl rfl))⟩
  · intro c hc
    obtain ⟨v, n⟩ := L.cel c hc
    exact ⟨v, x.grow.cell n (fun q => ns _ q (.inr ⟨c, hc, rfl⟩)) (L.nin R _ (.inr ⟨c, hc, rfl⟩))⟩
  · intro p hp
    refine nn fun nG => ?_
    obtain ⟨v, hv, r⟩ := L.held p hp
    refine nG ?_
    clear nG
    refine ⟨v, ?_, RV.mono x.grow b r⟩
    rcases hv with ⟨k, m, n, e⟩ | ⟨k, c, hc, i⟩
    · exact .inl ⟨k, m, x.grow.ns n (fun q => ns _ q (.inl rfl)) (L.nin R _ (.inl rfl)), e⟩
    · refine nn fun nG => ?_
      obtain ⟨q, hq, rfl⟩ := mem_cells hc
      refine nG ?_
      clear nG
      exact .inr ⟨k, q.2, hc, x.grow.cell i (fun z => ns _ z (.inr ⟨q, hq, rfl⟩)) (L.nin R _ (.inr ⟨q, hq, rfl⟩))⟩
theorem Lc.live {h : Heap} {ρ : List Addr} (L : Lc C env h ρ loc) {a : Addr} (m : SE env a) : h.get? a ≠ none := by
  rcases m with rfl | ⟨c, hc, rfl⟩
  · obtain ⟨m, o, _, _, ho, _⟩ := L.ns; rw [ho]; simp
  · obtain ⟨v, o, ho, _⟩ := L.cel c hc; rw [ho]; simp
/-- an iterable's value, its iterator -/
noncomputable def EvI (prog : Program) (w : World) (C : Ctx) (env : Env) (target iter : Expr) (loc : Loc) (μ : St) (QI : List V → (St → Prop) → St → Prop) (X : Str → St → Prop) : Prop :=
  ∀ A s ρ, Cx C A → Rl C s.heap ρ μ → Lc C env s.heap ρ loc → ∀ (P : Value → Shared → Prop) (PE : Value → Shared → Prop),
    (∀ it l M W J K μ' ρ' h' tk, Itr prog w C target it l M W J K → QI l M μ' → J 0 h' ρ' → Rl C h' ρ' μ' → Ext no s.heap ρ h' ρ' → (∀ a, W a → s.heap.get? a = none) → P it { s with heap := h', toks := tk }) →
    ErP C no s ρ X PE → wpAny (model prog w) A (eval iter env) (fun x s₁ => wpAny (model prog w) A (pyIter x) P PE s₁) PE s
theorem ex_for {target iter : Expr} {body orelse : List Stmt} {pos : Pos} {outer : List Env} {L : Addr}
    (h : EvI prog w C env target iter loc μ (fun l M μ₁ => ∃ I : Nat → Loc → St → Prop, I 0 loc μ₁ ∧ (∀ k loc μ, I k loc μ → M μ) ∧
      (∀ k v loc' μ', l[k]? = some v → I k loc' μ' → ∃ loc'', AsT prog w C env target v loc' loc'' ∧ Ex prog w C env (execs body env) X (fun F loc₂ μ₂ => match F with
        | .next => ∃ loc₃, Sub loc₃ loc₂ ∧ I (k + 1) loc₃ μ₂
        | .cont => ∃ loc₃, Sub loc₃ loc₂ ∧ I (k + 1) loc₃ μ₂
        | .brk => Q .next loc₂ μ₂ | .ret v => Q (.ret v) loc₂ μ₂) loc'' μ') ∧
      (∀ loc' μ', I l.length loc' μ' → Ex prog w C env (execs orelse env) X Q loc' μ')) X)
    (hf : C.fs = env :: outer) (hl : env.frame = some L) (hs : ∀ x, foldedSetIterable iter env x = pure x) :
    Ex prog w C env (exec (.For target iter body orelse pos) env) X Q loc μ := by
  intro A s ρ cx rl lc P PE p pe
  with_reducible refine wpAny_For ?_ hs
  refine h A s ρ cx rl lc _ _ ?_ pe.up
  intro it l M W J K μ₀ ρ₀ h₀ tk₀ hI hz2 j0 l0 e0 wn
  refine nn fun nG => ?_
  obtain ⟨I, i0, iM, turn, stop⟩ := hz2
  refine nG ?_
  clear nG
  have lc0 := lc.mono rl e0.grow
  have wS : ∀ a, W a → ¬ SE env a := fun a q z => lc.live z (wn a q)
  have key : ∀ k, k ≤ l.length → ∀ loc' μ' ρ' h' tk', I k loc' μ' → J k h' ρ' → Rl C h' ρ' μ' → Lc C env h' ρ' loc' → Ext (fun a => W a ∨ SE env a) s.heap ρ h' ρ' →
      ∃ m : Nat, (fun n s' => ∃ k loc' μ' ρ' h' tk', k ≤ l.length ∧ n = l.length - k ∧ s' = { s with heap := h', toks := tk' } ∧ I k loc' μ' ∧ J k h' ρ' ∧ Rl C h' ρ' μ' ∧ Lc C env h' ρ' loc' ∧ Ext (fun a => W a ∨ SE env a) s.heap ρ h' ρ') m { s with heap := h', toks := tk' } :=
    fun k hk loc' μ' ρ' h' tk' a b c d e => ⟨_, k, loc', μ', ρ', h', tk', hk, rfl, rfl, a, b, c, d, e⟩
  refine codeAny_forLoop_any (fun n s' => ∃ k loc' μ' ρ' h' tk', k ≤ l.length ∧ n = l.length - k ∧ s' = { s with heap := h', toks := tk' } ∧ I k loc' μ' ∧ J k h' ρ' ∧ Rl C h' ρ' μ' ∧ Lc C env h' ρ' loc' ∧ Ext (fun a => W a ∨ SE env a) s.heap ρ h' ρ')
    ?_ (l.length - 0) ⟨0, loc, μ₀, ρ₀, h₀, tk₀, Nat.zero_le _, rfl, rfl, i0, j0, l0, lc0, e0.up⟩
  intro n _ hz3
  refine nn fun nG => ?_
  obtain ⟨k, loc', μ', ρ', h', tk', hk, rfl, rfl, hi, hj, rl', lc', e'⟩ := hz3
  refine nG ?_
  clear nG
  have pe' : ErP C (SE env) { s with heap := h', toks := tk' } ρ' X PE := fun e₂ k' μ'' ρ'' h'' tk'' x l ex g => pe e₂ k' μ'' ρ'' h'' tk'' x l ex ((e'.grow.trans (g.weak fun _ q => .inr q)).drop wn)
  have peW : ∀ {h₁ ρ₁ tk₁}, Ext (fun a => W a ∨ SE env a) h' ρ' h₁ ρ₁ → ErP C (SE env) { s with heap := h₁, toks := tk₁ } ρ₁ X PE :=
    fun {h₁ ρ₁ tk₁} e₁ e₂ k' μ'' ρ'' h'' tk'' x l ex g => pe e₂ k' μ'' ρ'' h'' tk'' x l ex (((e'.trans e₁).grow.trans (g.weak fun _ q => .inr q)).drop wn)
  have pnW : ∀ {h₁ ρ₁ tk₁}, Ext (fun a => W a ∨ SE env a) h' ρ' h₁ ρ₁ → ErP C (SE env) { s with heap := h₁, toks := tk₁ } ρ₁ X (notedBy (model prog w) A env fun e s' => cameBackBy (model prog w) A env PE e s') :=
    fun e₁ => loopErr cx hf hl (peW e₁)
  have bW : Bare W h' := hI.bare hj
  cases hv : l[k]? with
  | none =>
    have hkk : k = l.length := Nat.le_antisymm hk (List.getElem?_eq_none_iff.mp hv)
    subst hkk
    refine hI.stop (s := ⟨h', _, _, _, _⟩) hv cx rl' (iM _ _ _ hi) hj fun h₁ tk₁ l₁ k₁ => ?_
    dsimp only
    have lc₁ := lc'.kp k₁ bW wS
    have e₁ := e'.over k₁ wn
    have pe₁ : ErP C (SE env) { s with heap := h₁, toks := tk₁ } ρ' X (notedBy (model prog w) A env fun e s' => cameBackBy (model prog w) A env PE e s') := loopErr cx hf hl (pe.then e₁)
    refine (stop loc' μ' hi).go cx l₁ lc₁ pe₁ ?_
    intro f F loc₂ μ₂ ρ₂ h₂ tk₂ r₂ q₂ l₂ lc₂ e₂
    exact p f F loc₂ μ₂ ρ₂ h₂ tk₂ r₂ q₂ l₂ lc₂ (e₁.trans e₂)
  | some v =>
    have hkk : k < l.length := (List.getElem?_eq_some_iff.mp hv).1
    refine hI.step (s := ⟨h', _, _, _, _⟩) hv cx rl' (iM _ _ _ hi) hj fun u h₁ tk₁ r₁ j₁ l₁ e₁ => ?_
    dsimp only
    refine hI.own (s := ⟨h₁, _, _, _, _⟩) cx l₁ r₁ j₁ fun h₂ tk₂ r₂ j₂ l₂ e₂ => ?_
    have e12 := e₁.trans e₂
    have lc₂ := lc'.ext rl' e12 bW wS
    refine nn fun nG => ?_
    obtain ⟨loc'', ha, hb⟩ := turn k v loc' μ' hv hi
    refine nG ?_
    clear nG
    refine ha A ⟨h₂, _, _, _, _⟩ ρ' μ' u _ _ cx l₂ lc₂ r₂ fun h₃ tk₃ l₃ lc₃ e₃ => ?_
    have e13 : Ext (fun a => W a ∨ SE env a) h' ρ' h₃ ρ' := (e12.weak fun _ q => .inl q).trans (e₃.weak fun _ q => .inr q)
    have j₃ := hI.keep j₂ e₃ wS lc₂.bare
    refine hb.go cx l₃ lc₃ (pnW e13) ?_
    intro f F loc₄ μ₄ ρ₄ h₄ tk₄ r₄ q₄ l₄ lc₄ e₄
    have j₄ := hI.keep j₃ e₄ wS lc₃.bare
    have e14 := (e'.trans e13).trans (e₄.weak fun _ q => .inr q)
    cases r₄ with
    | next => obtain ⟨loc₅, sb, i₅⟩ := q₄; exact ⟨l.length - (k + 1), by (first | lia | omega), k + 1, loc₅, μ₄, ρ₄, h₄, tk₄, hkk, rfl, rfl, i₅, j₄, l₄, lc₄.sub sb, e14⟩
    | cont => obtain ⟨loc₅, sb, i₅⟩ := q₄; exact ⟨l.length - (k + 1), by (first | lia | omega), k + 1, loc₅, μ₄, ρ₄, h₄, tk₄, hkk, rfl, rfl, i₅, j₄, l₄, lc₄.sub sb, e14⟩
    | brk => exact p _ _ _ _ _ h₄ tk₄ .next q₄ l₄ lc₄ (e14.drop wn)
    | ret r => exact p _ _ _ _ _ h₄ tk₄ (.ret r) q₄ l₄ lc₄ (e14.drop wn)
end
end Mine
end

section
set_option maxHeartbeats 1000000
open PySem PySem.W PyProof.Rows PySem.Spec PySem.Calls PySem.SeqAt
set_option Elab.async false
set_option linter.unusedVariables false
set_option linter.unusedSimpArgs false
set_option maxRecDepth 100000
namespace Mine

section
variable {C : Ctx} {env : Env} {h h' : Heap} {ρ ρ' : List Addr} {loc : Loc} {W S : Addr → Prop} {μ : St}
/-! lists, in all forms -/
noncomputable def Lists (μ : St) (d : V) (l : List V) : Prop := d = .fro l ∨ d = .scr l ∨ ∃ i, d = .lst i ∧ μ[i]? = some l
theorem Lists.at (R : Rl C h ρ μ) {u : Value} {d : V} {l : List V} (r : RV h ρ u d) (q : Lists μ d l) : ∃ a vs, u = .ref a ∧ h.IsList a vs.toArray ∧ RVs h ρ vs l := by
  rcases q with rfl | rfl | ⟨i, rfl, e⟩
  · obtain ⟨a, vs, rfl, t, n, rs⟩ := r.froInv; exact ⟨a, vs, rfl, t.list, rs⟩
  · obtain ⟨a, vs, rfl, t, n, rs⟩ := r.scrInv; exact ⟨a, vs, rfl, t, rs⟩
  · refine nn fun nG => ?_
    obtain ⟨a, rfl, e'⟩ := r.lstInv
    obtain ⟨vs, t, rs⟩ := R.lst i a l e' e
    refine nG ?_
    clear nG
    exact ⟨a, vs, rfl, t.list, rs⟩
end

section
variable {prog : Program} {w : World} {C : Ctx} {X : Str → St → Prop} {env : Env} {loc : Loc} {QI : List V → (St → Prop) → St → Prop} {μ : St}
/-- the target is a name, or names -/
noncomputable def Tg (t : Expr) : Prop := (∃ x p, t = .Name x p) ∨ ∃ es k p, t = .Tuple es k p
theorem own_list {t : Expr} (ht : Tg t) {A : Around} {s : Shared} {E : Value → Shared → Prop} {P : Unit → Shared → Prop} {it l : Addr} {i : Nat} {u : Value} (hit : s.heap.IsListIter it l i) (h : P () s) :
    wpAny (model prog w) A (letOwnedTupleGo t (.ref it) u) P E s := by
  rcases ht with ⟨x, p, rfl⟩ | ⟨es, k, p, rfl⟩
  · exact wpAny_pure h
  · cases u <;> first
      | exact wpAny_letOwnedTupleGo_listiter hit h
      | exact wpAny_pure h
theorem itr_list {t : Expr} (ht : Tg t) {it a : Addr} {d : V} {l : List V} (hn : C.h₀.get? it = none) :
    Itr prog w C t (.ref it) l (fun μ => Lists μ d l) (· = it) (fun k h ρ => h.IsListIter it a k ∧ it ∉ ρ ∧ RV h ρ (.ref a) d) (fun k _ h ρ => h.IsListIter it a (k + 1) ∧ it ∉ ρ ∧ RV h ρ (.ref a) d) where
  keep := by
    intro k h ρ h' ρ' S hz1 x hS b
    refine nn fun nG => ?_
    obtain ⟨⟨o, ho, hc, hd⟩, hni, r⟩ := hz1
    refine nG ?_
    clear nG
    exact ⟨⟨o, x.keep it o ho hni (hS it rfl), hc, hd⟩, x.grow.nin ho hni, r.mono x.grow b⟩
  live := by
    rintro k h ρ b ⟨⟨o, ho, hc, hd⟩, hni, r⟩ rfl
    exact ⟨hni, o, _, ho, hd⟩
  step := by
    rintro k v A s ρ μ P E hv cx rl hM ⟨hit, hni, r⟩ h
    refine nn fun nG => ?_
    obtain ⟨a', vs, e, hl, rs⟩ := Lists.at rl r hM
    refine nG ?_
    clear nG
    cases e
    refine nn fun nG => ?_
    obtain ⟨u, hu, ru⟩ := rs.get hv
    refine nG ?_
    clear nG
    refine wpAny_pyNext_list_item hit hl (x := u) (by simpa using hu) fun h' hit' hs' => ?_
    have f : Fld (· = it) s.heap := by rintro _ rfl; obtain ⟨o, ho, hc, hd⟩ := hit; exact ⟨o, _, ho, hd⟩
    have k := sb_kp hs'
    refine h u h' _ (ru.kp k f.bare) ⟨hit', hni, r.kp k f.bare⟩ (rl.fld k f (by rintro _ rfl; exact hn)) (k.ext ?_)
    rintro _ rfl; obtain ⟨o, ho, _⟩ := hit'; rw [ho]; simp
  own := by
    rintro k u v A s ρ μ P E cx rl ru ⟨hit, hni, r⟩ h
    exact own_list ht hit (h s.heap s.toks ru ⟨hit, hni, r⟩ rl .refl)
  stop := by
    rintro k A s ρ μ P E hv cx rl hM ⟨hit, hni, r⟩ h
    refine nn fun nG => ?_
    obtain ⟨a', vs, e, hl, rs⟩ := Lists.at rl r hM
    refine nG ?_
    clear nG
    cases e
    refine wpAny_pyNext_list_end cx.hand hit hl (by simpa [rs.length] using hv) fun h' eb => ?_
    have f : Fld (· = it) s.heap := by rintro _ rfl; obtain ⟨o, ho, hc, hd⟩ := hit; exact ⟨o, _, ho, hd⟩
    exact h h' _ (rl.fld (eb_kp eb) f (by rintro _ rfl; exact hn)) (eb_kp eb)
  named := fun _ _ _ _ _ j => j
  self := fun j p => wpAny_pyIter_listiter j.1 p
theorem itr_str {x : Str} {px : Pos} {it : Addr} {y : Str} {t : Tok} (ty : String) (hn : C.h₀.get? it = none)
    (item : ∀ {A : Around} {E : Value → Shared → Prop} {s : Shared} {i c : Nat} {Q : Option Value → Shared → Prop}, s.heap.IsStrIter it ty y t i → y.cps[i]? = some c →
      (∀ h', h'.IsStrIter it ty y t (i + 1) → Heap.SameBut it s.heap h' → Q (some (.str ⟨#[c]⟩ s.toks)) { s with heap := h', toks := s.toks + 1 }) → wpAny (model prog w) A (pyNext (.ref it)) Q E s)
    (done : ∀ {A : Around} {E : Value → Shared → Prop} {s : Shared} {i : Nat} {Q : Option Value → Shared → Prop}, A.handled = none → s.heap.IsStrIter it ty y t i → y.cps[i]? = none →
      (∀ h', Heap.ExtBut it s.heap h' → Q none { s with heap := h' }) → wpAny (model prog w) A (pyNext (.ref it)) Q E s)
    (self : ∀ {A : Around} {E : Value → Shared → Prop} {s : Shared} {i : Nat} {Q : Value → Shared → Prop}, s.heap.IsStrIter it ty y t i → Q (.ref it) s → wpAny (model prog w) A (pyIter (.ref it)) Q E s) :
    Itr prog w C (.Name x px) (.ref it) ((cs y).map fun c => V.str [c]) (fun _ => True) (· = it) (fun k h ρ => h.IsStrIter it ty y t k ∧ it ∉ ρ) (fun k _ h ρ => h.IsStrIter it ty y t (k + 1) ∧ it ∉ ρ) where
  keep := by
    intro k h ρ h' ρ' S hz2 x hS b
    refine nn fun nG => ?_
    obtain ⟨⟨o, ho, hc, hd⟩, hni⟩ := hz2
    refine nG ?_
    clear nG
    exact ⟨⟨o, x.keep it o ho hni (hS it rfl), hc, hd⟩, x.grow.nin ho hni⟩
  live := by
    rintro k h ρ b ⟨⟨o, ho, hc, hd⟩, hni⟩ rfl
    exact ⟨hni, o, _, ho, hd⟩
  step := by
    rintro k v A s ρ μ P E hv cx rl hM ⟨hit, hni⟩ h
    obtain ⟨c, hc, rfl⟩ : ∃ c, (cs y)[k]? = some c ∧ v = .str [c] := by
      simp only [List.getElem?_map, Option.map_eq_some_iff] at hv
      obtain ⟨c, h1, h2⟩ := hv; exact ⟨c, h1, h2.symm⟩
    refine item hit (c := c) (by simpa [cs] using hc) fun h' hit' hs' => ?_
    have f : Fld (· = it) s.heap := by rintro _ rfl; obtain ⟨o, ho, hc, hd⟩ := hit; exact ⟨o, _, ho, hd⟩
    have k := sb_kp hs'
    refine h _ h' _ (.str ⟨#[c]⟩ _) ⟨hit', hni⟩ (rl.fld k f (by rintro _ rfl; exact hn)) (k.ext ?_)
    rintro _ rfl; obtain ⟨o, ho, _⟩ := hit'; rw [ho]; simp
  own := fun cx rl ru j h => wpAny_pure (h _ _ ru j rl .refl)
  stop := by
    rintro k A s ρ μ P E hv cx rl hM ⟨hit, hni⟩ h
    refine done cx.hand hit (by simpa [cs] using hv) fun h' eb => ?_
    have f : Fld (· = it) s.heap := by rintro _ rfl; obtain ⟨o, ho, hc, hd⟩ := hit; exact ⟨o, _, ho, hd⟩
    exact h h' _ (rl.fld (eb_kp eb) f (by rintro _ rfl; exact hn)) (eb_kp eb)
  named := fun _ _ _ _ _ j => j
  self := fun j p => self j.1 p
theorem itr_range {x : Str} {px : Pos} {it : Addr} {n : Nat} (hn : C.h₀.get? it = none) :
    Itr prog w C (.Name x px) (.ref it) ((List.range n).map fun (i : Nat) => V.int i) (fun _ => True) (· = it) (fun k h ρ => k ≤ n ∧ IsRangeIter h it k ((n - k : Nat) : Int) 1 ∧ it ∉ ρ) (fun k _ h ρ => k + 1 ≤ n ∧ IsRangeIter h it ((k + 1 : Nat) : Int) ((n - (k + 1) : Nat) : Int) 1 ∧ it ∉ ρ) where
  keep := by
    rintro k h ρ h' ρ' S ⟨hk, ho, hni⟩ x hS b
    exact ⟨hk, x.keep it _ ho hni (hS it rfl), x.grow.nin ho hni⟩
  live := by
    rintro k h ρ b ⟨hk, ho, hni⟩ rfl
    exact ⟨hni, _, _, ho, rfl⟩
  step := by
    rintro k v A s ρ μ P E hv cx rl hM ⟨hk, hit, hni⟩ h
    obtain ⟨hlt, rfl⟩ : k < n ∧ v = .int k := by
      simp only [List.getElem?_map, Option.map_eq_some_iff] at hv
      refine nn fun nG => ?_
      obtain ⟨c, h1, h2⟩ := hv
      obtain ⟨h3, h4⟩ := List.getElem?_eq_some_iff.mp h1
      refine nG ?_
      clear nG
      simp at h3 h4
      subst h4; exact ⟨h3, h2.symm⟩
    refine wpAny_pyNext_range_item hit (by (first | lia | omega)) fun h' hit' hs' => ?_
    have f : Fld (· = it) s.heap := by rintro _ rfl; exact ⟨_, _, hit, rfl⟩
    have kp := sb_kp hs'
    refine h _ h' _ (.int k _) ⟨hlt, ?_, hni⟩ (rl.fld kp f (by rintro _ rfl; exact hn)) (kp.ext ?_)
    · have e1 : ((k : Int) + 1) = ((k + 1 : Nat) : Int) := by push_cast; rfl
      have e2 : (((n - k : Nat) : Int) - 1) = ((n - (k + 1) : Nat) : Int) := by (first | lia | omega)
      rw [e1, e2] at hit'; exact hit'
    · rintro _ rfl; rw [hit']; simp
  own := fun cx rl ru j h => wpAny_pure (h _ _ ru j rl .refl)
  stop := by
    rintro k A s ρ μ P E hv cx rl hM ⟨hk, hit, hni⟩ h
    have hkn : n ≤ k := by simpa using hv
    refine wpAny_pyNext_range_end cx.hand hit (by (first | lia | omega)) fun h' eb => ?_
    have f : Fld (· = it) s.heap := by rintro _ rfl; exact ⟨_, _, hit, rfl⟩
    exact h h' _ (rl.fld (eb_kp eb) f (by rintro _ rfl; exact hn)) (eb_kp eb)
  named := fun _ _ _ _ _ j => j
  self := fun {A s ρ P E} j p => wpAny_pyIter_rangeiter j.2.1 p

/-! iterables -/
theorem evi_list {target iter : Expr} (ht : Tg target) (h : Ev prog w C RV env X (eval iter env) loc (fun v μ₁ => ∃ l, Lists μ₁ v l ∧ QI l (fun μ => Lists μ v l) μ₁) μ) : EvI prog w C env target iter loc μ QI X := by
  intro A s ρ cx rl lc P PE p pe
  refine h.go cx rl lc pe fun u v μ₁ ρ₁ h₁ tk₁ r₁ q₁ l₁ e₁ => ?_
  refine nn fun nG => ?_
  obtain ⟨l, hl, q⟩ := q₁
  obtain ⟨a, vs, rfl, il, rs⟩ := Lists.at l₁ r₁ hl
  refine nG ?_
  clear nG
  refine wpAny_pyIter_list (s := ⟨h₁, _, _, _, _⟩) il ?_
  have k := push_keeps (h := h₁) { cls := .type "list_iterator", data := .fields #[.ref a, .int 0 0] }
  have x := ext_of (ρ := ρ₁) k
  have fr : h₁.get? h₁.objs.size = none := fresh_none
  refine p _ l _ (· = h₁.objs.size) _ _ μ₁ ρ₁ _ tk₁ (itr_list (d := v) ht (fresh_h₀ l₁ fr)) q ⟨⟨_, Heap.get?_push_size _ rfl, rfl, rfl⟩, l₁.nins fr, r₁.mono x.grow bare_no⟩ (l₁.keeps k) (e₁.trans x) ?_
  rintro _ rfl
  cases q : s.heap.get? h₁.objs.size with
  | none => rfl
  | some o => exact absurd fr (e₁.live _ (by rw [q]; simp))
theorem evi_str {x : Str} {px : Pos} {iter : Expr} (h : Ev prog w C RV env X (eval iter env) loc (fun v μ₁ => ∃ y, v = .str y ∧ QI (y.map fun c => V.str [c]) (fun _ => True) μ₁) μ) : EvI prog w C env (.Name x px) iter loc μ QI X := by
  intro A s ρ cx rl lc P PE p pe
  refine h.go cx rl lc pe fun u v μ₁ ρ₁ h₁ tk₁ r₁ q₁ l₁ e₁ => ?_
  refine nn fun nG => ?_
  obtain ⟨y, rfl, q⟩ := q₁
  obtain ⟨y, t, rfl, rfl⟩ := r₁.strInv
  refine nG ?_
  clear nG
  have fr : h₁.get? h₁.objs.size = none := fresh_none
  have new : ∀ a, a = h₁.objs.size → s.heap.get? a = none := by
    rintro _ rfl
    cases q : s.heap.get? h₁.objs.size with
    | none => rfl
    | some o => exact absurd fr (e₁.live _ (by rw [q]; simp))
  cases ha : y.cps.all (· < 128)
  · refine wpAny_pyIter_wide (s := ⟨h₁, _, _, _, _⟩) ha ?_
    have k := push_keeps (h := h₁) { cls := .type "str_iterator", data := .fields #[.str y t, .int 0 0] }
    exact p _ _ _ (· = h₁.objs.size) _ _ μ₁ ρ₁ _ tk₁ (itr_str "str_iterator" (fresh_h₀ l₁ fr) wpAny_pyNext_wide_item wpAny_pyNext_wide_end wpAny_pyIter_striter_wide) q ⟨⟨_, Heap.get?_push_size _ rfl, rfl, rfl⟩, l₁.nins fr⟩ (l₁.keeps k) (e₁.trans (ext_of k)) new
  · refine wpAny_pyIter_ascii (s := ⟨h₁, _, _, _, _⟩) ha ?_
    have k := push_keeps (h := h₁) { cls := .type "str_ascii_iterator", data := .fields #[.str y t, .int 0 0] }
    exact p _ _ _ (· = h₁.objs.size) _ _ μ₁ ρ₁ _ tk₁ (itr_str "str_ascii_iterator" (fresh_h₀ l₁ fr) wpAny_pyNext_ascii_item wpAny_pyNext_ascii_end wpAny_pyIter_striter_ascii) q ⟨⟨_, Heap.get?_push_size _ rfl, rfl, rfl⟩, l₁.nins fr⟩ (l₁.keeps k) (e₁.trans (ext_of k)) new
theorem evi_range {x : Str} {px : Pos} {np pos : Pos} {e : Expr} (g : nsIn C.K mainGlobals "range" = some none) (hk : env.kindOf "range" = some .globalImplicit)
    (he : starEach [e] env = (false, eval e env) :: starEach [] env)
    (h : Ev prog w C RV env X (eval e env) loc (fun v μ₁ => ∃ n : Nat, v = .int n ∧ n < 2 ^ 60 ∧ QI ((List.range n).map fun (i : Nat) => V.int i) (fun _ => True) μ₁) μ) : EvI prog w C env (.Name x px) (.Call (.Name "range" np) [e] [] pos) loc μ QI X := by
  intro A s ρ cx rl lc P PE p pe
  refine Call_ (builtinAt cx rl lc g (by boot_fast) (by decide) hk (by decide) ?_) rfl
  refine PyProof.Rows.callWith_type1 ((args_cons' (QL := fun vs μ₁ => ∃ v, vs = [v] ∧ ∃ n : Nat, v = .int n ∧ n < 2 ^ 60 ∧ QI ((List.range n).map fun (i : Nat) => V.int i) (fun _ => True) μ₁) (h.mono (fun v μ₁ q => args_nil' ⟨v, rfl, q⟩) fun _ _ x => x) he).go cx rl lc pe fun us vs μ₁ ρ₁ h₁ tk₁ r₁ q₁ l₁ e₁ => ?_) he rfl
  refine nn fun nG => ?_
  obtain ⟨_, rfl, n, rfl, hn, q⟩ := q₁
  obtain ⟨u, rfl, ru⟩ := r₁.one
  obtain ⟨t, rfl⟩ := ru.intInv
  refine nG ?_
  clear nG
  refine call_range_1 ?_
  have k1 := push_keeps (h := h₁) { cls := .type "range", data := .fields #[.int 0 tk₁, .int n t, .int 1 (tk₁ + 1)] }
  have l₂ := l₁.keeps k1
  have x1 := ext_of (ρ := ρ₁) k1
  refine wpAny_pyIter_range (IsRange.new _ _ _ _ _ _ _) (small_one (by (first | lia | omega)) (by (first | lia | omega)) (by (first | lia | omega)) (by (first | lia | omega))) ?_
  dsimp only
  generalize hH : h₁.push { cls := .type "range", data := .fields #[.int 0 tk₁, .int n t, .int 1 (tk₁ + 1)] } = h₂ at l₂ x1 ⊢
  have fr : h₂.get? h₂.objs.size = none := fresh_none
  have k2 := push_keeps (h := h₂) { cls := .type "range_iterator", data := .fields #[rawInt 0, rawInt (Builtin.Range.rangeSize 0 (n : Int) 1), rawInt 1] }
  refine p _ _ _ (· = h₂.objs.size) _ _ μ₁ ρ₁ _ _ (itr_range (n := n) (fresh_h₀ l₂ fr)) q ⟨Nat.zero_le _, ?_, l₂.nins fr⟩ (l₂.keeps k2) ((e₁.trans x1).trans (ext_of k2)) ?_
  · have : Builtin.Range.rangeSize 0 (n : Int) 1 = ((n - 0 : Nat) : Int) := by
      rw [rangeSize_one]; split <;> (first | lia | omega)
    rw [this]; exact Heap.get?_push_size _ rfl
  · rintro _ rfl
    cases q : s.heap.get? h₂.objs.size with
    | none => rfl
    | some o => exact absurd fr ((e₁.trans x1).live _ (by rw [q]; simp))
end
end Mine
end

section
set_option maxHeartbeats 1000000
open PySem PySem.W PyProof.Rows PySem.Spec PySem.Calls PySem.SeqAt
set_option Elab.async false
set_option linter.unusedVariables false
set_option linter.unusedSimpArgs false
set_option maxRecDepth 100000
namespace Mine

section
variable {prog : Program} {w : World} {C : Ctx} {X : Str → St → Prop} {env : Env} {loc : Loc} {Q : V → St → Prop} {μ : St}
theorem lookup_mem {α : Type} {l : List (Str × α)} (nd : (l.map (·.1)).Nodup) {x : Str} {v : α} (m : (x, v) ∈ l) : l.lookup x = some v := by
  induction l with
  | nil => cases m
  | cons p r ih =>
    obtain ⟨y, u⟩ := p
    have nd' := List.nodup_cons.mp (by simpa using nd : (y :: r.map (·.1)).Nodup)
    rw [List.lookup_cons]
    rcases List.mem_cons.mp m with e | m'
    · cases e; simp
    · have hne : x ≠ y := fun q => nd'.1 (q ▸ List.mem_map_of_mem (f := (·.1)) m')
      rw [show (x == y) = false from by simpa using hne]
      exact ih nd'.2 m'
theorem zip_keys {α : Type} : ∀ {names : List Str} {us : List α}, names.length = us.length → (names.zip us).map (·.1) = names
  | [], [], _ => rfl
  | a :: r, b :: q, h => by simp at h ⊢; exact zip_keys h
theorem zip_rv {h : Heap} {ρ : List Addr} : ∀ {names : List Str} {us : List Value} {args : List V}, RVs h ρ us args → ∀ p ∈ names.zip args, ∃ u, (p.1, u) ∈ names.zip us ∧ RV h ρ u p.2
  | [], _, _, _, p, m => by simp at m
  | a :: r, _, _, .nil, p, m => by simp at m
  | a :: r, _, _, .cons r1 rs, p, m => by
    rw [List.zip_cons_cons] at m
    rcases List.mem_cons.mp m with rfl | m
    · exact ⟨_, .head _, r1⟩
    · refine nn fun nG => ?_
      obtain ⟨u, h1, h2⟩ := zip_rv rs p m
      refine nG ?_
      clear nG
      exact ⟨u, .tail _ h1, h2⟩

noncomputable def Ctx.push (C : Ctx) (env : Env) : Ctx := ⟨C.K, C.h₀, env :: C.fs, C.n - 1⟩
theorem Cx.push {A : Around} (cx : Cx C A) (hn : 0 < C.n) (env : Env) : Cx (C.push env) (A.deeper env) := by
  refine ⟨cx.kin, cx.top, cx.hand, Around.frames_deeper cx.frames, ?_, ?_⟩
  · have := cx.depth
    show A.depth + 1 + (C.n - 1) < _
    (first | lia | omega)
  · have := cx.units
    show A.units + 3 + 8 * (C.n - 1) < _
    (first | lia | omega)
theorem Rl.pop {h : Heap} {ρ : List Addr} {env : Env} (R : Rl (C.push env) h ρ μ) : Rl C h ρ μ :=
  ⟨R.stay, fun e m => R.frm e (.tail _ m), R.nd, R.len, R.lst, R.new⟩
theorem Rl.push {h : Heap} {ρ : List Addr} {env : Env} {L : Addr} {m : Str → Option Value} (R : Rl C h ρ μ) (hk : env.scope.kind = .function) (hf : env.frame = some L) (h0 : C.h₀.get? L = none) (n : h.Ns L m) : Rl (C.push env) h ρ μ :=
  ⟨R.stay, fun e q => by
    rcases List.mem_cons.mp q with rfl | q
    · exact ⟨hk, L, m, hf, h0, n⟩
    · exact R.frm e q, R.nd, R.len, R.lst, R.new⟩
theorem op_def {f : Addr} {oc : Value} {od : Option Addr} {osl : Array (Option Value)} {name qual : Str} {params : Arguments} {body : List Stmt} {scope : Scope} {dV kV doc pm : Value} {an : Option Addr} {cdv ct : Value} (names : List Str) {args : List V}
    (ho : C.K.lookup f = some ⟨oc, od, .func (fnOf name qual params body scope dV kV doc pm an cdv ct), osl⟩) (hcd : codeIn C.K cdv qual = true) (hn : 0 < C.n) (hlen : names.length = args.length)
    (hbind : ∀ us : List Value, us.length = names.length → bindArgs (fnOf name qual params body scope dV kV doc pm an cdv ct) ⟨us, []⟩ = pure (names.zip us))
    (hnd : names.Nodup) (hcell : ∀ x ∈ scope.names, x.2 ≠ .cell) (hloc : ∀ x ∈ names, scope.names.lookup x = some .local)
    (hco : scope.isCoroutine = false) (hgen : scope.isGenerator = false) (hk : scope.kind = .function)
    (h : ∀ L C', C'.K = C.K → C'.n + 1 = C.n → C'.h₀ = C.h₀ → C'.fs = envOf qual scope L f cdv :: C.fs → Ex prog w C' (envOf qual scope L f cdv) (execs body (envOf qual scope L f cdv)) X (fun F _ μ' => match F with | .ret v => Q v μ' | _ => Q .none μ') (names.zip args) μ) :
    Op prog w C RV (fun us => call (.ref f) us) X Q args μ := by
  intro A s ρ us cx rl r P PE p pe
  have hl : us.length = names.length := r.length.trans hlen.symm
  have hzk : (names.zip us).map (·.1) = names := zip_keys hl.symm
  refine nn fun nG => ?_
  obtain ⟨_, _, _, _, _, T⟩ := cx.top
  refine nG ?_
  clear nG
  refine wpAny_call (codeAny_call_def (binds := names.zip us) (by have := cx.depth; (first | lia | omega)) (rl.stay _ _ (cx.kin _ _ ho)) rfl (T.nolimit.keeps rl.stay) ((codeRec_of cx.kin hcd).keeps rl.stay) rfl (BindsTo.of_eq (hbind us hl)) hcell (fun x m => hloc _ ?_) ?_ hco hgen hk)
  · rw [← hzk]; exact List.mem_map_of_mem (f := (·.1)) m
  intro g hns keep
  show wpAny _ (A.deeper (envOf qual scope s.heap.objs.size f cdv)) (execs body (envOf qual scope s.heap.objs.size f cdv)) _ _ _
  have fr : s.heap.get? s.heap.objs.size = none := fresh_none
  have fr0 := fresh_h₀ rl fr
  have x0 := ext_of (ρ := ρ) keep
  have l0 : Rl (C.push (envOf qual scope s.heap.objs.size f cdv)) g ρ μ := (rl.keeps keep).push hk rfl fr0 hns
  have lc0 : Lc (C.push (envOf qual scope s.heap.objs.size f cdv)) (envOf qual scope s.heap.objs.size f cdv) g ρ (names.zip args) := by
    refine ⟨hk, rfl, rfl, ⟨_, hns⟩, fr0, (fun c hc => nomatch hc), by rw [zip_keys hlen]; exact hnd, fun q m => ?_⟩
    refine nn fun nG => ?_
    obtain ⟨u, h1, h2⟩ := zip_rv r q m
    refine nG ?_
    clear nG
    refine ⟨u, .inl ⟨hloc q.1 (by rw [← zip_keys hlen]; exact List.mem_map_of_mem (f := (·.1)) m), _, hns, ?_⟩, h2.mono x0.grow bare_no⟩
    refine lookup_mem ?_ (List.mem_reverse.mpr h1)
    rw [List.map_reverse, hzk]
    exact List.pairwise_reverse.mpr (hnd.imp fun q => Ne.symm q)
  have seL : ∀ a, SE (envOf qual scope s.heap.objs.size f cdv) a → s.heap.get? a = none := by
    rintro a (rfl | ⟨c, hc, _⟩)
    · exact fr
    · exact nomatch hc
  refine (h s.heap.objs.size (C.push _) rfl (by show C.n - 1 + 1 = C.n; (first | lia | omega)) rfl rfl).go (s := ⟨g, _, _, _, _⟩) (cx.push hn _) l0 lc0 ?_ ?_
  · intro e k μ' ρ' h' tk x l ex gr
    refine leaving_exc (s := ⟨h', _, _, _, _⟩) (cx.push hn _) l rfl rfl ex fun h₁ x₁ S₁ => ?_
    have xC : ExcAt C h₁ e k .none := x₁
    have gr' : Grow no s.heap ρ h' ρ' := (x0.grow.up.trans (gr.weak fun _ q => Or.inl q)).drop (W := SE (envOf qual scope s.heap.objs.size f cdv)) (S := no) seL
    exact pe e k μ' ρ' h₁ tk x (S₁.rl l).pop xC.exc (gr'.trans S₁.grow)
  · intro F F' loc' μ' ρ' h' tk rf q l lc e
    have e' : Ext no s.heap ρ h' ρ' := (x0.up.trans (e.weak fun _ q => Or.inl q)).drop (W := SE (envOf qual scope s.heap.objs.size f cdv)) (S := no) seL
    cases rf with
    | next => exact p _ _ μ' ρ' h' tk .none q l.pop e'
    | brk => exact p _ _ μ' ρ' h' tk .none q l.pop e'
    | cont => exact p _ _ μ' ρ' h' tk .none q l.pop e'
    | ret r => exact p _ _ μ' ρ' h' tk r q l.pop e'
theorem map_zip {l : Loc} : (l.map (·.1)).zip (l.map (·.2)) = l := by
  induction l with
  | nil => rfl
  | cons p r ih => simp [ih]
theorem op_defl {f : Addr} {oc : Value} {od : Option Addr} {osl : Array (Option Value)} {name qual : Str} {params : Arguments} {body : List Stmt} {scope : Scope} {dV kV doc pm : Value} {an : Option Addr} {cdv ct : Value} (l : Loc) {args : List V}
    (ho : C.K.lookup f = some ⟨oc, od, .func (fnOf name qual params body scope dV kV doc pm an cdv ct), osl⟩) (hcd : codeIn C.K cdv qual = true) (hn : 0 < C.n) (ha : l.map (·.2) = args)
    (hbind : ∀ us : List Value, us.length = l.length → bindArgs (fnOf name qual params body scope dV kV doc pm an cdv ct) ⟨us, []⟩ = pure ((l.map (·.1)).zip us))
    (hnd : (l.map (·.1)).Nodup) (hcell : ∀ x ∈ scope.names, x.2 ≠ .cell) (hloc : ∀ x ∈ l.map (·.1), scope.names.lookup x = some .local)
    (hco : scope.isCoroutine = false) (hgen : scope.isGenerator = false) (hk : scope.kind = .function)
    (h : ∀ L C', C'.K = C.K → C'.n + 1 = C.n → C'.h₀ = C.h₀ → C'.fs = envOf qual scope L f cdv :: C.fs → Ex prog w C' (envOf qual scope L f cdv) (execs body (envOf qual scope L f cdv)) X (fun F _ μ' => match F with | .ret v => Q v μ' | _ => Q .none μ') l μ) :
    Op prog w C RV (fun us => call (.ref f) us) X Q args μ := by
  subst ha
  refine op_def (l.map (·.1)) ho hcd hn (by simp) (fun us hu => hbind us (by simpa using hu)) hnd hcell hloc hco hgen hk ?_
  intro L C' h1 h2 h3 h4
  rw [map_zip]
  exact h L C' h1 h2 h3 h4
end
end Mine
end

section
set_option maxHeartbeats 1000000
open PySem PySem.W PyProof.Rows PySem.Spec PySem.Calls PySem.SeqAt
set_option Elab.async false
set_option linter.unusedVariables false
set_option linter.unusedSimpArgs false
set_option maxRecDepth 100000
namespace Mine

section
variable {prog : Program} {w : World} {C : Ctx} {X : Str → St → Prop} {env : Env} {loc : Loc} {Q : V → St → Prop} {QB : Bool → St → Prop} {a b : Nat} {x y : List Nat} {μ : St}
/-! naturals -/
theorem o_add_nn (h : Q (.int ((a + b : Nat) : Int)) μ) : Op2 prog w C RV (binaryOp .Add) X Q (.int a) (.int b) μ := o_add_ii (by rw [← Int.natCast_add]; exact h)
theorem o_add_n1 (h : Q (.int ((a + 1 : Nat) : Int)) μ) : Op2 prog w C RV (binaryOp .Add) X Q (.int a) (.int 1) μ := o_add_nn (b := 1) h
theorem o_add_n2 (h : Q (.int ((a + 2 : Nat) : Int)) μ) : Op2 prog w C RV (binaryOp .Add) X Q (.int a) (.int 2) μ := o_add_nn (b := 2) h
theorem o_add_n3 (h : Q (.int ((a + 3 : Nat) : Int)) μ) : Op2 prog w C RV (binaryOp .Add) X Q (.int a) (.int 3) μ := o_add_nn (b := 3) h
theorem o_iadd_n1 (h : Q (.int ((a + 1 : Nat) : Int)) μ) : Op2 prog w C RV (inplaceOp .Add) X Q (.int a) (.int 1) μ := o_iadd_ii (b := 1) (by simpa using h)
theorem o_sub_nn (h0 : b ≤ a) (h : Q (.int ((a - b : Nat) : Int)) μ) : Op2 prog w C RV (binaryOp .Sub) X Q (.int a) (.int b) μ := o_sub_ii (by rwa [Int.ofNat_sub h0] at h)
theorem o_lt_nn (h : Q (.bool (decide (a < b))) μ) : Op2 prog w C RV (compareOp .Lt) X Q (.int a) (.int b) μ := o_lt_ii (by simpa using h)
theorem o_gt_nn (h : Q (.bool (decide (b < a))) μ) : Op2 prog w C RV (compareOp .Gt) X Q (.int a) (.int b) μ := o_gt_ii (by simpa using h)
theorem o_ge_nn (h : Q (.bool (decide (b ≤ a))) μ) : Op2 prog w C RV (compareOp .GtE) X Q (.int a) (.int b) μ := o_ge_ii (by simpa using h)
theorem o_gt_n0 (h : Q (.bool (decide (0 < a))) μ) : Op2 prog w C RV (compareOp .Gt) X Q (.int a) (.int 0) μ := o_gt_nn (b := 0) h
theorem o_eq_nn (h : Q (.bool (decide (a = b))) μ) : Op2 prog w C RV (compareOp .Eq) X Q (.int a) (.int b) μ := o_eq_ii (by
  have : ((a : Int) == (b : Int)) = decide (a = b) := by rw [Bool.eq_iff_iff]; simp only [beq_iff_eq, decide_eq_true_eq]; (first | lia | omega)
  rw [this]; exact h)
theorem o_mod_nn (h0 : b ≠ 0) (h : Q (.int ((a % b : Nat) : Int)) μ) : Op2 prog w C RV (binaryOp .Mod) X Q (.int a) (.int b) μ := o_mod_ii (by (first | lia | omega)) (by
  have : Int.fmod (a : Int) (b : Int) = ((a % b : Nat) : Int) := by rw [Int.fmod_eq_emod_of_nonneg _ (by (first | lia | omega))]; rfl
  rw [this]; exact h)
theorem m_find' {c k : Nat} (hy : y = [c]) (h : Q (.int (ixOf c x k)) μ) : Op prog w C RV (fun us => call (.builtin "str.find") us) X Q [.str x, .str y, .int k] μ := by subst hy; exact m_find h
theorem ev_slice_nn {value lo hi : Expr} {p pos}
    (h : Ev prog w C RV env X (eval value env) loc (fun v μ₁ => Ev prog w C RV env X (eval lo env) loc (fun i μ₂ => Ev prog w C RV env X (eval hi env) loc (fun j μ₃ => ∃ x, ∃ a b : Nat, v = .str x ∧ i = .int a ∧ j = .int b ∧ x.length ≤ sizeLine ∧ Q (.str ((x.take b).drop a)) μ₃) μ₂) μ₁) μ) :
    Ev prog w C RV env X (eval (.Subscript value (.Slice (some lo) (some hi) none p) pos) env) loc Q μ :=
  ev_slice_ss (h.mono (fun _ _ h => h.mono (fun _ _ h => h.mono (fun _ _ ⟨x, a, b, e1, e2, e3, h4, h5⟩ => ⟨x, a, b, e1, e2, e3, by (first | lia | omega), by (first | lia | omega), h4, by simpa using h5⟩) fun _ _ q => q) fun _ _ q => q) fun _ _ q => q)
theorem ev_slice_n {value lo : Expr} {p pos}
    (h : Ev prog w C RV env X (eval value env) loc (fun v μ₁ => Ev prog w C RV env X (eval lo env) loc (fun i μ₂ => ∃ x, ∃ a : Nat, v = .str x ∧ i = .int a ∧ x.length ≤ sizeLine ∧ Q (.str (x.drop a)) μ₂) μ₁) μ) :
    Ev prog w C RV env X (eval (.Subscript value (.Slice (some lo) none none p) pos) env) loc Q μ :=
  ev_slice_sn (h.mono (fun _ _ h => h.mono (fun _ _ ⟨x, a, e1, e2, h4, h5⟩ => ⟨x, a, e1, e2, by (first | lia | omega), h4, by simpa using h5⟩) fun _ _ q => q) fun _ _ q => q)

/-! lists in both forms -/
noncomputable def Lx (μ : St) (d : V) (l : List V) : Prop := d = .fro l ∨ ∃ i, d = .lst i ∧ μ[i]? = some l
theorem Lx.fro {l : List V} : Lx μ (.fro l) l := .inl rfl
theorem Lx.lst {i : Nat} {l : List V} (h : μ[i]? = some l) : Lx μ (.lst i) l := .inr ⟨i, rfl, h⟩
theorem Lx.lists {d : V} {l : List V} (h : Lx μ d l) : Lists μ d l := h.elim .inl fun q => .inr (.inr q)
theorem Lx.at {h : Heap} {ρ : List Addr} (R : Rl C h ρ μ) {u : Value} {d : V} {l : List V} (r : RV h ρ u d) (q : Lx μ d l) : ∃ a vs, u = .ref a ∧ LstE h a vs ∧ RVs h ρ vs l := by
  rcases q with rfl | ⟨i, rfl, e⟩
  · obtain ⟨a, vs, rfl, t, n, rs⟩ := r.froInv; exact ⟨a, vs, rfl, t, rs⟩
  · refine nn fun nG => ?_
    obtain ⟨a, rfl, e'⟩ := r.lstInv
    obtain ⟨vs, t, rs⟩ := R.lst i a l e' e
    refine nG ?_
    clear nG
    exact ⟨a, vs, rfl, t, rs⟩
theorem ev_lfro {elts pos} (h : Ev prog w C RVs env X (spliced (backTo pos (starEach elts env))) loc (fun vs μ₁ => vs.length ≤ sizeLine ∧ Q (.fro vs) μ₁) μ) : Ev prog w C RV env X (eval (.List elts pos) env) loc Q μ := by
  intro A s ρ cx rl lc P PE p pe
  refine wpAny_List (h.go cx rl lc pe fun us vs μ₁ ρ₁ h₁ tk₁ r₁ q₁ l₁ e₁ => ⟨r₁.length ▸ q₁.1, ?_⟩)
  have k := push_keeps (h := h₁) { cls := .type "list", data := .seq us.toArray }
  have x := ext_of (ρ := ρ₁) k
  refine (p.then e₁) (.ref h₁.objs.size) (.fro vs) μ₁ ρ₁ _ tk₁ ?_ q₁.2 (l₁.keeps k) x
  exact .fro isList_push (l₁.nins fresh_none) (r₁.mono x.grow bare_no)
theorem b_len_L {d : V} {l : List V} (hd : Lx μ d l) (hl : l.length < 2 ^ 62) (h : Q (.int (l.length : Nat)) μ) : Op prog w C RV (fun us => call (.builtin "len") us) X Q [d] μ := by
  rcases hd with rfl | ⟨i, rfl, e⟩
  · exact b_len_fro hl h
  · exact b_len_lst e hl h
theorem b_len_str' (hl : x.length < 2 ^ 62) (h : Q (.int (x.length : Nat)) μ) : Op prog w C RV (fun us => call (.builtin "len") us) X Q [.str x] μ := b_len_str hl h
theorem o_item_L {value slice : Expr} {u : V} {l : List V} {d : V} (hu : Lx μ u l) (hj : a < 2 ^ 62) (hd : l[a]? = some d) (h : Q d μ) (hs : ∀ o i, subscripted slice false o i = operate [o, i] (getItem o i)) :
    Op2 prog w C RV (subscriptTail value slice) X Q u (.int a) μ := by
  rcases hu with rfl | ⟨i, rfl, e⟩
  · exact o_item_fro a rfl hj hd h hs
  · exact o_item_lst a rfl hj e hd h hs
theorem o_add_L {d e : V} {l k : List V} (hd : Lx μ d l) (he : Lx μ e k) (hl : l.length + k.length ≤ 1000000) (h : Q (.fro (l ++ k)) μ) : Op2 prog w C RV (binaryOp .Add) X Q d e μ := by
  intro A s ρ u v cx rl ru rv P PE p pe
  refine nn fun nG => ?_
  obtain ⟨a, vs, rfl, ⟨n, ho⟩, rs⟩ := hd.at rl ru
  obtain ⟨b, us, rfl, ⟨n2, ho2⟩, rs2⟩ := he.at rl rv
  refine nG ?_
  clear nG
  have hz : vs.toArray.size + us.toArray.size ≤ sizeLine := by rw [List.size_toArray, List.size_toArray, rs.length, rs2.length, sizeLine_eq]; (first | lia | omega)
  refine concat_meets ⟨_, ho, rfl⟩ ⟨_, ho2, rfl⟩ noFill_list_add seq_list_add PySem.F.slot_list_add PySem.F.entry_list_add (PySem.F.args_list_add_2 _ _) (list_addW a b vs.toArray us.toArray n n2 none none #[] #[] hz) ⟨ho, ho2, ?_⟩
  have e : vs.toArray ++ us.toArray = (vs ++ us).toArray := by simp
  rw [e]
  have kk := push_keeps (h := s.heap) { cls := .type "list", data := .seq (vs ++ us).toArray }
  have xx := ext_of (ρ := ρ) kk
  exact p (.ref s.heap.objs.size) (.fro (l ++ k)) μ ρ _ s.toks (.fro isList_push (rl.nins fresh_none) ((rs.append rs2).mono xx.grow bare_no)) h (rl.keeps kk) xx
theorem m_extend_L {i : Nat} {e : V} {l k : List V} (hi : μ[i]? = some l) (he : Lx μ e k) (hl : l.length + k.length ≤ 1000000) (h : Q .none (μ.set i (l ++ k))) : Op prog w C RV (fun us => call (.builtin "list.extend") us) X Q [.lst i, e] μ := by
  intro A s ρ us cx rl r P PE p pe
  refine nn fun nG => ?_
  obtain ⟨u, v, rfl, r1, r2⟩ := r.two
  obtain ⟨a, rfl, ea⟩ := r1.lstInv
  obtain ⟨b, us, rfl, ⟨n2, ho2⟩, rs2⟩ := he.at rl r2
  obtain ⟨vs, ⟨n, ho⟩, rs⟩ := rl.lst i a l ea hi
  refine nG ?_
  clear nG
  have hz : vs.toArray.size + us.toArray.size ≤ sizeLine := by rw [List.size_toArray, List.size_toArray, rs.length, rs2.length, sizeLine_eq]; (first | lia | omega)
  obtain ⟨l', e'⟩ := upd_list (f := fun xs => xs ++ us.toArray) rl ea ho (by simp) (rs.append rs2)
  exact call_meets PySem.F.slot_list_extend ⟨_, ho, rfl⟩ PySem.F.entry_list_extend (PySem.F.args_list_extend_2 _ _) (PySem.AutoSeq1.list_extend_list_list_0 a _ n b _ n2 (extend_door hz) (Nat.le_trans (Nat.le_add_right _ _) hz) (Nat.le_trans (by assumption) (nb rfl)))
    ⟨ho, ho2, p _ _ _ _ _ s.toks .none h l' e'⟩
theorem m_join_L {d : V} {l : List V} {xs : List (List Nat)} (hd : Lx μ d l) (hx : strsOf l = some xs) (hn : (xs.map List.length).sum + xs.length ≤ 1048576) (hy : y = []) (h : Q (.str xs.flatten) μ) : Op prog w C RV (fun us => call (.builtin "str.join") us) X Q [.str y, d] μ := by
  subst hy
  intro A s ρ us cx rl r P PE p pe
  refine nn fun nG => ?_
  obtain ⟨u, v, rfl, r1, r2⟩ := r.two
  obtain ⟨x', t, rfl, e⟩ := r1.strInv
  obtain ⟨a, vs, rfl, tl, rs⟩ := hd.at rl r2
  obtain ⟨ps, rfl, rfl⟩ := strs_of rs hx
  refine nG ?_
  clear nG
  have e0 : x' = ⟨#[]⟩ := cs_inj e
  subst e0
  refine PySem.SC.join tl.list rfl (joinOk_of_weight ?_ (by decide)) fun t' k => ?_
  · have : (ps.map (·.1)).map (·.length) = (ps.map (fun p => cs p.1)).map List.length := by simp [cs_len]
    rw [this]
    simpa using hn
  · have : cs (Txt.join ⟨#[]⟩ (ps.map (·.1))) = (ps.map (fun p => cs p.1)).flatten := by rw [join_flat, List.map_map]; rfl
    rw [← this] at h
    exact p.same (.str _ _) h rl
theorem m_index_L {i : V} {l : List V} {xs : List (List Nat)} (j : Nat) (hL : Lx μ i l) (hx : strsOf l = some xs) (hj : xs[j]? = some x) (hno : ∀ m < j, xs[m]? ≠ some x) (hs : j < 1000000) (h : Q (.int (j : Nat)) μ) :
    Op prog w C RV (fun us => call (.builtin "list.index") us) X Q [i, .str x] μ := m_index j hL hx hj hno hs h
/-! a chain of two -/
theorem et_cmp2 {l op1 op2 r1 r2 pos whole} (h : Ev prog w C RV env X (eval l env) loc (fun a μ₁ => Ev prog w C RV env X (eval r1 env) loc (fun b μ₂ => Op2 prog w C RV (compareOp op1) X (fun c μ₃ => ∃ t, c = .bool t ∧
      (if t then Ev prog w C RV env X (eval r2 env) loc (fun d μ₄ => Op2 prog w C RV (compareOp op2) X (fun c μ₅ => ∃ t, c = .bool t ∧ QB t μ₅) b d μ₄) μ₃ else QB false μ₃)) a b μ₂) μ₁) μ)
    (hm : lastMarks [op1, op2] [r1, r2] = false) :
    Ev prog w C REq env X (isTrue (.Compare l [op1, op2] [r1, r2] pos) env whole) loc QB μ := by
  intro A s ρ cx rl lc P PE p pe
  refine isTrue_chain (h.go cx rl lc pe fun u a μ₁ ρ₁ h₁ tk₁ ra q₁ l₁ e₁ => ?_) hm
  refine test_link (q₁.go cx l₁ (lc.mono rl e₁.grow) (pe.then e₁) fun v b μ₂ ρ₂ h₂ tk₂ rb q₂ l₂ e₂ => ?_)
  have lc₂ := (lc.mono rl e₁.grow).mono l₁ e₂.grow
  refine q₂ A _ ρ₂ u v cx l₂ (ra.mono e₂.grow bare_no) rb _ _ (fun c d μ₃ ρ₃ h₃ tk₃ rc q₃ l₃ e₃ => ?_) ((pe.then e₁).then e₂)
  refine nn fun nG => ?_
  obtain ⟨t, rfl, q⟩ := q₃
  refine nG ?_
  clear nG
  cases rc
  refine wpAny_truthy_bool ?_
  have lc₃ := lc₂.mono l₂ e₃.grow
  cases t
  · exact ((p.then e₁).then e₂) false false μ₃ ρ₃ h₃ tk₃ rfl q l₃ e₃
  · refine test_last (Ev.go (show Ev prog w C RV env X (eval r2 env) loc _ μ₃ from q) cx l₃ lc₃ (((pe.then e₁).then e₂).then e₃) fun x d μ₄ ρ₄ h₄ tk₄ rx q₄ l₄ e₄ => ?_)
    refine q₄ A _ ρ₄ v x cx l₄ ((rb.mono e₃.grow bare_no).mono e₄.grow bare_no) rx _ _ (fun c d μ₅ ρ₅ h₅ tk₅ rc q₅ l₅ e₅ => ?_) ((((pe.then e₁).then e₂).then e₃).then e₄)
    refine nn fun nG => ?_
    obtain ⟨t, rfl, q⟩ := q₅
    refine nG ?_
    clear nG
    cases rc
    exact wpAny_truthy_bool (((((p.then e₁).then e₂).then e₃).then e₄) t t μ₅ ρ₅ h₅ tk₅ rfl q l₅ e₅)
end
end Mine
end

section
set_option maxHeartbeats 1000000
open PySem PySem.W PyProof.Rows PySem.Spec PySem.Calls PySem.SeqAt
set_option Elab.async false
set_option linter.unusedVariables false
set_option linter.unusedSimpArgs false
set_option maxRecDepth 100000
namespace Mine

section
variable {prog : Program} {w : World} {C : Ctx} {X : Str → St → Prop} {env : Env} {loc : Loc} {Q : V → St → Prop} {μ : St}
theorem ErP.none {S : Addr → Prop} {s : Shared} {ρ : List Addr} {PE : Value → Shared → Prop} : ErP C S s ρ (fun _ _ => False) PE := fun _ _ _ _ _ _ x => x.elim
theorem ev_comp {elt iter : Expr} {x : Str} {px : Pos} {scope : Scope} {cl : List (Str × Addr)} {pos : Pos} (cloc : Loc)
    (hclos : closureFor scope env = pure cl) (hcell : ∀ y ∈ scope.names, y.2 ≠ .cell) (hkind : scope.kind = .function)
    (hnames : ∀ y ∈ scope.names, y.2 = .local → scope.names.lookup y.1 = some .local) (hx : scope.names.lookup x = some .local)
    (hfree : ∀ p ∈ cloc, p ∈ loc ∧ env.kindOf p.1 = some .cell ∧ (relabel scope env).names.lookup p.1 = some .cell ∧ cl.lookup p.1 = env.cells.lookup p.1 ∧ p.1 ≠ x)
    (hcl : ∀ c ∈ cl, c ∈ env.cells) (hnd : (cloc.map (·.1)).Nodup)
    (h : EvI prog w C env (.Name x px) iter loc μ (fun l M μ₁ => l.length ≤ 1000000 ∧ ∃ I : Nat → List V → St → Prop, I 0 [] (μ₁ ++ [[]]) ∧ (∀ k acc μ', I k acc μ' → M μ' ∧ μ'[μ₁.length]? = some acc) ∧
      (∀ k v acc μ' Cc, l[k]? = some v → I k acc μ' → Ev prog w C RV (compEnvC scope cl Cc env) (fun _ _ => False) (eval elt (compEnvC scope cl Cc env)) (put x v cloc) (fun u μ'' => μ''[μ₁.length]? = some acc ∧ I (k + 1) (acc ++ [u]) (μ''.set μ₁.length (acc ++ [u]))) μ') ∧
      (∀ acc μ', I l.length acc μ' → Q (.lst μ₁.length) μ')) X)
    (hs : ∀ x, foldedSetIterable iter env x = pure x) :
    Ev prog w C RV env X (eval (.ListComp elt [⟨.Name x px, iter, [], 0⟩] scope pos) env) loc Q μ := by
  intro A s ρ cx rl lc P PE p pe
  rw [eval_ListComp]
  refine wpAny_comprehension_free (use := Option.none) rfl hs hclos hkind hnames (h A s ρ cx rl lc _ _ ?_ pe)
  intro it l M W J K μ₀ ρ₀ h₀ tk₀ hI hz1 j0 l0 e0 wn
  refine nn fun nG => ?_
  obtain ⟨hsz, I, i0, iM, turn, fin⟩ := hz1
  refine nG ?_
  clear nG
  refine wpAny_newObj_type (wpAny_newFunctionEnv hcell (by intro y hy; simp at hy) (fun h₁ hns₁ hsb₁ => ?_) hkind)
  dsimp only at hns₁ hsb₁ ⊢
  have kp0 := push_keeps (h := h₀) { cls := .type "list", data := .seq ([] : List Value).toArray }
  have il0 : LstE (h₀.push { cls := .type "list", data := .seq ([] : List Value).toArray }) h₀.objs.size [] := isList_push
  have frD : h₀.get? h₀.objs.size = none := fresh_none
  obtain ⟨l1, e1⟩ := l0.alloc (l := []) kp0 frD il0 .nil
  generalize hH2 : h₀.push { cls := .type "list", data := .seq ([] : List Value).toArray } = H2 at hns₁ hsb₁ kp0 il0 l1 e1 ⊢
  have frC : H2.get? H2.objs.size = none := fresh_none
  have kp1 : ∀ b o, H2.get? b = some o → h₁.get? b = some o := fun b o e => hsb₁.extBut b o (Nat.ne_of_lt (Heap.lt_size e)) (Heap.get?_push_of_some _ e)
  have l2 := l1.keeps kp1
  have e2 : Ext no h₀ ρ₀ h₁ (ρ₀ ++ [h₀.objs.size]) := e1.trans (ext_of kp1)
  have lc0 := lc.mono rl e0.grow
  have frCs : s.heap.get? H2.objs.size = none := by
    cases q : s.heap.get? H2.objs.size with
    | none => rfl
    | some o => exact absurd frC ((e0.trans e1).live _ (by rw [q]; simp))
  have frC0 : h₀.get? H2.objs.size = none := by
    cases q : h₀.get? H2.objs.size with
    | none => rfl
    | some o => exact absurd frC (e1.live _ (by rw [q]; simp))
  show codeAny _ _ (.compStart _ 0 it (.ref h₀.objs.size) (compEnvC scope cl H2.objs.size env)) _ _
  have seC : ∀ a, SE (compEnvC scope cl H2.objs.size env) a → a = H2.objs.size ∨ SE env a := by
    rintro a (q | ⟨c, hc, q⟩)
    · exact .inl q
    · exact .inr (.inr ⟨c, hcl c hc, q⟩)
  have lc1 : Lc C (compEnvC scope cl H2.objs.size env) h₁ (ρ₀ ++ [h₀.objs.size]) cloc := by
    have lcx := lc0.mono l0 e2.grow
    refine ⟨hkind, lc.glob, lc.bult, ⟨_, hns₁⟩, fresh_h₀ l1 frC, fun c hc => lcx.cel c (hcl c hc), hnd, fun q m => ?_⟩
    refine nn fun nG => ?_
    obtain ⟨m1, k1, k2, k3, k4⟩ := hfree q m
    obtain ⟨v, hv, r⟩ := lcx.held q m1
    refine nG ?_
    clear nG
    refine ⟨v, ?_, r⟩
    rcases hv with ⟨k, _⟩ | ⟨_, c, hc, i⟩
    · rw [k1] at k; cases k
    · exact .inr ⟨.inl k2, c, by rw [← hc]; exact k3, i⟩
  have wC : ∀ {k h' ρ'}, J k h' ρ' → ∀ a, W a → ¬ SE (compEnvC scope cl H2.objs.size env) a := by
    intro k h' ρ' j a wa sa
    rcases seC a sa with rfl | sa
    · refine nn fun nG => ?_
      obtain ⟨_, o, fs, ho, _⟩ := hI.live j0 wa
      refine nG ?_
      clear nG
      rw [frC0] at ho; cases ho
    · exact lc.live sa (wn a wa)
  have j1 : J 0 h₁ (ρ₀ ++ [h₀.objs.size]) := hI.keep j0 e2 (fun a wa q => q) bare_no
  have loop : codeAny (model prog w) A (.compLoop (.ListComp elt [⟨.Name x px, iter, [], 0⟩] scope pos) 0 it (.ref h₀.objs.size) (compEnvC scope cl H2.objs.size env))
      (compPost (model prog w) A PE Option.none P (.ref h₀.objs.size) H2.objs.size) { s with heap := h₁, toks := tk₀ + ([] : List (Str × Value)).length } := by
    refine codeAny_compLoop_list (fun n s' => ∃ k acc μ' ρ' h' tk', s' = { s with heap := h', toks := tk' } ∧ k ≤ l.length ∧ n = l.length - k ∧ acc.length = k ∧ I k acc μ' ∧ J k h' ρ' ∧ Rl C h' ρ' μ' ∧ Lc C (compEnvC scope cl H2.objs.size env) h' ρ' cloc ∧
      ρ'[μ₀.length]? = some h₀.objs.size ∧ Ext (fun a => (W a ∨ a = H2.objs.size) ∨ no a) s.heap ρ h' ρ') ?_ (l.length - 0) ?_
    · intro n _ hz2
      refine nn fun nG => ?_
      obtain ⟨k, acc, μ', ρ', h', tk', rfl, hk, rfl, ha, hi, hj, rl', lc', hD, e'⟩ := hz2
      refine nG ?_
      clear nG
      have bW : Bare W h' := hI.bare hj
      obtain ⟨hM, hacc⟩ := iM _ _ _ hi
      cases hv : l[k]? with
      | none =>
        have hkk : k = l.length := Nat.le_antisymm hk (List.getElem?_eq_none_iff.mp hv)
        subst hkk
        refine hI.stop (s := ⟨h', _, _, _, _⟩) hv cx rl' hM hj fun h₂ tk₂ l₂ k₂ => ?_
        have lc₂ := lc'.kp k₂ bW (wC hj)
        obtain ⟨m, hn⟩ : ∃ m, h₂.Ns H2.objs.size m := lc₂.ns
        refine ⟨m, hn, fun h₃ sb => ?_⟩
        have bC : Bare (· = H2.objs.size) h₂ := by
          rintro a o rfl ho xs n hd
          refine nn fun nG => ?_
          obtain ⟨o', es, ep, ho', hd', _⟩ := hn
          refine nG ?_
          clear nG
          rw [ho] at ho'; cases ho'; rw [hd] at hd'; cases hd'
        have l₃ := l₂.kp (sb_kp sb) bC (by rintro _ rfl; exact fresh_h₀ l1 frC) (fun env' m' L hL q => by
          refine nn fun nG => ?_
          obtain ⟨_, L', mm, q1, _, o, _, _, ho, _⟩ := rl.frm env' m'
          refine nG ?_
          clear nG
          rw [hL] at q1; cases q1
          rw [q, frCs] at ho; cases ho)
        refine p _ _ μ' ρ' h₃ tk₂ (.lst hD) (fin acc μ' hi) l₃ ?_
        refine e'.over (fun b o q e => ?_) ?_
        · have q1 := k₂ b o (fun z => q (.inl z)) e
          exact (sb.2 b fun z => q (.inr z)).trans q1
        · rintro a (q | rfl)
          · exact wn a q
          · exact frCs
      | some v =>
        have hkk : k < l.length := (List.getElem?_eq_some_iff.mp hv).1
        refine hI.step (s := ⟨h', _, _, _, _⟩) hv cx rl' hM hj fun u h₂ tk₂ r₂ K₂ l₂ e₂ => ?_
        have j₂ := hI.named ⟨_, _, rfl⟩ K₂
        have lc₂ := lc'.ext rl' e₂ bW (wC hj)
        refine PyProof.Rows.assign_Name (store_own (s := ⟨h₂, _, _, _, _⟩) l₂ lc₂ (lookup_relabel_local hx) r₂ fun h₃ tk₃ l₃ lc₃ e₃ => ?_)
        have bC : Bare (fun a => a = (compEnvC scope cl H2.objs.size env).locals) h₂ := fun a o q => lc₂.bare a o (.inl q)
        have j₃ := hI.keep j₂ e₃ (fun a wa q => wC j₂ a wa (.inl q)) bC
        refine (turn k v acc μ' H2.objs.size hv hi).go cx l₃ lc₃ ErP.none fun y d μ₄ ρ₄ h₄ tk₄ r₄ q₄ l₄ e₄ => ?_
        obtain ⟨hacc₄, hi₄⟩ := q₄
        have j₄ := hI.keep j₃ e₄ (fun _ _ q => q) bare_no
        have lc₄ := lc₃.mono l₃ e₄.grow
        have hD₄ : ρ₄[μ₀.length]? = some h₀.objs.size := e₄.grow.mem hD
        refine (m_append (Q := fun _ μ' => μ' = μ₄.set μ₀.length (acc ++ [d])) (X := fun _ _ => False) hacc₄ (by (first | lia | omega)) rfl).go (s := ⟨h₄, _, _, _, _⟩) cx l₄ (.cons (.lst hD₄) (.cons r₄ .nil)) ErP.none fun _ _ μ₅ ρ₅ h₅ tk₅ _ q₅ l₅ e₅ => ?_
        subst q₅
        refine ⟨l.length - (k + 1), by (first | lia | omega), k + 1, acc ++ [d], _, ρ₅, h₅, tk₅, rfl, hkk, rfl, by simp [ha], hi₄, hI.keep j₄ e₅ (fun _ _ q => q) bare_no, l₅, ?_, e₅.grow.mem hD₄, ?_⟩
        · refine (lc₄.mono l₄ e₅.grow).sub ⟨hnd, fun q m => put_old m (hfree q m).2.2.2.2⟩
        · have f : Ext (fun a => (W a ∨ a = H2.objs.size) ∨ no a) h' ρ' h₅ ρ₅ := by
            exact (((e₂.weak fun _ q => .inl (.inl q)).trans (e₃.weak fun _ q => .inl (.inr q))).trans e₄.up).trans e₅.up
          exact e'.trans f
    · exact ⟨0, [], _, _, h₁, _, rfl, Nat.zero_le _, rfl, rfl, i0, j1, l2, lc1, by rw [← l0.len]; simp, (e0.trans e2).up⟩
  exact codeAny_compStart_list loop (hI.self j1 loop)
theorem ev_map {elt iter : Expr} {x : Str} {px : Pos} {scope : Scope} {pos : Pos} (f : V → V)
    (hfree : ∀ y ∈ scope.names, y.2 ≠ .free) (hcell : ∀ y ∈ scope.names, y.2 ≠ .cell) (hkind : scope.kind = .function)
    (hnames : ∀ y ∈ scope.names, y.2 = .local → scope.names.lookup y.1 = some .local) (hx : scope.names.lookup x = some .local)
    (h : EvI prog w C env (.Name x px) iter loc μ (fun l M μ₁ => l.length ≤ 1000000 ∧ (∀ acc, M (μ₁ ++ [acc])) ∧
      (∀ (k : Nat) (v : V) (μ' : St) (Cc : Addr), l[k]? = some v → Ev prog w C RV (compEnvC scope [] Cc env) (fun _ _ => False) (eval elt (compEnvC scope [] Cc env)) [(x, v)] (fun u μ'' => u = f v ∧ μ'' = μ') μ') ∧
      Q (.lst μ₁.length) (μ₁ ++ [l.map f])) X)
    (hs : ∀ x, foldedSetIterable iter env x = pure x) :
    Ev prog w C RV env X (eval (.ListComp elt [⟨.Name x px, iter, [], 0⟩] scope pos) env) loc Q μ := by
  refine ev_comp [] (closureFor_none hfree) hcell hkind hnames hx (fun p m => nomatch m) (fun c m => nomatch m) (by simp) ?_ hs
  intro A s ρ cx rl lc P PE p pe
  refine h A s ρ cx rl lc P PE (fun it l M W J K μ' ρ' h' tk hI hq => p it l M W J K μ' ρ' h' tk hI ?_) pe
  refine nn fun nG => ?_
  obtain ⟨h1, h2, h3, h4⟩ := hq
  refine nG ?_
  clear nG
  refine ⟨h1, fun k acc μ'' => acc = (l.take k).map f ∧ μ'' = μ' ++ [acc], ⟨by simp, rfl⟩, ?_, ?_, ?_⟩
  · rintro k acc _ ⟨e1, rfl⟩
    exact ⟨h2 _, by simp⟩
  · rintro k v acc _ Cc hv ⟨e1, rfl⟩
    refine (h3 k v _ Cc hv).mono ?_ fun _ _ q => q
    rintro u _ ⟨rfl, rfl⟩
    refine ⟨by simp, ?_, by simp⟩
    rw [e1]
    have : l.take (k + 1) = l.take k ++ [v] := by
      rw [List.take_succ, hv]; rfl
    rw [this]; simp
  · rintro acc _ ⟨rfl, rfl⟩
    rw [List.take_length]; exact h4
theorem ev_and3 {x y z pos} (h : Ev prog w C RV env X (eval x env) loc (fun v μ₁ => ∃ t, v = .bool t ∧ (if t then Ev prog w C RV env X (eval (.BoolOp .And [y, z] pos) env) loc Q μ₁ else Q (.bool false) μ₁)) μ) : Ev prog w C RV env X (eval (.BoolOp .And [x, y, z] pos) env) loc Q μ := by
  intro A s ρ cx rl lc P PE p pe
  show wpAny _ A (do
    let v ← eval x env
    standAt pos
    let t ← holding [v] (truthy v)
    match BoolOp.And, t with
    | .And, false | .Or, true => pure v
    | _, _ => eval (.BoolOp .And [y, z] pos) env) P PE s
  refine wpAny_bind (h.go cx rl lc pe fun u a μ₁ ρ₁ h₁ tk₁ r₁ q₁ l₁ e₁ => ?_)
  refine nn fun nG => ?_
  obtain ⟨t, rfl, q⟩ := q₁
  refine nG ?_
  clear nG
  cases r₁
  refine wpAny_bind (wpAny_standAt (wpAny_bind (wpAny_holding (wpAny_truthy_bool ?_))))
  cases t
  · exact wpAny_pure (p _ _ μ₁ ρ₁ h₁ tk₁ (.bool _) q l₁ e₁)
  · exact Ev.go (show Ev prog w C RV env X (eval (.BoolOp .And [y, z] pos) env) loc Q μ₁ from q) cx l₁ (lc.mono rl e₁.grow) (pe.then e₁) (p.then e₁)
/-- a value told ahead, the rest once -/
theorem Ev.is {t : Sem Value} (v : V) (h : Ev prog w C RV env X t loc (fun u μ' => u = v ∧ μ' = μ) μ) (q : Q v μ) : Ev prog w C RV env X t loc Q μ :=
  h.mono (fun _ _ ⟨e1, e2⟩ => e1 ▸ e2 ▸ q) fun _ _ x => x
theorem Ev.isB {t : Sem Bool} {QB : Bool → St → Prop} (v : Bool) (h : Ev prog w C REq env X t loc (fun u μ' => u = v ∧ μ' = μ) μ) (q : QB v μ) : Ev prog w C REq env X t loc QB μ :=
  h.mono (fun _ _ ⟨e1, e2⟩ => e1 ▸ e2 ▸ q) fun _ _ x => x
theorem ev_gstr {x : Str} {pos} {y : Str} {t : Tok} (g : nsIn C.K mainGlobals x = some (some (.str y t))) (h : Q (.str (cs y)) μ) (hk : env.kindOf x = some .globalImplicit) (hd : (x == ("__debug__" : Str)) = false) :
    Ev prog w C RV env X (eval (.Name x pos) env) loc Q μ := ev_glob g (fun _ _ _ _ _ => .str _ _) h hk hd
theorem ev_gint {x : Str} {pos} {i : Int} {t : Tok} (g : nsIn C.K mainGlobals x = some (some (.int i t))) (h : Q (.int i) μ) (hk : env.kindOf x = some .globalImplicit) (hd : (x == ("__debug__" : Str)) = false) :
    Ev prog w C RV env X (eval (.Name x pos) env) loc Q μ := ev_glob g (fun _ _ _ _ _ => .int _ _) h hk hd
theorem ev_gfro {x : Str} {pos} {a : Addr} {vs : List Value} {n : Nat} {xs : List V} (g : nsIn C.K mainGlobals x = some (some (.ref a))) (ho : C.K.lookup a = some { cls := .type "list", data := .seq vs.toArray n }) (hv : ∀ h ρ, RVs h ρ vs xs)
    (h : Q (.fro xs) μ) (hk : env.kindOf x = some .globalImplicit) (hd : (x == ("__debug__" : Str)) = false) :
    Ev prog w C RV env X (eval (.Name x pos) env) loc Q μ :=
  ev_glob g (fun h ρ X hn X0 => .fro ⟨n, X _ _ ho⟩ (fun m => by have := hn _ m; rw [X0 _ _ ho] at this; cases this) (hv h ρ)) h hk hd
end
end Mine
end

section
set_option maxHeartbeats 1000000
open PySem PySem.W PyProof.Rows PySem.Spec PySem.Calls PySem.SeqAt
set_option Elab.async false
set_option linter.unusedVariables false
set_option maxRecDepth 100000
namespace Mine
/-! ## names and constants read in one step -/
noncomputable def lk (x : Str) : Loc → Option V
  | [] => none
  | (y, v) :: r => if y = x then some v else lk x r
theorem lk_mem {x : Str} {v : V} : ∀ {l : Loc}, lk x l = some v → (x, v) ∈ l
  | [], h => by cases h
  | (y, u) :: r, h => by
    unfold lk at h
    split at h
    · rename_i e; cases h; rw [e]; exact .head _
    · exact .tail _ (lk_mem h)
noncomputable def nodupB : List Str → Bool
  | [] => true
  | x :: r => !(r.any (· == x)) && nodupB r
theorem nodupB_nd : ∀ {l : List Str}, nodupB l = true → l.Nodup
  | [], _ => .nil
  | x :: r, h => by
    unfold nodupB at h
    have h2 := Bool.and_eq_true_iff.mp h
    refine List.nodup_cons.mpr ⟨fun m => ?_, nodupB_nd h2.2⟩
    have q : (r.any fun y => y == x) = true := List.any_eq_true.mpr ⟨x, m, beq_self_eq_true x⟩
    rw [q] at h2; cases h2.1
theorem sub_lk {l' l : Loc} (h : nodupB (l'.map (·.1)) = true) (h2 : l'.map (fun p => lk p.1 l) = l'.map (fun p => some p.2)) : Sub l' l :=
  ⟨nodupB_nd h, fun p m => lk_mem (List.map_inj_left.mp h2 p m)⟩
noncomputable def sv (loc : Loc) : Expr → Option V
  | .Name x _ => if x = ("__debug__" : Str) then none else lk x loc
  | .Constant (.int i) _ _ => some (.int i)
  | .Constant (.str x) _ _ => some (.str (cs x))
  | .Constant (.bool b) _ _ => some (.bool b)
  | _ => none
noncomputable def svs (loc : Loc) : List Expr → Option (List V)
  | [] => some []
  | e :: r => match sv loc e with
    | none => none
    | some v => match svs loc r with
      | none => none
      | some vs => some (v :: vs)
section
variable {prog : Program} {w : World} {C : Ctx} {X : Str → St → Prop} {env : Env} {loc : Loc} {Q : V → St → Prop} {QL : List V → St → Prop} {QB : Bool → St → Prop} {μ : St}
theorem ev_sv {e : Expr} {v : V} (h : sv loc e = some v) (q : Q v μ) : Ev prog w C RV env X (eval e env) loc Q μ := by
  unfold sv at h
  split at h
  · split at h
    · cases h
    · rename_i hd; exact ev_loc (lk_mem h) q (beq_eq_false_iff_ne.mpr hd)
  · cases h; exact ev_int q
  · cases h; exact ev_str q
  · cases h; exact ev_bool q
  · cases h
theorem ex_q {t : Sem Flow} {Q : FV → Loc → St → Prop} (h : ∀ Q' : FV → Loc → St → Prop, (∀ F l m, Q F l m → Q' F l m) → Ex prog w C env t X Q' loc μ) : Ex prog w C env t X Q loc μ := h Q fun _ _ _ h => h
theorem sv_star {e : Expr} {v : V} (h : sv loc e = some v) (rest : List Expr) : starEach (e :: rest) env = (false, eval e env) :: starEach rest env := by
  unfold sv at h
  split at h
  · rfl
  · rfl
  · rfl
  · rfl
  · cases h
theorem args_sv {pos : Pos} : ∀ {es : List Expr} {vs : List V} {QL : List V → St → Prop}, svs loc es = some vs → QL vs μ → Ev prog w C RVs env X (spliced (backTo pos (starEach es env))) loc QL μ
  | [], vs, QL, h, q => by cases h; exact args_nil' q
  | e :: r, vs, QL, h, q => by
    unfold svs at h
    split at h
    · cases h
    · rename_i v hv
      split at h
      · cases h
      · rename_i us hu
        cases h
        exact args_cons' (ev_sv hv (args_sv (QL := fun vs μ₂ => QL (v :: vs) μ₂) hu q)) (sv_star hv r)
theorem ev_binop_r {l op r pos} {b : V} (hb : sv loc r = some b) (h : Ev prog w C RV env X (eval l env) loc (fun a μ₁ => Op2 prog w C RV (binaryOp op) X Q a b μ₁) μ) :
    Ev prog w C RV env X (eval (.BinOp l op r pos) env) loc Q μ := ev_binop (h.mono (fun _ _ q => ev_sv hb q) fun _ _ x => x)
theorem ev_cmp_r {l op r pos} {b : V} (hb : sv loc r = some b) (h : Ev prog w C RV env X (eval l env) loc (fun a μ₁ => Op2 prog w C RV (compareOp op) X Q a b μ₁) μ) (hm : behindInMarks op r = false) :
    Ev prog w C RV env X (eval (.Compare l [op] [r] pos) env) loc Q μ := ev_cmp (h.mono (fun _ _ q => ev_sv hb q) fun _ _ x => x) hm
theorem et_cmp_r {l op r pos whole} {b : V} (hb : sv loc r = some b) (h : Ev prog w C RV env X (eval l env) loc (fun a μ₁ => Op2 prog w C RV (compareOp op) X (fun c μ₃ => ∃ t, c = .bool t ∧ QB t μ₃) a b μ₁) μ) (hm : behindInMarks op r = false) :
    Ev prog w C REq env X (isTrue (.Compare l [op] [r] pos) env whole) loc QB μ := et_cmp (h.mono (fun _ _ q => ev_sv hb q) fun _ _ x => x) hm
theorem ev_sub_r {value slice : Expr} {pos} {b : V} (hb : sv loc slice = some b) (h : Ev prog w C RV env X (eval value env) loc (fun v μ₁ => Op2 prog w C RV (subscriptTail value slice) X Q v b μ₁) μ) :
    Ev prog w C RV env X (eval (.Subscript value slice pos) env) loc Q μ := ev_sub (h.mono (fun _ _ q => ev_sv hb q) fun _ _ x => x)
theorem bool_ex {P : Bool → Prop} {b : Bool} (h : P b) : ∃ t, V.bool b = V.bool t ∧ P t := ⟨b, rfl, h⟩
end
end Mine
end

section
set_option maxHeartbeats 1000000
open PySem PySem.W PyProof.Rows PySem.Spec PySem.Calls PySem.SeqAt
set_option Elab.async false
set_option linter.unusedVariables false
set_option maxRecDepth 100000
namespace Mine
noncomputable abbrev PR := PySem.Challenge.rw_nz0571_01.row.prog
noncomputable def mapS (f : List Nat → V) : V → V
  | .str x => f x
  | v => v
/-! ## the functions, in plain Lean, on codes -/
noncomputable def gs (c : Nat) : Nat := if 97 ≤ c ∧ c ≤ 122 then c - 32 else c
noncomputable def great (t : List Nat) : List Nat := t.map gs
noncomputable def WRS : List Str := (["END", "FOR", "NEXT", "DATA", "INPUT", "DIM", "READ", "LET", "GOTO", "RUN", "IF", "RESTORE", "GOSUB", "RETURN", "REM", "STOP", "ON", "PRINT", "LIST", "DELETE", "RENUM", "NEW", "CONT", "TO", "THEN", "ELSE", "STEP", "AND", "OR", "NOT", "MOD", "TAB", "SGN", "ABS", "LEN", "STR$", "VAL", "ASC", "CHR$", "LEFT$", "RIGHT$", "MID$", "RND", "INSTR"] : List String).map Str.ofString
noncomputable def SGS : List Str := (["<=", ">=", "<>", "(", ")", ",", ";", ":", "=", "<", ">", "+", "-", "*", "/", "^", "#"] : List String).map Str.ofString
noncomputable def WRD : List (List Nat) := WRS.map cs
noncomputable def SGN : List (List Nat) := SGS.map cs
noncomputable def slc (t : List Nat) (a b : Nat) : List Nat := (t.take b).drop a
noncomputable def wordStep (t : List Nat) (at' : Nat) (f w : List Nat) : List Nat := if f.length < w.length ∧ slc t at' (at' + w.length) = w then w else f
noncomputable def wordAt (t : List Nat) (at' : Nat) : List Nat := WRD.foldl (wordStep t at') []
noncomputable def signAt (t : List Nat) (at' : Nat) : List Nat := (SGN.find? fun s => slc t at' (at' + s.length) == s).getD []
noncomputable def upTo (p : Nat → Bool) : Nat → Nat → Nat
  | a, 0 => a
  | a, n + 1 => if p a then upTo p (a + 1) n else a
/-- as long as a sign stands and meets p -/
noncomputable def adv (t : List Nat) (p : Nat → Bool) (a : Nat) : Nat := upTo p a (t.length - a)
noncomputable def nth (t : List Nat) (i : Nat) : Nat := t.getD i 0
noncomputable def BL : List Nat := cs " \t"
noncomputable def DG : List Nat := cs "0123456789"
noncomputable def LT : List Nat := cs "ABCDEFGHIJKLMNOPQRSTUVWXYZ"
noncomputable def bb (t : List Nat) (a : Nat) : Nat := adv t (fun i => decide (nth t i ∈ BL)) a
noncomputable def readName (t : List Nat) (a : Nat) : List Nat × Nat :=
  let e := adv t (fun i => decide (nth t i ∈ LT ++ DG) && wordAt t i == []) (a + 1)
  let e' := if slc t e (e + 1) = cs "$" then e + 1 else e
  (slc t a e', e')
noncomputable def readQuoted (t : List Nat) (a : Nat) : List Nat × Nat :=
  let e := ixOf 34 t (a + 1)
  if e < 0 then (t.drop (a + 1), t.length) else (slc t (a + 1) e.toNat, e.toNat + 1)
theorem upTo_le (p : Nat → Bool) : ∀ n a, a ≤ upTo p a n ∧ upTo p a n ≤ a + n
  | 0, a => by simp [upTo]
  | n + 1, a => by
    unfold upTo
    split
    · have := upTo_le p n (a + 1); (first | lia | omega)
    · (first | lia | omega)
theorem adv_le (t : List Nat) (p : Nat → Bool) (a : Nat) (h : a ≤ t.length) : a ≤ adv t p a ∧ adv t p a ≤ t.length := by
  have := upTo_le p (t.length - a) a
  unfold adv; (first | lia | omega)
theorem adv_stop {t : List Nat} {p : Nat → Bool} {a : Nat} (h : t.length ≤ a ∨ p a = false) : adv t p a = a := by
  unfold adv
  rcases h with h | h
  · rw [show t.length - a = 0 by (first | lia | omega)]; rfl
  · cases t.length - a with
    | zero => rfl
    | succ n => unfold upTo; rw [h]; rfl
theorem adv_go {t : List Nat} {p : Nat → Bool} {a : Nat} (h1 : a < t.length) (h2 : p a = true) : adv t p a = adv t p (a + 1) := by
  unfold adv
  obtain ⟨n, hn⟩ : ∃ n, t.length - a = n + 1 := ⟨t.length - a - 1, by (first | lia | omega)⟩
  rw [hn, show t.length - (a + 1) = n by (first | lia | omega)]
  conv => lhs; unfold upTo
  rw [h2]; rfl
theorem ite_dec {c : Prop} [Decidable c] {a b : Prop} (h1 : c → a) (h2 : ¬ c → b) : if decide c = true then a else b := by
  by_cases h : c
  · rw [if_pos (decide_eq_true h)]; exact h1 h
  · rw [if_neg (by simpa using h)]; exact h2 h
theorem ite_ndec {c : Prop} [Decidable c] {a b : Prop} (h1 : ¬ c → a) (h2 : c → b) : if (!decide c) = true then a else b := by
  by_cases h : c
  · rw [if_neg (by simpa using h)]; exact h2 h
  · rw [if_pos (by simpa using h)]; exact h1 h
theorem ite_b {c : Bool} {a b : Prop} (h1 : c = true → a) (h2 : c = false → b) : if c = true then a else b := by
  cases c
  · exact h2 rfl
  · exact h1 rfl
theorem ite_tt {a b : Prop} (h : a) : if true = true then a else b := by rw [if_pos rfl]; exact h
theorem ite_ff {a b : Prop} (h : b) : if false = true then a else b := by rw [if_neg (by decide)]; exact h
theorem lt_one {a b : Nat} : ([a] : List Nat) < [b] ↔ a < b := by simp [List.cons_lt_cons_iff]
theorem nth_get {t : List Nat} {i : Nat} (h : i < t.length) : t[i]? = some (nth t i) := by
  unfold nth; rw [List.getD_eq_getElem?_getD, List.getElem?_eq_getElem h]; rfl
inductive TK where
  | num (n : Nat) | word (x : List Nat) | name (x : List Nat) | text (x : List Nat) | raw (x : List Nat) | sign (x : List Nat)
deriving DecidableEq
noncomputable def TK.kind : TK → List Nat
  | .num _ => cs "number" | .word _ => cs "word" | .name _ => cs "name" | .text _ => cs "text" | .raw _ => cs "raw" | .sign _ => cs "sign"
noncomputable def TK.val : TK → V
  | .num n => .int n
  | .word x => .str x | .name x => .str x | .text x => .str x | .raw x => .str x | .sign x => .str x
noncomputable def TK.v (t : TK) : V := .tup [.str t.kind, t.val]
noncomputable def isPlain (t : List Nat) : Bool := t != [] && !decide (nth t 0 ∈ BL ++ [34]) && !decide (t.getLastD 0 ∈ BL)
noncomputable def itemText (t : List Nat) : List Nat := if t = [] ∨ (isPlain t = true ∧ 44 ∉ t ∧ 58 ∉ t) then t else 34 :: (t ++ [34])
noncomputable def dec (n : Nat) : List Nat := cs (toString (n : Int) : String)
noncomputable def tokenText (t : TK) (ahead : List Nat) : List Nat := match t with
  | .num n => dec n
  | .text x => 34 :: (x ++ [34])
  | .raw x => if ahead = cs "DATA" then itemText x else x
  | .word x => x | .name x => x | .sign x => x
noncomputable def needsBlank (a b : TK) : Bool := (match a with | .num _ => true | .word x => x != cs "(" | .name x => x != cs "(" | .text x => x != cs "(" | .raw x => x != cs "(" | .sign x => x != cs "(") &&
  !(match b with | .sign x => [cs "(", cs ")", cs ",", cs ";", cs ":"].contains x | _ => false)
end Mine
end

section
set_option maxHeartbeats 1000000
open PySem PySem.W PyProof.Rows PySem.Spec PySem.Calls PySem.SeqAt
set_option Elab.async false
set_option linter.unusedVariables false
set_option linter.unusedSimpArgs false
set_option maxRecDepth 100000
namespace Mine

/-! ## the file's own exception -/
noncomputable def bEB : List Value := [.type "Exception", .type "BaseException", .type "object"]
/-- what the written part says of the class at 33 -/
structure BE (K : Frag) : Prop where
  cls : ∃ nm q bs sn sub ab col dd k0 k1 k2 k3 k5, K.lookup 33 = some (excClassObj nm q 33 32 bs bEB true sn sub ab col dd k0 k1 k2 k3 k5 "Exception.__new__")
  ok : nsOkIn K 32 = true
  init : nsIn K 32 "__init__" = some (some (.ref 30))
  kind : nsIn K 32 "kind" = some none
  sa : nsIn K 32 "__setattr__" = some none
  ga : nsIn K 32 "__getattribute__" = some none
  gh : nsIn K 32 "__getattr__" = some none
  fn : ∃ od params sc dV kV doc pm an ct osl p1 p2 p3 p4 p5, K.lookup 30 = some ⟨.type "function", od, .func (fnOf "__init__" "BasicError.__init__" params [.Assign [.Attribute (.Name "self" p1) "kind" p2] (.Name "kind" p3) p4] sc dV kV doc pm an (.ref 29) ct), osl⟩ ∧
    (∀ a b : Value, bindArgs (fnOf "__init__" "BasicError.__init__" params [.Assign [.Attribute (.Name "self" p1) "kind" p2] (.Name "kind" p3) p4] sc dV kV doc pm an (.ref 29) ct) ⟨[a, b], []⟩ = pure [(("self" : Str), a), (("kind" : Str), b)]) ∧
    sc = { kind := .function, names := [("self", .local), ("kind", .local)], isGenerator := false, isCoroutine := false, more := p5 }
  code : codeIn K (.ref 29) "BasicError.__init__" = true
  name : nsIn K mainGlobals "BasicError" = some (some (.ref 33))
theorem ns_some_of {K : Frag} {h : Heap} {N : Addr} {mg : Str → Option Value} {n : Str} {v : Value} (X : K.In h) (G : h.Ns N mg) (e : nsIn K N n = some (some v)) : mg n = some v := by
  refine nn fun nG => ?_
  obtain ⟨o, es, ep, ho, hd, _, hf⟩ := G
  refine nG ?_
  clear nG
  unfold nsIn at e
  split at e
  · rename_i c d es' n' sl q
    have := X _ _ q
    rw [ho] at this
    cases this
    cases hd
    split at e
    · rename_i en he
      cases e
      rw [← hf]
      unfold nsFind findBy
      rw [← Array.find?_toList, he]
      rfl
    · split at e <;> cases e
  · cases e
theorem F_kind : typeLookup (.type "Exception") "kind" = pure none := by rw [typeLookup_type, builtinLookup_eq_fast]; kernel_rfl

section
variable {prog : Program} {w : World} {A : Around} {h : Heap} {g : Array GenState} {d : Drawn} {t : Nat} {os : OsState}
variable {nm q : Str} {C N : Addr} {bs bm : List Value} {hdct : Bool} {sn : List Str} {sub : List Value} {ab : Bool} {col : Option Bool} {dd : Option Addr} {k0 k1 k2 k3 k5 : Option Value} {B newId initId : String}

theorem type_call_init (F : ExcBaseFacts B newId initId bm) {mN : Str → Option Value} {rest : List Value} {f : Addr} {of : Obj} {Q : Fin → Shared → Prop} {E : Value → Shared → Prop}
    (hC : h.get? C = some (excClassObj nm q C N bs bm hdct sn sub ab col dd k0 k1 k2 k3 k5 newId)) (hn : h.Ns N mN) (hni : mN "__init__" = some (.ref f)) (hf : h.get? f = some of) (hfc : of.cls = .type "function")
    (hq : wpAny (model prog w) A (call (.ref f) (.ref (h.objs.size + 1) :: rest)) (fun v s' => v = .none ∧ Q (.done (.ret (.ref (h.objs.size + 1)))) s') E
      ⟨(h.push { cls := .type "tuple", data := .seq rest.toArray }).push { cls := .ref C, data := .fields #[.ref h.objs.size, .none, .none, .none, .bool false, .none] }, g, d, t, os⟩)
    (hrest : rest.length ≤ sizeLine) :
    wpAny (model prog w) A (Builtin.«type.__call__» ⟨.ref C :: rest, []⟩) Q E ⟨h, g, d, t, os⟩ := by
  repeat (first | with_reducible refine wpAny_loadPart_at hC ?_ | with_reducible refine wpAny_madeBy_exc hC ?_ | wp_step)
  refine codeAny_call_builtin_code (Code.quiet_builtin _ F.quiet) (wpAny_check_new_sub F hC ?_)
  refine codeAny_exc_new_sub F hC ?_ hrest
  show wpAny _ _ _ _ _ _
  have hC₁ := Heap.get?_push_of_some { cls := .ref C, data := .fields #[.ref h.objs.size, .none, .none, .none, .bool false, .none] }
    (Heap.get?_push_of_some { cls := .type "tuple", data := .seq rest.toArray } hC)
  have hf₁ := Heap.get?_push_of_some { cls := .ref C, data := .fields #[.ref h.objs.size, .none, .none, .none, .bool false, .none] }
    (Heap.get?_push_of_some { cls := .type "tuple", data := .seq rest.toArray } hf)
  have hn₁ : ((h.push { cls := .type "tuple", data := .seq rest.toArray }).push { cls := .ref C, data := .fields #[.ref h.objs.size, .none, .none, .none, .bool false, .none] }).Ns N mN :=
    let ⟨o, es, ep, e, r⟩ := hn; ⟨o, es, ep, Heap.get?_push_of_some _ (Heap.get?_push_of_some _ e), r⟩
  have hget : ((h.push { cls := .type "tuple", data := .seq rest.toArray }).push
      { cls := .ref C, data := .fields #[.ref h.objs.size, .none, .none, .none, .bool false, .none] }).get? (h.objs.size + 1) = some
      { cls := .ref C, data := .fields #[.ref h.objs.size, .none, .none, .none, .bool false, .none] } := by heap_get
  have hcC : (Value.ref C :: bm).contains (.ref C) = true := by simp
  unfold isInstance
  repeat (first | with_reducible refine wpAny_loadPart_at hget ?_ | (with_reducible refine wpAny_isSubtype_exc hC₁ ?_; rw [hcC]) | wp_step)
  show wpAny _ _ (typeLookup (.ref C) _) _ _ _
  refine wpAny_typeLookup_exc hC₁ hn₁ F.mroIs F.init.lookup ?_
  rw [hni]
  dsimp only
  refine wpAny_holding (wpAny_bind (wpAny_bindSpecial_def (s := ⟨_, g, d, t, os⟩) hf₁ hfc ?_))
  refine wpAny_bind (wpAny_mono hq (fun v s' hv => ?_) fun _ _ x => x)
  obtain ⟨rfl, hv⟩ := hv
  refine wpAny_pure ?_
  dsimp only
  rw [if_neg (by decide)]
  exact wpAny_pure hv

theorem call_exc_init (F : ExcBaseFacts B newId initId bm) {mN : Str → Option Value} {rest : List Value} {f : Addr} {of : Obj} {Q : Value → Shared → Prop} {E : Value → Shared → Prop}
    (hC : h.get? C = some (excClassObj nm q C N bs bm hdct sn sub ab col dd k0 k1 k2 k3 k5 newId)) (hn : h.Ns N mN) (hni : mN "__init__" = some (.ref f)) (hf : h.get? f = some of) (hfc : of.cls = .type "function")
    (hq : wpAny (model prog w) (A.under (.builtin "type.__call__" ⟨.ref C :: rest, []⟩)) (call (.ref f) (.ref (h.objs.size + 1) :: rest)) (fun v s' => v = .none ∧ Q (.ref (h.objs.size + 1)) s') E
      ⟨(h.push { cls := .type "tuple", data := .seq rest.toArray }).push { cls := .ref C, data := .fields #[.ref h.objs.size, .none, .none, .none, .bool false, .none] }, g, d, t, os⟩)
    (hrest : rest.length ≤ sizeLine) :
    wpAny (model prog w) A (call (.ref C) rest) Q E ⟨h, g, d, t, os⟩ := by
  have f1 := tc_lookup
  have f2 := tc_bind (.ref C)
  have hT : (⟨h, g, d, t, os⟩ : Shared).TypeIs (.ref C) "type" := ⟨_, hC, rfl⟩
  refine wpAny_call (codeAny_of_tree ?_)
  show wpAny _ _ (callAny (.ref C) _) _ _ _
  repeat (any_goals (first | assumption | with_reducible refine wpAny_loadPart_at hC ?_ | wp_step))
  refine ⟨rfl, ?_⟩
  refine codeAny_call_builtin_at (Code.quiet_builtin _ (by decide +kernel)) entry_typeCall (wpAny_check_type_call_sub hC (type_call_init F hC hn hni hf hfc ?_ hrest))
  exact hq
end

/-- a new exception of the class at 33, its kind stored -/
structure NewE (h h' : Heap) (e : Addr) (k : Str) : Prop where
  keeps : ∀ b o, h.get? b = some o → h'.get? b = some o
  new : h.get? e = none
  there : ∃ oe t0 d m t, h'.get? e = some oe ∧ oe.cls = .ref 33 ∧ oe.data = .fields #[.ref t0, .none, .none, .none, .bool false, .none] ∧ oe.dict = some d ∧ h'.Ns d m ∧ m "kind" = some (.str k t)
section
variable {prog : Program} {w : World} {C : Ctx} {A : Around} {E : Value → Shared → Prop} {s : Shared} {ρ : List Addr} {Q : Value → Shared → Prop} {k : Str} {t : Tok} {μ : St}
theorem make_exc (B : BE C.K) (hn1 : 1 ≤ C.n) (cx : Cx C A) (rl : Rl C s.heap ρ μ) (hq : ∀ h' tk e, NewE s.heap h' e k → Q (.ref e) { s with heap := h', toks := tk }) : wpAny (model prog w) A (call (.ref 33) [.str k t]) Q E s := by
  refine nn fun nG => ?_
  obtain ⟨nm, q, bs, sn, sub, ab, col, dd, k0, k1, k2, k3, k5, hC⟩ := B.cls
  obtain ⟨od, params, sc, dV, kV, doc, pm, an, ct, osl, p1, p2, p3, p4, p5, hf, hb, rfl⟩ := B.fn
  have X : C.K.In s.heap := fun a o e => rl.stay _ _ (cx.kin a o e)
  obtain ⟨_, _, _, _, _, T⟩ := cx.top
  obtain ⟨hp, g, d, tk, os⟩ := s
  refine nG ?_
  clear nG
  have hN : hp.Ns 32 (hp.nsMap 32) := .of_isNs (isNs_of_in X B.ok)
  have e1 := ns_some_of X hN B.init
  have e2 := ns_none_of X hN B.kind
  have e3 := ns_none_of X hN B.sa
  generalize hp.nsMap 32 = mN at hN e1 e2 e3
  have hCc := X _ _ hC
  have hfc := X _ _ hf
  refine call_exc_init F.excBase_Exception hCc hN e1 hfc rfl ?_ (by show 1 ≤ sizeLine; rw [sizeLine_eq]; (first | lia | omega))
  generalize hh1 : (hp.push { cls := .type "tuple", data := .seq [Value.str k t].toArray }).push { cls := .ref 33, data := .fields #[.ref hp.objs.size, .none, .none, .none, .bool false, .none] } = h1
  have kp1 : ∀ b o, hp.get? b = some o → h1.get? b = some o := fun b o e => by rw [← hh1]; exact Heap.get?_push_of_some _ (Heap.get?_push_of_some _ e)
  have he1 : h1.get? (hp.objs.size + 1) = some { cls := .ref 33, data := .fields #[.ref hp.objs.size, .none, .none, .none, .bool false, .none] } := by
    rw [← hh1]; exact Heap.get?_push_at (by simp only [Heap.size_push]) rfl
  refine wpAny_call (codeAny_call_def (binds := [(("self" : Str), .ref (hp.objs.size + 1)), (("kind" : Str), .str k t)]) ?c0 (kp1 _ _ hfc) rfl (T.nolimit.keeps fun b o e => kp1 _ _ (rl.stay b o e)) ((codeRec_of X B.code).keeps kp1) rfl (BindsTo.of_eq (hb _ _)) ?c1 ?c2 (fun h2 hns kp2 => ?_) rfl rfl rfl)
  case c0 =>
    have := cx.depth
    have hw : Code.weight (.builtin "type.__call__" ⟨[Value.ref 33, Value.str k t], []⟩) = 1 := by rfl
    show A.depth + Code.weight _ < _
    rw [hw]; (first | lia | omega)
  case c1 => show ∀ x ∈ [(("self" : Str), NameKind.local), (("kind" : Str), NameKind.local)], x.2 ≠ NameKind.cell; decide
  case c2 => 
    show ∀ x ∈ [(("self" : Str), Value.ref (hp.objs.size + 1)), (("kind" : Str), Value.str k t)], [(("self" : Str), NameKind.local), (("kind" : Str), NameKind.local)].lookup x.1 = some NameKind.local
    intro x hx
    rcases List.mem_cons.mp hx with rfl | hx
    · show [(("self" : Str), NameKind.local), (("kind" : Str), NameKind.local)].lookup ("self" : Str) = some NameKind.local; decide
    · rw [List.mem_singleton.mp hx]; show [(("self" : Str), NameKind.local), (("kind" : Str), NameKind.local)].lookup ("kind" : Str) = some NameKind.local; decide
  have he2 := kp2 _ _ he1
  have kp : ∀ b o, hp.get? b = some o → h2.get? b = some o := fun b o e => kp2 _ _ (kp1 _ _ e)
  refine wpAny_execs_cons (plainObj_wpAny_Assign_Attribute (wpAny_Name (wpAny_loadName_local rfl rfl hns rfl ?_) rfl) rfl)
  refine wpAny_Name (wpAny_loadName_local rfl rfl hns rfl ?_) rfl
  refine store_attr (mA := fun _ => none) F.store_Exception (kp _ _ hCc) (hN.keeps kp) e3 e2 F_kind (x := hp.objs.size + 1) ?c3 ⟨_, he2, rfl, (fun c q => nomatch q), .inl ⟨rfl, fun _ => rfl⟩⟩ (fun h3 tk3 I3 kp3 s3 => ?_)
  case c3 => intro q; have q1 : 33 < hp.objs.size := Heap.lt_size hCc; exact absurd (show hp.objs.size + 1 = 33 from q) (by (first | lia | omega))
  refine wpAny_execs_nil ?_
  refine nn fun nG => ?_
  obtain ⟨o1, ho1, hcls, _, hdd⟩ := I3
  obtain ⟨o1', ho1', hc1, hd1, _, _⟩ := s3 _ he2
  refine nG ?_
  clear nG
  rw [ho1] at ho1'; cases ho1'
  rcases hdd with ⟨_, q⟩ | ⟨dx, hdx, hne, hns3⟩
  · have := q "kind"; simp at this
  refine ⟨rfl, ?_⟩
  have kp4 : ∀ b o, hp.get? b = some o → h3.get? b = some o := fun b o e => kp3 b o (Nat.ne_of_lt (Nat.lt_succ_of_lt (Heap.lt_size e))) (fun o₀ dx q1 q2 => by rw [he2] at q1; cases q1; cases q2) (kp _ _ e)
  exact hq h3 tk3 _ ⟨kp4, Heap.get?_none_of_le (Nat.le_succ _), o1, hp.objs.size, dx, _, t, ho1, hcls, hd1, hdx, hns3.ns, by simp⟩
end

section
variable {M : Model} {A : Around} {E : Value → Shared → Prop} {env : Env}
variable {nm q : Str} {C N : Addr} {bs bm : List Value} {hdct : Bool} {sn : List Str} {sub : List Value} {ab : Bool} {col : Option Bool} {dd : Option Addr} {k0 k1 k2 k3 k5 : Option Value} {newId : String}
theorem raise_made {s : Shared} {x : Sem Value} {Q : Flow → Shared → Prop} (hbase : bm.contains (.type "BaseException") = true) (hh : A.handled = none)
    (h : wpAny M A x (fun v s₁ => ∃ e oe t, v = .ref e ∧ s₁.heap.get? C = some (excClassObj nm q C N bs bm hdct sn sub ab col dd k0 k1 k2 k3 k5 newId) ∧
      s₁.heap.get? e = some oe ∧ oe.cls = .ref C ∧ oe.data = .fields #[.ref t, .none, .none, .none, .bool false, .none] ∧ E (.ref e) s₁) E s) :
    wpAny M A (raiseStmt env (some x) none) Q E s := by
  have hcB : (Value.ref C :: bm).contains (.type "BaseException") = true := by rw [List.contains_cons, hbase, Bool.or_true]
  unfold raiseStmt
  refine wpAny_bind (wpAny_mono h (fun v s₁ h₁ => ?_) fun _ _ x => x)
  refine nn fun nG => ?_
  obtain ⟨e, oe, t, rfl, hC, he, hcls, hd, hE⟩ := h₁
  obtain ⟨hp, g, d, tk, os⟩ := s₁
  obtain ⟨c, od, dt, sl⟩ := oe
  refine nG ?_
  clear nG
  cases hcls
  cases hd
  repeat (first | with_reducible refine wpAny_loadPart_at he ?_ | with_reducible refine wpAny_loadPart_at hC ?_ | (with_reducible refine wpAny_isSubtype_exc hC ?_; rw [hcB]) | wp_step)
  exact wpAny_raiseNew_none hh hE
end

section
variable {prog : Program} {w : World} {C : Ctx} {X : Str → St → Prop} {env : Env} {loc : Loc} {Q : FV → Loc → St → Prop} {μ : St}
theorem ex_raise (B : BE C.K) (hn1 : 1 ≤ C.n) {k : Str} {np kp cpos pos : Pos} {kk} (h : X k μ) (hk : env.kindOf "BasicError" = some .globalImplicit) (he : starEach [.Constant (.str k) kk kp] env = (false, eval (.Constant (.str k) kk kp) env) :: starEach [] env) :
    Ex prog w C env (exec (.Raise (some (.Call (.Name "BasicError" np) [.Constant (.str k) kk kp] [] cpos)) none pos) env) X Q loc μ := by
  intro A s ρ cx rl lc P PE p pe
  refine nn fun nG => ?_
  obtain ⟨nm, q, bs, sn, sub, ab, col, dd, k0, k1, k2, k3, k5, hC⟩ := B.cls
  refine nG ?_
  clear nG
  have XK : ∀ {h ρ}, Rl C h ρ μ → C.K.In h := fun r a o e => r.stay _ _ (cx.kin a o e)
  rw [arm_exec_Raise]
  simp only [evalOpt, Option.map]
  refine wpAny_bind (wpAny_standAt (raise_made (C := 33) (nm := nm) (q := q) (N := 32) (bs := bs) (bm := bEB) (hdct := true) (sn := sn) (sub := sub) (ab := ab) (col := col) (dd := dd) (k0 := k0) (k1 := k1) (k2 := k2) (k3 := k3) (k5 := k5) (newId := "Exception.__new__")
    (by decide) cx.hand (wpAny_bind (wpAny_mono (wpAny_Call_ofName (globAt cx rl lc B.name hk (by decide) ?_)) (fun v s₃ h₃ => wpAny_bind (wpAny_standAt (wpAny_pure h₃))) fun _ _ x => x))))
  unfold callWith
  rw [he]
  have hargs : wpAny (model prog w) A (evalArgs (.ref 33) true (backTo cpos ((false, eval (.Constant (.str k) kk kp) env) :: starEach [] env)) []) (fun a s₁ => a = ⟨[.str k s.toks], []⟩ ∧ s₁ = { s with toks := s.toks + 1 }) PE s :=
    Calls.evalArgs_plain (Calls.spliced_cons (wpAny_Constant_str (k := kk) (pos := kp) (Calls.spliced_nil ⟨rfl, rfl⟩)))
  refine wpAny_bind (wpAny_holding (wpAny_mono hargs (fun a s₂ h₂ => wpAny_bind (wpAny_standAt ?_)) fun _ _ x => x))
  refine nn fun nG => ?_
  obtain ⟨rfl, rfl⟩ := h₂
  have l1 : Rl C ({ s with toks := s.toks + 1 } : Shared).heap ρ μ := rl
  obtain ⟨hp, g, d, tk, os⟩ := s
  refine nG ?_
  clear nG
  have hCc : hp.get? 33 = _ := XK rl _ _ hC
  simp only [show (backTo cpos ((false, eval (.Constant (.str k) kk kp) env) :: starEach [] env)).any (·.1) = false from rfl]
  refine wpAny_bind (wpAny_keeperOf_exc hCc ?_)
  refine wpAny_bind (make_exc B hn1 cx l1 fun h' tk' e hm => wpAny_bind (wpAny_holding (wpAny_point (wpAny_pure ?_))))
  refine nn fun nG => ?_
  obtain ⟨oe, t0, dx, m, t, h1, h2, h3, h4, h5, h6⟩ := hm.there
  refine nG ?_
  clear nG
  refine ⟨e, oe, t0, rfl, hm.keeps _ _ hCc, h1, h2, h3, ?_⟩
  exact pe e k μ ρ h' tk' h (rl.keeps hm.keeps) ⟨fresh_h₀ rl hm.new, oe, _, dx, m, t, h1, h2, h3, h4, h5, h6, .inl rfl⟩ (ext_of hm.keeps).grow.up
end
end Mine
end

section
set_option maxHeartbeats 1000000
open PySem PySem.W PyProof.Rows PySem.Spec PySem.Calls PySem.SeqAt
set_option Elab.async false
set_option linter.unusedVariables false
set_option linter.unusedSimpArgs false
set_option maxRecDepth 100000
namespace Mine
section
variable {prog : Program} {w : World} {A : Around} {E : Value → Shared → Prop} {h : Heap} {g : Array GenState} {d : Drawn} {t : Nat} {os : OsState}
variable {nm q : Str} {C N x : Addr} {bs : List Value} {sn : List Str} {sub : List Value} {ab : Bool} {col : Option Bool} {dd : Option Addr} {k0 k1 k2 k3 k5 : Option Value} {newId : String}
  {mN : Str → Option Value} {o : Obj} {vs : Array Value} {dx : Addr} {m : Str → Option Value} {v : Value}
theorem kind_entry {tk : Tok} {Q : Fin → Shared → Prop}
    (hC : h.get? C = some (excClassObj nm q C N bs bEB true sn sub ab col dd k0 k1 k2 k3 k5 newId)) (hN : h.Ns N mN) (hna : mN "kind" = none)
    (hx : h.get? x = some o) (hc : o.cls = .ref C) (hd : o.data = .fields vs) (hdx : o.dict = some dx) (hns : h.Ns dx m) (hv : m "kind" = some v) (hq : Q (.done (.ret v)) ⟨h, g, d, t, os⟩) :
    wpAny (model prog w) A (Builtin.«object.__getattribute__» ⟨[.ref x, .str "kind" tk], []⟩) Q E ⟨h, g, d, t, os⟩ := by
  unfold Builtin.«object.__getattribute__»
  repeat (first | (with_reducible refine wpAny_loadPart_at hx ?_; rw [hc]) | (with_reducible refine wpAny_typeLookup_exc hC hN F.excBase_Exception.mroIs F_kind ?_; rw [hna]) | wp_step)
  rw [hd]
  dsimp only
  unfold instanceDict
  repeat (first | (with_reducible refine wpAny_loadPart_at hx ?_; rw [hc]) | with_reducible refine wpAny_loadPart_at hC ?_ | wp_step)
  rw [hdx]
  repeat (first | (with_reducible refine wpAny_nsGet hns ?_; rw [hv]) | wp_step)
  exact hq
theorem kind_call {tk : Tok} {R : Result → Shared → Prop}
    (hC : h.get? C = some (excClassObj nm q C N bs bEB true sn sub ab col dd k0 k1 k2 k3 k5 newId)) (hN : h.Ns N mN) (hna : mN "kind" = none)
    (hx : h.get? x = some o) (hc : o.cls = .ref C) (hd : o.data = .fields vs) (hdx : o.dict = some dx) (hns : h.Ns dx m) (hv : m "kind" = some v) (hq : R (.ok (.ret v)) ⟨h, g, d, t, os⟩) :
    codeAny (model prog w) A (.call (.builtin "BaseException.__getattribute__") ⟨[.ref x, .str "kind" tk], []⟩) R ⟨h, g, d, t, os⟩ := by
  have FB := F.attrBase_Exception
  exact codeAny_call_builtin FB.ga.plain F.entry_bexc_ga (wpAny_check_ga_own FB hC (T := .base) hx hc (kind_entry hC hN hna hx hc hd hdx hns hv hq))
theorem kind_by {tk : Tok} {fill expr : Bool} {Q : Value → Shared → Prop}
    (hC : h.get? C = some (excClassObj nm q C N bs bEB true sn sub ab col dd k0 k1 k2 k3 k5 newId)) (hN : h.Ns N mN) (hna : mN "kind" = none) (hga : mN "__getattribute__" = none) (hgh : mN "__getattr__" = none)
    (hx : h.get? x = some o) (hc : o.cls = .ref C) (hd : o.data = .fields vs) (hdx : o.dict = some dx) (hns : h.Ns dx m) (hv : m "kind" = some v) (hh : handedOut v = pure v) (hq : Q v ⟨h, g, d, t, os⟩) :
    wpAny (model prog w) A (getAttrBy (.ref x) (.str "kind" tk) fill expr) Q E ⟨h, g, d, t, os⟩ := by
  have FB := F.attrBase_Exception
  have f3 := FB.ga.bind (.ref x)
  have hx0 : (expr && onTheHeap (Value.builtin "BaseException.__getattribute__")) = false := by cases expr <;> rfl
  have hx2 : (Value.builtin "BaseException.__getattribute__" == Value.builtin "object.__getattribute__") = false := by decide +kernel
  have hx1 : (onTheHeap (Value.ref C) && Value.builtin "BaseException.__getattribute__" == Value.builtin "object.__getattribute__") = false := by rw [hx2]; rfl
  repeat (any_goals (first | assumption | (with_reducible refine wpAny_loadPart_at hx ?_; rw [hc]) | (with_reducible refine wpAny_typeLookup_exc hC hN F.excBase_Exception.mroIs FB.ga.lookup ?_; rw [hga]) | (with_reducible refine wpAny_typeLookup_exc hC hN F.excBase_Exception.mroIs FB.noGetattr ?_; rw [hgh]) | wp_step))
  refine kind_call hC hN hna hx hc hd hdx hns hv ?_
  repeat (any_goals (first | assumption | rw [hh] | wp_step))
theorem kind_attr {expr : Bool} {Q : Value → Shared → Prop}
    (hC : h.get? C = some (excClassObj nm q C N bs bEB true sn sub ab col dd k0 k1 k2 k3 k5 newId)) (hN : h.Ns N mN) (hna : mN "kind" = none) (hga : mN "__getattribute__" = none) (hgh : mN "__getattr__" = none)
    (hx : h.get? x = some o) (hc : o.cls = .ref C) (hd : o.data = .fields vs) (hdx : o.dict = some dx) (hns : h.Ns dx m) (hv : m "kind" = some v) (hh : handedOut v = pure v) (hq : Q v ⟨h, g, d, t + 1, os⟩) :
    wpAny (model prog w) A (getAttr (.ref x) "kind" expr) Q E ⟨h, g, d, t, os⟩ := by
  unfold getAttr
  repeat (any_goals (first | assumption | with_reducible apply kind_by hC hN hna hga hgh hx hc hd hdx hns hv hh | wp_step))
end
end Mine
end

section
set_option maxHeartbeats 1000000
open PySem PySem.W PyProof.Rows PySem.Spec PySem.Calls PySem.SeqAt
set_option Elab.async false
set_option linter.unusedVariables false
set_option linter.unusedSimpArgs false
set_option maxRecDepth 100000
namespace Mine

section
variable {prog : Program} {w : World} {C : Ctx} {X : Str → St → Prop} {A : Around} {s : Shared} {ρ : List Addr} {Q : V → St → Prop} {P : Value → Shared → Prop} {PE : Value → Shared → Prop} {μ : St}
theorem push_nil (h : Heap) : h = h := rfl
/-- a lambda without parameters, one name kept -/
theorem lam_call {f : Addr} {name qual : Str} {params : Arguments} {body : Expr} {scope : Scope} {cl : List (Str × Addr)} {pm cdv ctv : Value} {o : Obj} {x : Str} {c : Addr} {u : Value} {v : V}
    (cx : Cx C A) (rl : Rl C s.heap ρ μ) (hn : 0 < C.n) (ho : s.heap.get? f = some o) (hd : o.data = .func (kla_fn name qual params body scope cl pm cdv ctv)) (hcd : s.heap.CodeRec cdv qual)
    (hbind : bindArgs (kla_fn name qual params body scope cl pm cdv ctv) ⟨[], []⟩ = pure []) (hcell : ∀ x ∈ scope.names, x.2 ≠ .cell)
    (hco : scope.isCoroutine = false) (hgen : scope.isGenerator = false) (hk : scope.kind = .function)
    (hcl : cl = [(x, c)]) (hx : scope.names.lookup x = some .free) (hxc : (x == ("__classdict__" : Str)) = false) (hcv : s.heap.IsCell c (some u)) (hu : RV s.heap ρ u v)
    (h : ∀ L C', C'.K = C.K → C'.n + 1 = C.n → C'.h₀ = C.h₀ → C'.fs = envX qual scope L f cdv cl :: C.fs → Ev prog w C' RV (envX qual scope L f cdv cl) X (eval body (envX qual scope L f cdv cl)) [(x, v)] Q μ)
    (p : OkP C no RV s ρ Q P) (pe : ErP C no s ρ X PE) : wpAny (model prog w) A (call (.ref f) []) P PE s := by
  refine nn fun nG => ?_
  obtain ⟨_, _, _, _, _, T⟩ := cx.top
  refine nG ?_
  clear nG
  refine wpAny_call (kla_callFunE (by have := cx.depth; (first | lia | omega)) ho hd hco hgen rfl hcd ?_)
  rw [hbind]
  refine wpAny_pure (wpAny_newFunctionEnv hcell (fun _ m => nomatch m) (fun h₁ hns hsb => ⟨(T.nolimit.keeps rl.stay).fresh _ hsb, ?_⟩) hk)
  show codeAny _ _ (.expr body (envX qual scope s.heap.objs.size f cdv cl)) _ _
  have keep : ∀ b o, s.heap.get? b = some o → h₁.get? b = some o := fun b o e => hsb.extBut b o (Nat.ne_of_lt (Heap.lt_size e)) (Heap.get?_push_of_some _ e)
  have fr : s.heap.get? s.heap.objs.size = none := fresh_none
  have fr0 := fresh_h₀ rl fr
  have x0 := ext_of (ρ := ρ) keep
  have l0 : Rl (C.push (envX qual scope s.heap.objs.size f cdv cl)) h₁ ρ μ := (rl.keeps keep).push hk rfl fr0 hns
  have lc0 : Lc (C.push (envX qual scope s.heap.objs.size f cdv cl)) (envX qual scope s.heap.objs.size f cdv cl) h₁ ρ [(x, v)] := by
    refine ⟨hk, rfl, rfl, ⟨_, hns⟩, fr0, ?_, by simp, fun q m => ?_⟩
    · intro q m
      have m' : q ∈ cl := m
      rw [hcl] at m'
      rw [List.mem_singleton.mp m']
      exact ⟨_, hcv.keeps keep⟩
    · rw [List.mem_singleton.mp m]
      refine ⟨u, .inr ⟨.inr ⟨hx, hxc⟩, c, ?_, hcv.keeps keep⟩, hu.mono x0.grow bare_no⟩
      show cl.lookup x = some c
      rw [hcl]; simp
  refine kla_codeExpr ?_
  refine (h s.heap.objs.size (C.push _) rfl (by show C.n - 1 + 1 = C.n; (first | lia | omega)) rfl rfl).go (s := ⟨h₁, _, _, _, _⟩) (cx.push hn _) l0 lc0 ?_ ?_
  · intro e k μ' ρ' h' tk xx l ex gr
    refine leaving_exc (s := ⟨h', _, _, _, _⟩) (cx.push hn _) l rfl rfl ex fun h₁ x₁ S₁ => ?_
    have xC : ExcAt C h₁ e k .none := x₁
    exact pe e k μ' ρ' h₁ tk xx (S₁.rl l).pop xC.exc ((x0.grow.trans gr).trans S₁.grow)
  · intro y d μ' ρ' h' tk r q l e
    exact p y d μ' ρ' h' tk r q l.pop (x0.trans e)

theorem globM {A : Around} {env : Env} {loc : Loc} {E : Value → Shared → Prop} {x : Str} {pos : Pos} {u : Value} {P : Value → Shared → Prop} (kin : C.K.In C.h₀) (top : ∃ p loose mean mg mb, Top p loose mean mg mb C.h₀) (rl : Rl C s.heap ρ μ) (hkd : env.scope.kind = .function) (hg : env.globals = mainGlobals) (g : nsIn C.K mainGlobals x = some (some u)) (hk : env.kindOf x = some .globalImplicit) (hd : (x == ("__debug__" : Str)) = false) (h : P u s) :
    wpAny (model prog w) A (eval (.Name x pos) env) P E s := by
  refine nn fun nG => ?_
  obtain ⟨_, _, _, mg, mb, T⟩ := top
  refine nG ?_
  clear nG
  exact Name_function_global hkd hk (loadGlobal_global (by rw [hg]; exact T.g.keeps rl.stay) (mg_of kin T.g g) h) hd
theorem ns_ne {h : Heap} {a b : Addr} {m n : Str → Option Value} {y : Str} {u : Value} (x : h.Ns a m) (z : h.Ns b n) (e1 : m y = some u) (e2 : n y = none) : a ≠ b := by
  rintro rfl
  refine nn fun nG => ?_
  obtain ⟨o1, es1, ep1, g1, g2, _, g4⟩ := x
  obtain ⟨o2, es2, ep2, k1, k2, _, k4⟩ := z
  refine nG ?_
  clear nG
  rw [g1] at k1; cases k1; rw [g2] at k2; cases k2
  have := g4 y
  rw [k4 y, e1, e2] at this; cases this
/-- the law's try: what the lambda raises comes back as its kind -/
theorem heard_call (B : BE C.K) {f : Addr} {name qual : Str} {params : Arguments} {body : Expr} {lscope : Scope} {cl : List (Str × Addr)} {pm cdv ctv : Value} {o : Obj} {x : Str} {c : Addr} {u : Value} {v : V}
    {fa : Addr} {oc : Value} {od : Option Addr} {osl : Array (Option Value)} {hname hqual : Str} {hparams : Arguments} {hscope : Scope} {dV kV doc hpm : Value} {an : Option Addr} {hcdv hct : Value} {p1 p2 p3 p4 p5 p6 p7 p8 p9 : Pos}
    (hfn : C.K.lookup fa = some ⟨oc, od, .func (fnOf hname hqual hparams [.Try [.Return (some (.Call (.Name "work" p1) [] [] p2)) p3] [.ExceptHandler (some (.Name "BasicError" p4)) (some "wrong") [.Return (some (.Attribute (.Name "wrong" p5) "kind" p6)) p7] p8] [] [] p9] hscope dV kV doc hpm an hcdv hct), osl⟩)
    (hhcd : codeIn C.K hcdv hqual = true) (hhb : ∀ a, bindArgs (fnOf hname hqual hparams [.Try [.Return (some (.Call (.Name "work" p1) [] [] p2)) p3] [.ExceptHandler (some (.Name "BasicError" p4)) (some "wrong") [.Return (some (.Attribute (.Name "wrong" p5) "kind" p6)) p7] p8] [] [] p9] hscope dV kV doc hpm an hcdv hct) ⟨[a], []⟩ = pure [(("work" : Str), a)])
    (hhc : ∀ x ∈ hscope.names, x.2 ≠ .cell) (hhl : hscope.names.lookup ("work" : Str) = some .local) (hhw : hscope.names.lookup ("wrong" : Str) = some .local) (hhe : hscope.names.lookup ("BasicError" : Str) = some .globalImplicit)
    (hhco : hscope.isCoroutine = false) (hhgen : hscope.isGenerator = false) (hhk : hscope.kind = .function)
    (cx : Cx C A) (rl : Rl C s.heap ρ μ) (hn : 2 ≤ C.n) (ho : s.heap.get? f = some o) (hd : o.data = .func (kla_fn name qual params body lscope cl pm cdv ctv)) (hcd : s.heap.CodeRec cdv qual)
    (hbind : bindArgs (kla_fn name qual params body lscope cl pm cdv ctv) ⟨[], []⟩ = pure []) (hcell : ∀ x ∈ lscope.names, x.2 ≠ .cell)
    (hco : lscope.isCoroutine = false) (hgen : lscope.isGenerator = false) (hk : lscope.kind = .function)
    (hcl : cl = [(x, c)]) (hx : lscope.names.lookup x = some .free) (hxc : (x == ("__classdict__" : Str)) = false) (hcv : s.heap.IsCell c (some u)) (hu : RV s.heap ρ u v)
    (h : ∀ L C', C'.K = C.K → C'.n + 2 = C.n → C'.h₀ = C.h₀ → Ev prog w C' RV (envX qual lscope L f cdv cl) X (eval body (envX qual lscope L f cdv cl)) [(x, v)] (fun _ _ => False) μ)
    (p : ∀ k t μ' ρ' h' tk, X k μ' → Rl C h' ρ' μ' → Grow no s.heap ρ h' ρ' → P (.str k t) { s with heap := h', toks := tk }) : wpAny (model prog w) A (call (.ref fa) [.ref f]) P PE s := by
  refine nn fun nG => ?_
  obtain ⟨_, _, _, _, _, T⟩ := cx.top
  refine nG ?_
  clear nG
  refine wpAny_call (codeAny_call_def (binds := [(("work" : Str), .ref f)]) (by have := cx.depth; (first | lia | omega)) (rl.stay _ _ (cx.kin _ _ hfn)) rfl (T.nolimit.keeps rl.stay) ((codeRec_of cx.kin hhcd).keeps rl.stay) rfl (BindsTo.of_eq (hhb _)) hhc (fun y m => ?_) ?_ hhco hhgen hhk)
  · rw [List.mem_singleton.mp m]; exact hhl
  intro g hns keep
  show wpAny _ (A.deeper (envOf hqual hscope s.heap.objs.size fa hcdv)) (execs _ (envOf hqual hscope s.heap.objs.size fa hcdv)) _ _ _
  have fr : s.heap.get? s.heap.objs.size = none := fresh_none
  have fr0 := fresh_h₀ rl fr
  have x0 := ext_of (ρ := ρ) keep
  have l0 : Rl (C.push (envOf hqual hscope s.heap.objs.size fa hcdv)) g ρ μ := (rl.keeps keep).push hhk rfl fr0 hns
  have cx1 := cx.push (by (first | lia | omega) : 0 < C.n) (envOf hqual hscope s.heap.objs.size fa hcdv)
  refine wpAny_execs_cons (wpAny_Try_except (wpAny_execs_cons (wpAny_Return_some (Call_ (wpAny_Name (wpAny_loadName_local (v := .ref f) hhk hhl hns (by simp) ?_) (by decide)) rfl))))
  refine callWith_function (o := o) (fd := kla_fn name qual params body lscope cl pm cdv ctv) (args := []) (first := []) (PyProof.Rows.evalArgs_none ⟨⟨keep _ _ ho, hd⟩, ?_⟩)
  refine lam_call (s := ⟨g, _, _, _, _⟩) (Q := fun _ _ => False) (X := X) cx1 l0 (by show 0 < C.n - 1; (first | lia | omega)) (keep _ _ ho) hd (hcd.keeps keep) hbind hcell hco hgen hk hcl hx hxc (hcv.keeps keep) (hu.mono x0.grow bare_no) (fun L C' h1 h2 h3 h4 => h L C' h1 (by have : C'.n + 1 = C.n - 1 := h2; (first | lia | omega)) h3) (fun _ _ _ _ _ _ _ q => q.elim) ?_
  intro e k μ' ρ' h' tk xx l ex gr
  have nL : s.heap.objs.size ∉ ρ := rl.nins fr
  have hns' := gr.ns hns (fun q => q) nL
  refine note_exc (s := ⟨h', _, _, _, _⟩) cx1 l rfl rfl ex fun h2 x2 S2 => ?_
  refine flight_exc (s := ⟨h2, _, _, _, _⟩) (fr := Option.none) x2 fun h3 x3 S3 => ?_
  have S23 := S2.trans S3
  have l3 := S23.rl l
  have hns3 := S23.ns hns'
  have K3 : C.K.In h3 := fun a o e => l3.stay _ _ (cx.kin a o e)
  refine nn fun nG => ?_
  obtain ⟨nm, q, bs, sn, sub, ab, col, dd, k0, k1, k2, k3, k5, hC⟩ := B.cls
  have hC3 := K3 _ _ hC
  have x3' := x3
  obtain ⟨hen, oe, vs, dx, m, t, T1, oT, ts, a1, a2, a3, a4, a5, a6, a7, a8, a9, a10, a11, a12⟩ := x3'
  refine nG ?_
  clear nG
  refine wpAny_handleBy_cons (codeAny_handlers_test (globM (s := ⟨h3, _, _, _, _⟩) (C := C) (loc := []) (env := envOf hqual hscope s.heap.objs.size fa hcdv) cx.kin cx.top l3.pop hhk rfl B.name hhe (by decide) ?_)) (by intro q; cases q)
  refine wpAny_excMatches_sub_self (bm := bEB) hC3 a1 a2 (by decide) (codeAny_handlers_suite_as ?_)
  refine flight_exc (s := ⟨h3, _, _, _, _⟩) (fr := Option.none) x3 fun h4 x4 S4 => ?_
  have S24 := S23.trans S4
  have l4 := S24.rl l
  have hns4 := S24.ns hns'
  have K4 : C.K.In h4 := fun a o e => l4.stay _ _ (cx.kin a o e)
  refine nn fun nG => ?_
  obtain ⟨hen4, oe4, vs4, dx4, m4, t4, T4, oT4, ts4, b1, b2, b3, b4, b5, b6, _⟩ := x4
  refine nG ?_
  clear nG
  have hp : ((envOf hqual hscope s.heap.objs.size fa hcdv).scope.kind == .class || ((envOf hqual hscope s.heap.objs.size fa hcdv).scope.kind == .module && (envOf hqual hscope s.heap.objs.size fa hcdv).locals != (envOf hqual hscope s.heap.objs.size fa hcdv).globals)) = false := by
    show (hscope.kind == .class || (hscope.kind == .module && _)) = false
    rw [hhk]; rfl
  refine wpAny_storeName_local hhw hns4 (fun h5 hns5 sb5 => ?_) hp
  have neL : e ≠ s.heap.objs.size := fun q => by
    refine nn fun nG => ?_
    obtain ⟨o', _, _, ho', hd', _⟩ := hns4
    refine nG ?_
    clear nG
    rw [q, ho'] at b1; cases b1; rw [hd'] at b3; cases b3
  have dneL : dx4 ≠ s.heap.objs.size := ns_ne b5 hns4 b6 (by show List.lookup ("kind" : Str) [(("work" : Str), Value.ref f)] = none; rfl)
  have kp5 : Kp (· = s.heap.objs.size) h4 h5 := sb_kp sb5
  have hC4 := K4 _ _ hC
  have nL33 : (33 : Addr) ≠ s.heap.objs.size := fun q => by
    have := rl.stay _ _ (cx.kin _ _ hC)
    rw [q, fr] at this; cases this
  have nL32 : (32 : Addr) ≠ s.heap.objs.size := fun q => by
    have := Heap.Ns.lt (Heap.Ns.of_isNs (isNs_of_in (K := C.K) (h := s.heap) (fun a o e => rl.stay _ _ (cx.kin a o e)) B.ok))
    rw [q] at this; exact absurd this (Nat.lt_irrefl _)
  have hC5 := kp5 _ _ nL33 hC4
  have hN4 : h4.Ns 32 (h4.nsMap 32) := .of_isNs (isNs_of_in K4 B.ok)
  have e2 := ns_none_of K4 hN4 B.kind
  have e3 := ns_none_of K4 hN4 B.ga
  have e4 := ns_none_of K4 hN4 B.gh
  generalize h4.nsMap 32 = mN at hN4 e2 e3 e4
  have hN5 := kp5.ns hN4 nL32
  have be5 := kp5 _ _ neL b1
  refine wpAny_execs_cons (wpAny_Return_some (Attribute_any_ (wpAny_Name (wpAny_loadName_local (v := .ref e) hhk hhw hns5 (by simp) ?_) (by decide)) ?_))
  · refine kind_attr (v := .str k t4) hC5 hN5 e2 e3 e4 be5 b2 b3 b4 (kp5.ns b5 dneL) b6 rfl ?_
    dsimp only
    refine wpAny_bind (bindName_ (wpAny_storeName_local hhw hns5 (fun h6 hns6 sb6 => ?_) hp))
    unfold unbindBehindTheSuite
    refine wpAny_onRaise (wpAny_unbindName_local (v := .none) hhw hns6 (by simp) hp fun h7 u7 hns7 sb7 => ?_)
    have kp7 : Kp (· = s.heap.objs.size) h4 h7 := fun b o nb e => (sb7.2 b nb).trans ((sb6.2 b nb).trans (kp5 b o nb e))
    have bW : Bare (· = s.heap.objs.size) h4 := by
      rintro a o rfl ho xs n hd
      refine nn fun nG => ?_
      obtain ⟨o', _, _, ho', hd', _⟩ := hns4
      refine nG ?_
      clear nG
      rw [ho] at ho'; cases ho'; rw [hd] at hd'; cases hd'
    have l7 : Rl C h7 ρ' μ' := l4.pop.kp kp7 bW (by rintro _ rfl; exact fr0) (fun env' m' L hL q => by
      refine nn fun nG => ?_
      obtain ⟨_, L', mm, q1, _, o, _, _, ho, _⟩ := rl.frm env' m'
      refine nG ?_
      clear nG
      rw [hL] at q1; cases q1
      rw [q, fr] at ho; cases ho)
    have e7 : Ext (· = s.heap.objs.size) h4 ρ' h7 ρ' := kp7.ext (by rintro _ rfl; obtain ⟨o, _, _, ho, _⟩ := hns7; intro q; have ho' : h7.get? s.heap.objs.size = some o := ho; rw [q] at ho'; cases ho')
    have g7 : Grow no s.heap ρ h7 ρ' := ((((x0.grow.trans gr).trans S24.grow).weak fun _ q => q.elim).trans (e7.grow.weak fun _ q => .inl q)).drop (W := (· = s.heap.objs.size)) (S := no) (by rintro _ rfl; exact fr)
    exact p k t4 μ' ρ' h7 _ xx l7 g7
  · rfl
end
end Mine
end

section
set_option maxHeartbeats 1000000
open PySem PySem.W PyProof.Rows PySem.Spec PySem.Calls PySem.SeqAt
set_option Elab.async false
set_option linter.unusedVariables false
set_option linter.unusedSimpArgs false
set_option maxRecDepth 100000
namespace Mine

/-! ## the law's own frame: with its table of code -/
noncomputable abbrev hBody (p1 p2 p3 p4 p5 p6 p7 p8 p9 : Pos) : List Stmt := [.Try [.Return (some (.Call (.Name "work" p1) [] [] p2)) p3] [.ExceptHandler (some (.Name "BasicError" p4)) (some "wrong") [.Return (some (.Attribute (.Name "wrong" p5) "kind" p6)) p7] p8] [] [] p9]
structure TabOk (C : Ctx) (env : Env) (h : Heap) (ps : Array Value) : Prop where
  hd : CodeHd C.h₀ 245 243
  code : env.code = .ref 245
  no : C.h₀.get? 243 = none
  here : h.get? 243 = some (tabObj ps)
  tri : TriplesOk ps.toList
noncomputable def OkT (C : Ctx) (env : Env) (s : Shared) (Q : FV → Loc → St → Array Value → Prop) (P : Flow → Shared → Prop) : Prop :=
  ∀ f F loc' μ' ps' ρ' h' tk, RF h' ρ' f F → Q F loc' μ' ps' → Rl C h' ρ' μ' → Lc C env h' ρ' loc' → TabOk C env h' ps' → P f { s with heap := h', toks := tk }
noncomputable def ExT (prog : Program) (w : World) (C : Ctx) (env : Env) (t : Sem Flow) (loc : Loc) (μ : St) (ps : Array Value) (Q : FV → Loc → St → Array Value → Prop) : Prop :=
  ∀ A s ρ, Cx C A → Rl C s.heap ρ μ → Lc C env s.heap ρ loc → TabOk C env s.heap ps → ∀ (P : Flow → Shared → Prop) (PE : Value → Shared → Prop), OkT C env s Q P → wpAny (model prog w) A t P PE s
section
variable {prog : Program} {w : World} {C : Ctx} {env : Env} {loc : Loc} {ps : Array Value} {Q : FV → Loc → St → Array Value → Prop} {s : Shared} {ρ ρ' : List Addr} {h h' : Heap} {μ : St}
theorem TabOk.nin (T : TabOk C env h ps) (R : Rl C h ρ μ) : (243 : Addr) ∉ ρ := fun m => by
  refine nn fun nG => ?_
  obtain ⟨xs, o, ho, _, n, hd⟩ := R.isl m
  refine nG ?_
  clear nG
  rw [T.here] at ho; cases ho; cases hd
theorem TabOk.nse (T : TabOk C env h ps) (L : Lc C env h ρ loc) : ¬ SE env 243 := by
  rintro (q | ⟨c, hc, q⟩)
  · refine nn fun nG => ?_
    obtain ⟨_, o', es, ep, ho', hd', _⟩ := L.ns
    refine nG ?_
    clear nG
    rw [← q, T.here] at ho'; cases ho'; cases hd'
  · refine nn fun nG => ?_
    obtain ⟨v, o', ho', hd'⟩ := L.cel c hc
    refine nG ?_
    clear nG
    rw [q, T.here] at ho'; cases ho'; cases hd'
theorem TabOk.grow (T : TabOk C env h ps) (R : Rl C h ρ μ) (L : Lc C env h ρ loc) (x : Grow (SE env) h ρ h' ρ') : TabOk C env h' ps :=
  ⟨T.hd, T.code, T.no, x.tab _ _ T.here (T.nin R) (T.nse L) rfl ⟨_, rfl⟩, T.tri⟩
theorem t_lift {t : Sem Flow} (h : Ex prog w C env t (fun _ _ => False) (fun F l m => Q F l m ps) loc μ) : ExT prog w C env t loc μ ps Q :=
  fun A s ρ cx rl lc T P PE p => h A s ρ cx rl lc P PE (fun f F loc' μ' ρ' h' tk r q l c e => p f F loc' μ' ps ρ' h' tk r q l c (T.grow rl lc e.grow)) ErP.none
theorem t_nil (h : Q .next loc μ ps) : ExT prog w C env (execs [] env) loc μ ps Q := t_lift (ex_nil h)
theorem t_cons {st : Stmt} {rest : List Stmt} (h : ExT prog w C env (exec st env) loc μ ps (fun F loc₁ μ₁ ps₁ => match F with | .next => ExT prog w C env (execs rest env) loc₁ μ₁ ps₁ Q | F => Q F loc₁ μ₁ ps₁)) :
    ExT prog w C env (execs (st :: rest) env) loc μ ps Q := by
  intro A s ρ cx rl lc T P PE p
  refine wpAny_execs_cons (h A s ρ cx rl lc T _ _ fun f F loc₁ μ₁ ps₁ ρ₁ h₁ tk₁ r₁ q₁ l₁ lc₁ T₁ => ?_)
  have p' : OkT C env { s with heap := h₁, toks := tk₁ } Q P := fun f F loc' μ' ps' ρ' h' tk => p f F loc' μ' ps' ρ' h' tk
  cases r₁ with
  | next => exact q₁ A _ ρ₁ cx l₁ lc₁ T₁ P PE p'
  | brk => exact p _ _ _ _ _ _ h₁ tk₁ .brk q₁ l₁ lc₁ T₁
  | cont => exact p _ _ _ _ _ _ h₁ tk₁ .cont q₁ l₁ lc₁ T₁
  | ret r => exact p _ _ _ _ _ _ h₁ tk₁ (.ret r) q₁ l₁ lc₁ T₁
theorem t_heard (B : BE C.K) {fa : Addr} {oc : Value} {od : Option Addr} {osl : Array (Option Value)} {hname hqual : Str} {hparams : Arguments} {hscope : Scope} {dV kV doc hpm : Value} {an : Option Addr} {hcdv hct : Value} {p1 p2 p3 p4 p5 p6 p7 p8 p9 : Pos}
    (hfn : C.K.lookup fa = some ⟨oc, od, .func (fnOf hname hqual hparams (hBody p1 p2 p3 p4 p5 p6 p7 p8 p9) hscope dV kV doc hpm an hcdv hct), osl⟩)
    (hhcd : codeIn C.K hcdv hqual = true) (hhb : ∀ a, bindArgs (fnOf hname hqual hparams (hBody p1 p2 p3 p4 p5 p6 p7 p8 p9) hscope dV kV doc hpm an hcdv hct) ⟨[a], []⟩ = pure [(("work" : Str), a)])
    (hhc : ∀ x ∈ hscope.names, x.2 ≠ .cell) (hhl : hscope.names.lookup ("work" : Str) = some .local) (hhw : hscope.names.lookup ("wrong" : Str) = some .local) (hhe : hscope.names.lookup ("BasicError" : Str) = some .globalImplicit)
    (hhco : hscope.isCoroutine = false) (hhgen : hscope.isGenerator = false) (hhk : hscope.kind = .function)
    (hg : nsIn C.K mainGlobals "_law_heard" = some (some (.ref fa))) (hkd : env.kindOf "_law_heard" = some .globalImplicit) (hn : 2 ≤ C.n)
    {lparams : Arguments} {body : Expr} {lscope : Scope} {lpos np cpos ppos ipos : Pos} {e2 : Expr} {b : List Stmt} {x : Str} {c : Addr} {v : V} {y : List Nat}
    (hdef : defaultsOf lparams env = ([], [])) (hclos : closureFor lscope env = pure [(x, c)]) (hnf : codeAmong lpos ps.toList = none)
    (hbind : ∀ nm q pm cdv ctv, bindArgs (kla_fn nm q lparams body lscope [(x, c)] pm cdv ctv) ⟨[], []⟩ = pure []) (hcell : ∀ x ∈ lscope.names, x.2 ≠ .cell)
    (hco : lscope.isCoroutine = false) (hgen : lscope.isGenerator = false) (hk : lscope.kind = .function) (hx : lscope.names.lookup x = some .free) (hxc : (x == ("__classdict__" : Str)) = false)
    (hxk : env.kindOf x = some .cell) (hxl : env.cells.lookup x = some c) (m : (x, v) ∈ loc)
    (he : starEach [.Lambda lparams body lscope lpos] env = (false, eval (.Lambda lparams body lscope lpos) env) :: starEach [] env)
    (hm : behindInMarks .NotEq e2 = false)
    (hy : ∀ μ, Ev prog w C RV env (fun _ _ => False) (eval e2 env) loc (fun v μ₁ => v = .str y ∧ μ₁ = μ) μ)
    (h : ∀ L f cdv C', C'.K = C.K → C'.n + 2 = C.n → C'.h₀ = C.h₀ → Ev prog w C' RV (envX (env.qual ++ "<lambda>") lscope L f cdv [(x, c)]) (fun k μ' => cs k = y ∧ ∀ c', Q .next loc μ' (ps ++ #[rawInt lpos.line, rawInt lpos.col, .ref c'])) (eval body (envX (env.qual ++ "<lambda>") lscope L f cdv [(x, c)])) [(x, v)] (fun _ _ => False)
      μ) :
    ExT prog w C env (exec (.If (.Compare (.Call (.Name "_law_heard" np) [.Lambda lparams body lscope lpos] [] cpos) [.NotEq] [e2] ppos) b [] ipos) env) loc μ ps Q := by
  intro A s ρ cx rl lc T P PE p
  refine wpAny_If (wpAny_isTrue_Compare1 (Call_ (globAt cx rl lc hg hkd (by decide) ?_) rfl) hm)
  refine callWith_def (o := ⟨oc, od, .func (fnOf hname hqual hparams (hBody p1 p2 p3 p4 p5 p6 p7 p8 p9) hscope dV kV doc hpm an hcdv hct), osl⟩) (fd := fnOf hname hqual hparams (hBody p1 p2 p3 p4 p5 p6 p7 p8 p9) hscope dV kV doc hpm an hcdv hct) rfl (wpAny_items_cons (kla_eval hdef ?_) he) he
  refine nn fun nG => ?_
  obtain ⟨_, _, _, mg, mb, Tp⟩ := cx.top
  obtain ⟨bm, ob, q1, q2, q3, q4, q5, q6⟩ := Tp.bmain
  refine nG ?_
  clear nG
  refine kla_makeFunction (mg := mg) hclos lc.glob (Tp.g.keeps rl.stay) T.code (T.hd.keeps rl.stay) T.here T.tri hnf ?_ ?_ fun c' ctv h1 tk1 hx1 hge hlt hrec htb => ?_
  · intro q
    refine nn fun nG => ?_
    obtain ⟨o, es, ep, e, _⟩ := Tp.g
    refine nG ?_
    clear nG
    rw [q, T.no] at e; cases e
  · refine ⟨bm, ob, q1, q2, fun q => ?_, fun q => ?_, rl.stay _ _ q3, q4, q5, q6⟩
    · refine nn fun nG => ?_
      obtain ⟨o, es, ep, e, hd, _⟩ := Tp.g
      refine nG ?_
      clear nG
      rw [q, e] at q3; cases q3; rw [hd] at q6; cases q6
    · rw [q, T.no] at q3; cases q3
  generalize hpm' : (mg "__name__").getD Value.none = pm'
  have kp : Kp (· = 243) s.heap (h1.push (kla_obj "<lambda>" (env.qual ++ "<lambda>") lparams body lscope [(x, c)] pm' c' ctv)) := fun b o nb e => Heap.get?_push_of_some _ (hx1 b o nb e)
  have hself : (h1.push (kla_obj "<lambda>" (env.qual ++ "<lambda>") lparams body lscope [(x, c)] pm' c' ctv)).get? h1.objs.size = some (kla_obj "<lambda>" (env.qual ++ "<lambda>") lparams body lscope [(x, c)] pm' c' ctv) := Heap.get?_push_size _ rfl
  have htb2 := Heap.get?_push_of_some (kla_obj "<lambda>" (env.qual ++ "<lambda>") lparams body lscope [(x, c)] pm' c' ctv) htb
  have hrec2 : (h1.push (kla_obj "<lambda>" (env.qual ++ "<lambda>") lparams body lscope [(x, c)] pm' c' ctv)).CodeRec (.ref c') (env.qual ++ "<lambda>") := hrec.keeps fun b o e => Heap.get?_push_of_some _ e
  generalize h1.push (kla_obj "<lambda>" (env.qual ++ "<lambda>") lparams body lscope [(x, c)] pm' c' ctv) = h2 at kp hself htb2 hrec2 ⊢
  have fld : Fld (· = 243) s.heap := by rintro _ rfl; exact ⟨_, _, T.here, rfl⟩
  have l2 : Rl C h2 ρ μ := rl.fld kp fld (by rintro _ rfl; exact T.no)
  have lc2 : Lc C env h2 ρ loc := lc.kp kp fld.bare (by rintro _ rfl; exact T.nse lc)
  have T2 : TabOk C env h2 (ps ++ #[rawInt lpos.line, rawInt lpos.col, .ref c']) := ⟨T.hd, T.code, T.no, htb2, by rw [Array.toList_append]; exact TriplesOk_snoc _ _ _ _ T.tri⟩
  refine wpAny_items_nil ⟨l2.stay _ _ (cx.kin _ _ hfn), ?_⟩
  refine nn fun nG => ?_
  obtain ⟨u, hu, ru⟩ := lc2.held _ m
  refine nG ?_
  clear nG
  have hcell' : h2.IsCell c (some u) := by
    rcases hu with ⟨k, _⟩ | ⟨_, c₂, hc, i⟩
    · rw [hxk] at k; cases k
    · rw [hxl] at hc; cases hc; exact i
  refine heard_call (s := ⟨h2, _, _, _, _⟩) B hfn hhcd hhb hhc hhl hhw hhe hhco hhgen hhk cx l2 hn hself rfl hrec2 (hbind _ _ _ _ _) hcell hco hgen hk rfl hx hxc hcell' ru (fun L C' e1 e2 e3 => h L _ _ C' e1 e2 e3) fun k t μ' ρ' h3 tk3 hX l3 g3 => ?_
  obtain ⟨hk1, hQ⟩ := hX
  have lc3 := lc2.mono l2 g3
  have T3 := T2.grow l2 lc2 g3.up
  refine (hy μ').go (s := ⟨h3, _, _, _, _⟩) cx l3 lc3 ErP.none fun v' d' μ₄ ρ₄ h₄ tk₄ r₄ q₄ l₄ e₄ => ?_
  refine nn fun nG => ?_
  obtain ⟨rfl, rfl⟩ := q₄
  obtain ⟨y', t', rfl, e5⟩ := r₄.strInv
  refine nG ?_
  clear nG
  have hne : (k != y') = false := by rw [cs_bne, hk1, e5]; simp
  have T4 := T3.grow l3 lc3 e₄.grow.up
  have fin := p .next .next loc μ₄ _ ρ₄ h₄ tk₄ .next (hQ c') l₄ (lc3.mono l3 e₄.grow) T4
  refine PyProof.Rows.ne_str ?_
  rw [hne]
  exact wpAny_truthy_bool (by rw [if_neg (by decide)]; exact wpAny_execs_nil fin)
end
end Mine
end

section
set_option maxHeartbeats 1000000
open PySem PySem.W PyProof.Rows PySem.Spec PySem.Calls PySem.SeqAt
set_option Elab.async false
set_option linter.unusedVariables false
set_option linter.unusedSimpArgs false
set_option maxRecDepth 100000
namespace Mine

/-! ## cells stored -/
section
variable {prog : Program} {w : World} {C : Ctx} {env : Env} {loc : Loc} {Q Q' : FV → Loc → St → Prop} {X X' : Str → St → Prop} {s : Shared} {ρ : List Addr} {P : Flow → Shared → Prop} {PE : Value → Shared → Prop} {μ : St}
theorem store_cell {A : Around} {E : Value → Shared → Prop} {x : Str} {u : Value} {v : V} {c : Addr} {PU : Unit → Shared → Prop} (rl : Rl C s.heap ρ μ) (lc : Lc C env s.heap ρ loc) (hk : env.kindOf x = some .cell) (hc : env.cells.lookup x = some c) (h0 : C.h₀.get? c = none)
    (hap : ∀ y c', env.cells.lookup y = some c' → y ≠ x → c' ≠ c) (r : RV s.heap ρ u v)
    (h : ∀ h' tk, Rl C h' ρ μ → Lc C env h' ρ (put x v loc) → Ext (SE env) s.heap ρ h' ρ → PU () { s with heap := h', toks := tk }) : wpAny (model prog w) A (storeName env x u) PU E s := by
  refine nn fun nG => ?_
  obtain ⟨q, hq, eqc⟩ := mem_cells hc
  obtain ⟨v0, ic⟩ := lc.cel q hq
  refine nG ?_
  clear nG
  rw [eqc] at ic
  have sec : SE env c := .inr ⟨q, hq, eqc⟩
  refine wpAny_storeName_cell lc.kind hk hc ic fun h' ic' sb => ?_
  have kp : Kp (· = c) s.heap h' := sb_kp sb
  have bc : Bare (· = c) s.heap := by rintro a o rfl; exact lc.bare a o sec
  have exc : Ext (· = c) s.heap ρ h' ρ := kp.ext (by rintro _ rfl; obtain ⟨o, ho, _⟩ := ic'; rw [ho]; simp)
  have l' : Rl C h' ρ μ := rl.kp kp bc (by rintro _ rfl; exact h0) (fun env' m' L hL q => by
    refine nn fun nG => ?_
    obtain ⟨_, L', mm, q1, _, o, es, ep, ho, hd, _⟩ := rl.frm env' m'
    refine nG ?_
    clear nG
    rw [hL] at q1; cases q1
    refine nn fun nG => ?_
    obtain ⟨o2, ho2, hd2⟩ := ic
    refine nG ?_
    clear nG
    rw [q, ho2] at ho; cases ho; rw [hd2] at hd; cases hd)
  have nL : env.locals ≠ c := fun q => by
    refine nn fun nG => ?_
    obtain ⟨mm, o, es, ep, ho, hd, _⟩ := lc.ns
    obtain ⟨o2, ho2, hd2⟩ := ic
    refine nG ?_
    clear nG
    rw [q, ho2] at ho; cases ho; rw [hd2] at hd; cases hd
  refine h h' _ l' ⟨lc.kind, lc.glob, lc.bult, ?_, lc.hn, fun d hd => ?_, (put_keys lc.nd).1, fun p hp => ?_⟩ (exc.weak fun a q => by rw [q]; exact sec)
  · obtain ⟨mm, n⟩ := lc.ns; exact ⟨mm, kp.ns n nL⟩
  · by_cases e : d.2 = c
    · exact ⟨_, e ▸ ic'⟩
    · obtain ⟨v', i⟩ := lc.cel d hd; exact ⟨v', kp.cell i e⟩
  · rcases put_mem lc.nd p hp with rfl | ⟨hm, hne⟩
    · exact ⟨u, .inr ⟨.inl hk, c, hc, ic'⟩, r.kp kp bc⟩
    · refine nn fun nG => ?_
      obtain ⟨v', hv', r'⟩ := lc.held p hm
      refine nG ?_
      clear nG
      refine ⟨v', ?_, r'.kp kp bc⟩
      rcases hv' with ⟨k, m', n, e⟩ | ⟨k, c', hc', i⟩
      · exact .inl ⟨k, m', kp.ns n nL, e⟩
      · exact .inr ⟨k, c', hc', kp.cell i (hap _ _ hc' hne)⟩
/-- a name that may be stored -/
noncomputable def St1 (C : Ctx) (env : Env) (x : Str) : Prop := env.kindOf x = some .local ∨ (env.kindOf x = some .cell ∧ ∃ c, env.cells.lookup x = some c ∧ C.h₀.get? c = none ∧ ∀ y c', env.cells.lookup y = some c' → y ≠ x → c' ≠ c)
theorem store_any {A : Around} {E : Value → Shared → Prop} {x : Str} {u : Value} {v : V} {PU : Unit → Shared → Prop} (rl : Rl C s.heap ρ μ) (lc : Lc C env s.heap ρ loc) (hk : St1 C env x) (r : RV s.heap ρ u v)
    (h : ∀ h' tk, Rl C h' ρ μ → Lc C env h' ρ (put x v loc) → Ext (SE env) s.heap ρ h' ρ → PU () { s with heap := h', toks := tk }) : wpAny (model prog w) A (storeName env x u) PU E s := by
  rcases hk with hk | ⟨hk, c, hc, h0, hap⟩
  · exact store_at rl lc hk r h
  · exact store_cell rl lc hk hc h0 hap r h
theorem ex_assign1 {x : Str} {pos' : Pos} {value : Expr} {pos : Pos} (h : Ev prog w C RV env X (eval value env) loc (fun v μ₁ => Q .next (put x v loc) μ₁) μ)
    (hk : St1 C env x) (hs : swapsWith value (some (.Name x pos')) pos.line env = pure false) :
    Ex prog w C env (exec (.Assign [.Name x pos'] value pos) env) X Q loc μ := by
  intro A s ρ cx rl lc P PE p pe
  with_reducible refine wpAny_Assign_Name ?_ hs
  refine h.go cx rl lc pe.up fun u v μ₁ ρ₁ h₁ tk₁ r₁ q₁ l₁ e₁ => ?_
  exact store_any (s := ⟨h₁, _, _, _, _⟩) l₁ (lc.mono rl e₁.grow) hk r₁ fun h' tk l₂ lc₂ e₂ => p _ _ _ _ _ h' tk .next q₁ l₂ lc₂ (e₁.up.trans e₂)
theorem ast_two1 {x y : Str} {px py : Pos} {k} {tpos : Pos} {a b : V} (hx : St1 C env x) (hy : St1 C env y) : AsT prog w C env (.Tuple [.Name x px, .Name y py] k tpos) (.tup [a, b]) loc (put y b (put x a loc)) := by
  intro A s ρ μ u PU E cx rl lc r h
  refine nn fun nG => ?_
  obtain ⟨t, us, rfl, ht, hn, rs⟩ := r.tupInv
  refine nG ?_
  clear nG
  obtain ⟨u1, u2, rfl, r1, r2⟩ : ∃ u v, us = [u, v] ∧ RV s.heap ρ u a ∧ RV s.heap ρ v b := by
    cases rs with | cons r q => cases q with | cons r' q => cases q; exact ⟨_, _, rfl, r, r'⟩
  refine assign_Tuple_tuple cx.hand ht.tup rfl rfl fun h' eb => ?_
  have k := keeps_eb eb
  have x := ext_of (ρ := ρ) k
  have lc' := lc.mono rl x.grow
  show wpAny _ _ (assignInOrder [assign (.Name _ _) env, assign (.Name _ _) env] [u1, u2]) _ _ _
  with_reducible refine PyProof.Rows.assignInOrder_cons (PyProof.Rows.assign_Name ?_)
  refine store_any (s := ⟨h', _, _, _, _⟩) (rl.keeps k) lc' hx (r1.mono x.grow bare_no) fun h₁ tk₁ l₁ lc₁ e₁ => ?_
  with_reducible refine PyProof.Rows.assignInOrder_cons (PyProof.Rows.assign_Name ?_)
  refine store_any (s := ⟨h₁, _, _, _, _⟩) l₁ lc₁ hy ((r2.mono x.grow bare_no).mono e₁.grow lc'.bare) fun h₂ tk₂ l₂ lc₂ e₂ => ?_
  with_reducible refine PyProof.Rows.assignInOrder_nil ?_
  exact h h₂ _ l₂ lc₂ ((x.up.trans e₁).trans e₂)
theorem ex_asg21 {x y : Str} {px py : Pos} {k} {tpos : Pos} {value : Expr} {pos : Pos}
    (h : Ev prog w C RV env X (eval value env) loc (fun v μ₁ => ∃ a b, v = .tup [a, b] ∧ Q .next (put y b (put x a loc)) μ₁) μ) (hx : St1 C env x) (hy : St1 C env y)
    (hs : swapsWithSole [.Tuple [.Name x px, .Name y py] k tpos] value pos.line env = pure false) (hw : swappedStores [.Tuple [.Name x px, .Name y py] k tpos] value env = pure none) :
    Ex prog w C env (exec (.Assign [.Tuple [.Name x px, .Name y py] k tpos] value pos) env) X Q loc μ :=
  ex_asgT (h.mono (fun v μ₁ ⟨a, b, e, q⟩ => ⟨_, e ▸ ast_two1 hx hy, q⟩) fun _ _ x => x) hs hw
end

/-! ## a def whose first parameter is a cell -/
section
variable {prog : Program} {w : World} {C : Ctx} {X : Str → St → Prop} {env : Env} {loc : Loc} {Q : V → St → Prop} {μ : St}
theorem op_defc {f : Addr} {oc : Value} {od : Option Addr} {osl : Array (Option Value)} {name qual : Str} {params : Arguments} {body : List Stmt} {scope : Scope} {dV kV doc pm : Value} {an : Option Addr} {cdv ct : Value} {x0 x1 x2 : Str} {v0 v1 v2 : V}
    (ho : C.K.lookup f = some ⟨oc, od, .func (fnOf name qual params body scope dV kV doc pm an cdv ct), osl⟩) (hcd : codeIn C.K cdv qual = true) (hn : 0 < C.n)
    (hbind : ∀ a b c, bindArgs (fnOf name qual params body scope dV kV doc pm an cdv ct) ⟨[a, b, c], []⟩ = pure [(x0, a), (x1, b), (x2, c)])
    (h0 : scope.names.lookup x0 = some .cell) (h1 : scope.names.lookup x1 = some .local) (h2 : scope.names.lookup x2 = some .local) (hd : x1 ≠ x0 ∧ x2 ≠ x0 ∧ x2 ≠ x1)
    (hcl : ∀ n, cellsFrom n scope.names [] = [(x0, n)])
    (hco : scope.isCoroutine = false) (hgen : scope.isGenerator = false) (hk : scope.kind = .function)
    (h : ∀ L C', C'.K = C.K → C'.n + 1 = C.n → C'.h₀ = C.h₀ → C'.fs = envX qual scope L f cdv [(x0, L + 1)] :: C.fs → Ex prog w C' (envX qual scope L f cdv [(x0, L + 1)]) (execs body (envX qual scope L f cdv [(x0, L + 1)])) X (fun F _ μ' => match F with | .ret v => Q v μ' | _ => Q .none μ') [(x0, v0), (x1, v1), (x2, v2)] μ) :
    Op prog w C RV (fun us => call (.ref f) us) X Q [v0, v1, v2] μ := by
  intro A s ρ us cx rl r P PE p pe
  refine nn fun nG => ?_
  obtain ⟨u0, u1, u2, rfl, r0, r1, r2⟩ := r.three
  obtain ⟨_, _, _, _, _, T⟩ := cx.top
  refine nG ?_
  clear nG
  refine wpAny_call (codeAny_call_cells (fd := fnOf name qual params body scope dV kV doc pm an cdv ct) (binds := [(x0, u0), (x1, u1), (x2, u2)]) (by have := cx.depth; (first | lia | omega)) (rl.stay _ _ (cx.kin _ _ ho)) rfl (T.nolimit.keeps rl.stay) ((codeRec_of cx.kin hcd).keeps rl.stay) rfl (hbind _ _ _) rfl ?_ (fun s₁ X₁ => ?_) hco hgen hk)
  · intro x hx
    rcases List.mem_cons.mp hx with rfl | hx
    · exact .inr ⟨h0, by show ((cellsFrom _ scope.names []).lookup x0).isSome = true; rw [hcl]; simp⟩
    rcases List.mem_cons.mp hx with rfl | hx
    · exact .inl h1
    rcases List.mem_cons.mp hx with rfl | hx
    · exact .inl h2
    · cases hx
  refine nn fun nG => ?_
  obtain ⟨g, tk, rfl, keep⟩ := X₁.done
  refine nG ?_
  clear nG
  have eE : callEnvC (fnOf name qual params body scope dV kV doc pm an cdv ct) s.heap.objs.size f = envX qual scope s.heap.objs.size f cdv [(x0, s.heap.objs.size + 1)] := by
    show envX qual scope s.heap.objs.size f cdv (cellsFrom (s.heap.objs.size + 1) scope.names []) = _
    rw [hcl]
  rw [eE] at X₁ ⊢
  have hns : g.Ns s.heap.objs.size _ := X₁.toInCall.ns
  have hcc : g.IsCell (s.heap.objs.size + 1) _ := X₁.cell x0 _ (by show List.lookup x0 [(x0, s.heap.objs.size + 1)] = _; simp)
  have k0 : (envX qual scope s.heap.objs.size f cdv [(x0, s.heap.objs.size + 1)]).kindOf x0 = some .cell := h0
  have k1 : (envX qual scope s.heap.objs.size f cdv [(x0, s.heap.objs.size + 1)]).kindOf x1 = some .local := h1
  have k2 : (envX qual scope s.heap.objs.size f cdv [(x0, s.heap.objs.size + 1)]).kindOf x2 = some .local := h2
  simp only [bindL, bindC, k0, k1, k2] at hns hcc
  have nkk : (some NameKind.cell = some NameKind.local) = False := by simp
  simp only [nkk, if_true, if_false] at hns hcc
  have fr : s.heap.get? s.heap.objs.size = none := fresh_none
  have fr0 := fresh_h₀ rl fr
  have frc : s.heap.get? (s.heap.objs.size + 1) = none := Heap.get?_none_of_le (Nat.le_succ _)
  have x0e := ext_of (ρ := ρ) keep
  have l0 : Rl (C.push (envX qual scope s.heap.objs.size f cdv [(x0, s.heap.objs.size + 1)])) g ρ μ := (rl.keeps keep).push hk rfl fr0 hns
  have lc0 : Lc (C.push (envX qual scope s.heap.objs.size f cdv [(x0, s.heap.objs.size + 1)])) (envX qual scope s.heap.objs.size f cdv [(x0, s.heap.objs.size + 1)]) g ρ [(x0, v0), (x1, v1), (x2, v2)] := by
    refine ⟨hk, rfl, rfl, ⟨_, hns⟩, fr0, ?_, ?_, fun q m => ?_⟩
    · intro q m
      have m' : q ∈ [(x0, s.heap.objs.size + 1)] := m
      rw [List.mem_singleton.mp m']
      exact ⟨_, hcc⟩
    · simp; exact ⟨⟨Ne.symm hd.1, Ne.symm hd.2.1⟩, Ne.symm hd.2.2⟩
    · rcases List.mem_cons.mp m with rfl | m
      · exact ⟨u0, .inr ⟨.inl k0, s.heap.objs.size + 1, by show List.lookup x0 [(x0, s.heap.objs.size + 1)] = _; simp, hcc⟩, r0.mono x0e.grow bare_no⟩
      rcases List.mem_cons.mp m with rfl | m
      · exact ⟨u1, .inl ⟨k1, _, hns, by simp [Ne.symm hd.2.2]⟩, r1.mono x0e.grow bare_no⟩
      rcases List.mem_cons.mp m with rfl | m
      · exact ⟨u2, .inl ⟨k2, _, hns, by simp⟩, r2.mono x0e.grow bare_no⟩
      · cases m
  have seL : ∀ a, SE (envX qual scope s.heap.objs.size f cdv [(x0, s.heap.objs.size + 1)]) a → s.heap.get? a = none := by
    rintro a (rfl | ⟨c, hc, rfl⟩)
    · exact fr
    · have m' : c ∈ [(x0, s.heap.objs.size + 1)] := hc
      rw [List.mem_singleton.mp m']; exact frc
  refine (h s.heap.objs.size (C.push _) rfl (by show C.n - 1 + 1 = C.n; (first | lia | omega)) rfl rfl).go (s := ⟨g, _, _, _, _⟩) (cx.push hn _) l0 lc0 ?_ ?_
  · intro e k μ' ρ' h' tk x l ex gr
    refine leaving_exc (s := ⟨h', _, _, _, _⟩) (cx.push hn _) l rfl rfl ex fun h₁ x₁ S₁ => ?_
    have xC : ExcAt C h₁ e k .none := x₁
    have gr' : Grow no s.heap ρ h' ρ' := (x0e.grow.up.trans (gr.weak fun _ q => Or.inl q)).drop (W := SE (envX qual scope s.heap.objs.size f cdv [(x0, s.heap.objs.size + 1)])) (S := no) seL
    exact pe e k μ' ρ' h₁ tk x (S₁.rl l).pop xC.exc (gr'.trans S₁.grow)
  · intro F F' loc' μ' ρ' h' tk rf q l lc e
    have e' : Ext no s.heap ρ h' ρ' := (x0e.up.trans (e.weak fun _ q => Or.inl q)).drop (W := SE (envX qual scope s.heap.objs.size f cdv [(x0, s.heap.objs.size + 1)])) (S := no) seL
    cases rf with
    | next => exact p _ _ μ' ρ' h' tk .none q l.pop e'
    | brk => exact p _ _ μ' ρ' h' tk .none q l.pop e'
    | cont => exact p _ _ μ' ρ' h' tk .none q l.pop e'
    | ret r => exact p _ _ μ' ρ' h' tk r q l.pop e'
end
end Mine
end

section
set_option maxHeartbeats 1000000
open PySem PySem.W PyProof.Rows PySem.Spec PySem.Calls PySem.SeqAt
set_option Elab.async false
set_option linter.unusedVariables false
set_option linter.unusedSimpArgs false
set_option maxRecDepth 100000
namespace Mine

/-! ## lists compared -/
noncomputable def IsDat : V → Bool
  | .tup l => l.all IsFl
  | d => IsFl d
theorem flq_self {d : V} (h : IsFl d = true) : flq d d = true := by cases d <;> simp [IsFl] at h <;> simp [flq]
theorem leq_self : ∀ {l : List V}, l.all IsFl = true → leq l l = true
  | [], _ => rfl
  | a :: l, h => by
    rw [List.all_cons, Bool.and_eq_true] at h
    rw [leq, flq_self h.1, leq_self h.2]; rfl
theorem dat_eq {A : Around} {s : Shared} {ρ : List Addr} {u v : Value} {d : V} (hu : RV s.heap ρ u d) (hv : RV s.heap ρ v d) (h : IsDat d = true) (hc : A.units < cLine) : EqAt A s u v true := by
  cases d with
  | tup l =>
    refine nn fun nG => ?_
    obtain ⟨⟨a, b, rfl, rfl⟩, x⟩ := tup_at hu hv h h hc
    refine nG ?_
    clear nG
    rw [leq_self h] at x
    by_cases e : a = b
    · rw [e]; exact EqAt.same _
    · exact EqAt.of_refs e x
  | int i => have := fl_at (A := A) (s := s) hu hv rfl rfl; simpa [flq] using this
  | str i => have := fl_at (A := A) (s := s) hu hv rfl rfl; simpa [flq] using this
  | _ => simp [IsDat, IsFl] at h
section
variable {prog : Program} {w : World} {C : Ctx} {X : Str → St → Prop} {env : Env} {loc : Loc} {Q : V → St → Prop} {μ : St}
theorem all_true {n : Nat} : (List.range n).all (fun _ => true) = true := by simp
theorem lists_pair {A : Around} {s : Shared} {ρ : List Addr} {vs us : List Value} {l : List V} (r1 : RVs s.heap ρ vs l) (r2 : RVs s.heap ρ us l) (hl : l.all IsDat = true) (hc : A.units < cLine) :
    ∀ j (h1 : j < vs.toArray.size) (h2 : j < us.toArray.size), EqAt A s vs.toArray[j] us.toArray[j] true := by
  intro j h1 h2
  have g1 : j < l.length := by rw [← r1.length]; simpa using h1
  refine nn fun nG => ?_
  obtain ⟨x, hx, rx⟩ := r1.get (List.getElem?_eq_getElem g1)
  obtain ⟨y, hy, ry⟩ := r2.get (List.getElem?_eq_getElem g1)
  refine nG ?_
  clear nG
  have ex : vs.toArray[j] = x := by simpa using (List.getElem?_eq_some_iff.mp hx).2
  have ey : us.toArray[j] = y := by simpa using (List.getElem?_eq_some_iff.mp hy).2
  rw [ex, ey]
  exact dat_eq rx ry (List.all_eq_true.mp hl _ (List.getElem_mem _)) hc
theorem o_ne_same {d e : V} {l : List V} (hn : 1 ≤ C.n) (hd : Lists μ d l) (he : Lists μ e l) (hl : l.all IsDat = true) (h : Q (.bool false) μ) : Op2 prog w C RV (compareOp .NotEq) X Q d e μ := by
  intro A s ρ u v cx rl ru rv P PE p pe
  refine nn fun nG => ?_
  obtain ⟨a, vs, rfl, il, rs⟩ := hd.at rl ru
  obtain ⟨b, us, rfl, il2, rs2⟩ := he.at rl rv
  refine nG ?_
  clear nG
  have hu := cx.units
  have x := RcNeAt.lists (A := A) (e := fun _ => true) il il2 (by simp [rs.length, rs2.length]) (by (first | lia | omega)) (lists_pair rs rs2 hl (by show A.units + 1 < _; (first | lia | omega)))
  rw [all_true] at x
  exact x prog w _ _ (p.at (.bool _) h rl)
theorem o_eq_same {d e : V} {l : List V} (hn : 1 ≤ C.n) (hd : Lists μ d l) (he : Lists μ e l) (hl : l.all IsDat = true) (h : Q (.bool true) μ) : Op2 prog w C RV (compareOp .Eq) X Q d e μ := by
  intro A s ρ u v cx rl ru rv P PE p pe
  refine nn fun nG => ?_
  obtain ⟨a, vs, rfl, il, rs⟩ := hd.at rl ru
  obtain ⟨b, us, rfl, il2, rs2⟩ := he.at rl rv
  refine nG ?_
  clear nG
  have hu := cx.units
  have x := RcAt.lists (A := A) (e := fun _ => true) il il2 (by simp [rs.length, rs2.length]) (by (first | lia | omega)) (lists_pair rs rs2 hl (by show A.units + 1 < _; (first | lia | omega)))
  rw [all_true] at x
  exact x prog w _ _ (p.at (.bool _) h rl)
theorem o_eq_size {d e : V} {l k : List V} (hn : 1 ≤ C.n) (hd : Lists μ d l) (he : Lists μ e k) (hl : l.length ≠ k.length) (h : Q (.bool false) μ) : Op2 prog w C RV (compareOp .Eq) X Q d e μ := by
  intro A s ρ u v cx rl ru rv P PE p pe
  refine nn fun nG => ?_
  obtain ⟨a, vs, rfl, il, rs⟩ := hd.at rl ru
  obtain ⟨b, us, rfl, il2, rs2⟩ := he.at rl rv
  refine nG ?_
  clear nG
  have hu := cx.units
  have x := RcAt.lists_lengths (A := A) il il2 (by simp [rs.length, rs2.length]; exact hl) (by (first | lia | omega))
  exact x prog w _ _ (p.at (.bool _) h rl)

/-! ## slices of a list -/
theorem RVs.take {h : Heap} {ρ : List Addr} {vs : List Value} {ds : List V} (r : RVs h ρ vs ds) (n : Nat) : RVs h ρ (vs.take n) (ds.take n) := by
  induction n generalizing vs ds with
  | zero => exact .nil
  | succ n ih => cases r with
    | nil => exact .nil
    | cons a b => exact .cons a (ih b)
theorem RVs.drop {h : Heap} {ρ : List Addr} {vs : List Value} {ds : List V} (r : RVs h ρ vs ds) (n : Nat) : RVs h ρ (vs.drop n) (ds.drop n) := by
  induction n generalizing vs ds with
  | zero => exact r
  | succ n ih => cases r with
    | nil => exact .nil
    | cons a b => exact ih b
theorem pick_nn {vs : List Value} {a b : Nat} (h0 : a ≤ b) : slicePick vs.toArray (some (a : Int)) (some (b : Int)) none = ((vs.take b).drop a).toArray := by
  have hab : min a vs.length ≤ min b vs.length := by (first | lia | omega)
  · have e : slicePick vs.toArray (some (a : Int)) (some (b : Int)) none = slicePick vs.toArray (some ((min a vs.length : Nat) : Int)) (some ((min b vs.length : Nat) : Int)) none := by
      unfold slicePick sliceBounds
      simp only [Option.getD_none, show (1 : Int) > 0 by decide, if_true, List.size_toArray]
      have h1 : ¬ ((a : Int) < 0) := by (first | lia | omega)
      have h2 : ¬ ((b : Int) < 0) := by (first | lia | omega)
      have h3 : ¬ (((min a vs.length : Nat) : Int) < 0) := by (first | lia | omega)
      have h4 : ¬ (((min b vs.length : Nat) : Int) < 0) := by (first | lia | omega)
      simp only [h1, h2, h3, h4, if_false]
      have e1 : max 0 (min (a : Int) (vs.length : Int)) = max 0 (min ((min a vs.length : Nat) : Int) (vs.length : Int)) := by (first | lia | omega)
      have e2 : max 0 (min (b : Int) (vs.length : Int)) = max 0 (min ((min b vs.length : Nat) : Int) (vs.length : Int)) := by (first | lia | omega)
      first | rw [e1, e2] | (simp only [e1, e2])
    rw [e, slicePick_run _ _ _ (by simp; (first | lia | omega)) hab]
    congr 1
    apply List.ext_getElem?
    intro k
    simp only [List.getElem?_take, List.getElem?_drop]
    split <;> split <;> first | rfl | (simp only [List.getElem?_eq_none_iff]; (first | lia | omega)) | skip
    · congr 1; (first | lia | omega)
    · symm
      apply List.getElem?_eq_none_iff.mpr; (first | lia | omega)
theorem pick_0n {vs : List Value} {b : Nat} : slicePick vs.toArray none (some (b : Int)) none = (vs.take b).toArray := by
  have := pick_nn (vs := vs) (Nat.zero_le b)
  rw [List.drop_zero] at this
  rw [← this]
  unfold slicePick sliceBounds
  have e : max (0 : Int) (min 0 (vs.length : Int)) = 0 := by (first | lia | omega)
  simp [e]
theorem push2_keeps {h : Heap} (o o' : Obj) : ∀ b x, h.get? b = some x → ((h.push o).push o').get? b = some x := fun b x e => Heap.get?_push_of_some _ (Heap.get?_push_of_some _ e)
theorem ev_lslice {value : Expr} {lo hi : Expr} {p pos}
    (h : Ev prog w C RV env X (eval value env) loc (fun v μ₁ => Ev prog w C RV env X (eval lo env) loc (fun i μ₂ => Ev prog w C RV env X (eval hi env) loc (fun j μ₃ => ∃ l, ∃ a b : Nat, Lists μ₃ v l ∧ i = .int a ∧ j = .int b ∧ a ≤ b ∧ l.length ≤ 1000000 ∧ Q (.fro ((l.take b).drop a)) μ₃) μ₂) μ₁) μ)
    (ht : ∀ o r, letTemporaryGo value o r = pure ()) :
    Ev prog w C RV env X (eval (.Subscript value (.Slice (some lo) (some hi) none p) pos) env) loc Q μ := by
  intro A s ρ cx rl lc P PE pp pe
  refine wpAny_Subscript_list_slice ?_ ht
  refine h.go cx rl lc pe fun v dv μ₁ ρ₁ h₁ tk₁ r₁ q₁ l₁ e₁ => ?_
  rw [evalPart_some]
  refine q₁.go cx l₁ (lc.mono rl e₁.grow) (pe.then e₁) fun i di μ₂ ρ₂ h₂ tk₂ r₂ q₂ l₂ e₂ => ?_
  rw [evalPart_some]
  refine q₂.go cx l₂ ((lc.mono rl e₁.grow).mono l₁ e₂.grow) ((pe.then e₁).then e₂) fun j dj μ₃ ρ₃ h₃ tk₃ r₃ q₃ l₃ e₃ => ?_
  refine nn fun nG => ?_
  obtain ⟨l, a, b, hL, rfl, rfl, hab, hs, q⟩ := q₃
  obtain ⟨ad, vs, rfl, il, rs⟩ := hL.at l₃ ((r₁.mono e₂.grow bare_no).mono e₃.grow bare_no)
  obtain ⟨ta, rfl⟩ := r₂.intInv
  obtain ⟨tb, rfl⟩ := r₃.intInv
  refine nG ?_
  clear nG
  refine ⟨ad, vs.toArray, some a, some b, rfl, il, by rw [List.size_toArray, rs.length, sizeLine_eq]; (first | lia | omega), .int _ _, .int _ _, ?_⟩
  rw [pick_nn hab]
  have kk := push2_keeps (h := h₃) { cls := .type "slice", data := .fields #[.int a ta, .int b tb, .none] } { cls := .type "list", data := .seq ((vs.take b).drop a).toArray }
  have xx := ext_of (ρ := ρ₃) kk
  refine (((pp.then e₁).then e₂).then e₃) (.ref (h₃.objs.size + 1)) (.fro ((l.take b).drop a)) μ₃ ρ₃ _ tk₃ ?_ q (l₃.keeps kk) xx
  exact .fro ⟨_, Heap.get?_push_at (by simp only [Heap.size_push]) rfl⟩ (l₃.nins (Heap.get?_none_of_le (Nat.le_succ _))) (((rs.take b).drop a).mono xx.grow bare_no)
theorem ev_lslice0 {value : Expr} {hi : Expr} {p pos}
    (h : Ev prog w C RV env X (eval value env) loc (fun v μ₁ => Ev prog w C RV env X (eval hi env) loc (fun j μ₃ => ∃ l, ∃ b : Nat, Lists μ₃ v l ∧ j = .int b ∧ l.length ≤ 1000000 ∧ Q (.fro (l.take b)) μ₃) μ₁) μ)
    (ht : ∀ o r, letTemporaryGo value o r = pure ()) :
    Ev prog w C RV env X (eval (.Subscript value (.Slice none (some hi) none p) pos) env) loc Q μ := by
  intro A s ρ cx rl lc P PE pp pe
  refine wpAny_Subscript_list_slice ?_ ht
  refine h.go cx rl lc pe fun v dv μ₁ ρ₁ h₁ tk₁ r₁ q₁ l₁ e₁ => ?_
  rw [evalPart_none]
  refine wpAny_pure ?_
  rw [evalPart_some]
  refine q₁.go cx l₁ (lc.mono rl e₁.grow) (pe.then e₁) fun j dj μ₃ ρ₃ h₃ tk₃ r₃ q₃ l₃ e₃ => ?_
  refine nn fun nG => ?_
  obtain ⟨l, b, hL, rfl, hs, q⟩ := q₃
  obtain ⟨ad, vs, rfl, il, rs⟩ := hL.at l₃ (r₁.mono e₃.grow bare_no)
  obtain ⟨tb, rfl⟩ := r₃.intInv
  refine nG ?_
  clear nG
  refine ⟨ad, vs.toArray, none, some b, rfl, il, by rw [List.size_toArray, rs.length, sizeLine_eq]; (first | lia | omega), .none, .int _ _, ?_⟩
  rw [pick_0n]
  have kk := push2_keeps (h := h₃) { cls := .type "slice", data := .fields #[.none, .int b tb, .none] } { cls := .type "list", data := .seq (vs.take b).toArray }
  have xx := ext_of (ρ := ρ₃) kk
  refine ((pp.then e₁).then e₃) (.ref (h₃.objs.size + 1)) (.fro (l.take b)) μ₃ ρ₃ _ tk₃ ?_ q (l₃.keeps kk) xx
  exact .fro ⟨_, Heap.get?_push_at (by simp only [Heap.size_push]) rfl⟩ (l₃.nins (Heap.get?_none_of_le (Nat.le_succ _))) ((rs.take b).mono xx.grow bare_no)
end
end Mine
end

section
set_option maxHeartbeats 1000000
open PySem PySem.W PyProof.Rows PySem.Spec PySem.Calls PySem.SeqAt
set_option Elab.async false
set_option linter.unusedVariables false
set_option linter.unusedSimpArgs false
set_option maxRecDepth 100000
namespace Mine

/-! ## enumerate -/
noncomputable def enumL (l : List V) : List V := (List.range l.length).map fun (i : Nat) => V.tup [.int i, l.getD i .none]
theorem enumL_get {l : List V} {k : Nat} {v : V} (h : (enumL l)[k]? = some v) : ∃ d, l[k]? = some d ∧ v = .tup [.int k, d] := by
  unfold enumL at h
  simp only [List.getElem?_map, Option.map_eq_some_iff] at h
  refine nn fun nG => ?_
  obtain ⟨c, h1, h2⟩ := h
  obtain ⟨h3, h4⟩ := List.getElem?_eq_some_iff.mp h1
  refine nG ?_
  clear nG
  simp at h3 h4
  subst h4
  exact ⟨l[k], List.getElem?_eq_getElem h3, by rw [← h2, List.getD_eq_getElem?_getD, List.getElem?_eq_getElem h3]; rfl⟩
section
variable {prog : Program} {w : World} {C : Ctx} {X : Str → St → Prop} {env : Env} {loc : Loc} {QI : List V → (St → Prop) → St → Prop} {μ : St}
theorem itr_enum {es : List Expr} {k : _} {p : Pos} {e it a : Addr} {d : V} {l : List V} (he0 : C.h₀.get? e = none) (hi0 : C.h₀.get? it = none) (hne : e ≠ it) :
    Itr prog w C (.Tuple es k p) (.ref e) (enumL l) (fun μ => Lists μ d l) (fun b => b = e ∨ b = it)
      (fun k h ρ => (∃ old, IsEnum h e it k old) ∧ h.IsListIter it a k ∧ e ∉ ρ ∧ it ∉ ρ ∧ RV h ρ (.ref a) d)
      (fun k u h ρ => ∃ x T, u = .ref T ∧ IsEnumOut h e it ((k : Int) + 1) x T ∧ h.IsListIter it a (k + 1) ∧ e ∉ ρ ∧ it ∉ ρ ∧ RV h ρ (.ref a) d) where
  keep := by
    intro k h ρ h' ρ' S hz1 x hS b
    refine nn fun nG => ?_
    obtain ⟨⟨old, he⟩, ⟨o, ho, hc, hd⟩, hne, hni, r⟩ := hz1
    refine nG ?_
    clear nG
    exact ⟨⟨old, x.keep e _ he hne (hS e (.inl rfl))⟩, ⟨o, x.keep it o ho hni (hS it (.inr rfl)), hc, hd⟩, x.grow.nin he hne, x.grow.nin ho hni, r.mono x.grow b⟩
  live := by
    rintro k h ρ b ⟨⟨old, he⟩, ⟨o, ho, hc, hd⟩, hne, hni, r⟩ (rfl | rfl)
    · exact ⟨hne, _, _, he, rfl⟩
    · exact ⟨hni, o, _, ho, hd⟩
  step := by
    intro k v A s ρ μ P E hv cx rl hM hz2 h
    refine nn fun nG => ?_
    obtain ⟨⟨old, he⟩, hit, hnr, hni, r⟩ := hz2
    refine nG ?_
    clear nG
    refine nn fun nG => ?_
    obtain ⟨d', hd', rfl⟩ := enumL_get hv
    obtain ⟨a', vs, ea, hl, rs⟩ := Lists.at rl r hM
    refine nG ?_
    clear nG
    cases ea
    refine nn fun nG => ?_
    obtain ⟨u, hu, ru⟩ := rs.get hd'
    refine nG ?_
    clear nG
    refine wpAny_pyNext_enum_item he hit hl (x := u) (by simpa using hu) hne fun h' ho hit' hT hsz hk => ?_
    have f : Fld (fun b => b = e ∨ b = it) s.heap := by
      rintro b (rfl | rfl)
      · exact ⟨_, _, he, rfl⟩
      · obtain ⟨o, ho, hc, hd⟩ := hit; exact ⟨o, _, ho, hd⟩
    have kp : Kp (fun b => b = e ∨ b = it) s.heap h' := fun b o nb x => hk b o (fun q => nb (.inl q)) (fun q => nb (.inr q)) x
    have fr : s.heap.get? s.heap.objs.size = none := fresh_none
    refine h (.ref s.heap.objs.size) h' _ (.tup ⟨_, hT⟩ (rl.nins fr) (.cons (.int _ _) (.cons (ru.kp kp f.bare) .nil))) ⟨_, _, rfl, ho, hit', hnr, hni, r.kp kp f.bare⟩ (rl.fld kp f ?_) (kp.ext ?_)
    · rintro b (rfl | rfl)
      · exact he0
      · exact hi0
    · rintro b (rfl | rfl)
      · rw [ho]; simp
      · obtain ⟨o, ho, _⟩ := hit'; rw [ho]; simp
  own := by
    intro k u v A s ρ μ P E cx rl ru hz3 h
    refine nn fun nG => ?_
    obtain ⟨x, T, rfl, ho, hit, hnr, hni, r⟩ := hz3
    refine nG ?_
    clear nG
    refine wpAny_letOwnedTupleGo_enum ho fun h' he' hs' => ?_
    have f : Fld (fun b => b = e ∨ b = it) s.heap := by
      rintro b (rfl | rfl)
      · exact ⟨_, _, ho, rfl⟩
      · obtain ⟨o, ho, hc, hd⟩ := hit; exact ⟨o, _, ho, hd⟩
    have kp : Kp (fun b => b = e ∨ b = it) s.heap h' := fun b o nb x => (hs'.2 b fun q => nb (.inl q)).trans x
    have hit' : h'.IsListIter it a (k + 1) := by obtain ⟨o, ho, r⟩ := hit; exact ⟨o, (hs'.2 it hne.symm).trans ho, r⟩
    refine h h' s.toks (ru.kp kp f.bare) ⟨⟨x, he'⟩, hit', hnr, hni, r.kp kp f.bare⟩ (rl.fld kp f ?_) (kp.ext ?_)
    · rintro b (rfl | rfl)
      · exact he0
      · exact hi0
    · rintro b (rfl | rfl)
      · rw [he']; simp
      · obtain ⟨o, ho, _⟩ := hit'; rw [ho]; simp
  stop := by
    intro k A s ρ μ P E hv cx rl hM hz4 h
    refine nn fun nG => ?_
    obtain ⟨⟨old, he⟩, hit, hnr, hni, r⟩ := hz4
    refine nG ?_
    clear nG
    refine nn fun nG => ?_
    obtain ⟨a', vs, ea, hl, rs⟩ := Lists.at rl r hM
    refine nG ?_
    clear nG
    cases ea
    refine wpAny_pyNext_enum_end cx.hand he hit hl (by simpa [rs.length, enumL] using hv) fun h' eb => ?_
    have f : Fld (fun b => b = e ∨ b = it) s.heap := by
      rintro b (rfl | rfl)
      · exact ⟨_, _, he, rfl⟩
      · obtain ⟨o, ho, hc, hd⟩ := hit; exact ⟨o, _, ho, hd⟩
    have kp : Kp (fun b => b = e ∨ b = it) s.heap h' := fun b o nb x => eb b o (fun q => nb (.inr q)) x
    refine h h' _ (rl.fld kp f ?_) kp
    rintro b (rfl | rfl)
    · exact he0
    · exact hi0
  named := by rintro ⟨x, p, q⟩; cases q
  self := fun j p => wpAny_pyIter_enum j.1.choose_spec p
theorem evi_enum {es : List Expr} {tk : _} {tp : Pos} {np pos : Pos} {e : Expr} (g : nsIn C.K mainGlobals "enumerate" = some none) (hk : env.kindOf "enumerate" = some .globalImplicit)
    (he : starEach [e] env = (false, eval e env) :: starEach [] env)
    (h : Ev prog w C RV env X (eval e env) loc (fun v μ₁ => ∃ l, Lx μ₁ v l ∧ QI (enumL l) (fun μ => Lists μ v l) μ₁) μ) : EvI prog w C env (.Tuple es tk tp) (.Call (.Name "enumerate" np) [e] [] pos) loc μ QI X := by
  intro A s ρ cx rl lc P PE p pe
  refine Call_ (builtinAt cx rl lc g (by boot_fast) (by decide) hk (by decide) ?_) rfl
  refine PyProof.Rows.callWith_type1 ((args_cons' (QL := fun vs μ₁ => ∃ v, vs = [v] ∧ ∃ l, Lx μ₁ v l ∧ QI (enumL l) (fun μ => Lists μ v l) μ₁) (h.mono (fun v μ₁ q => args_nil' ⟨v, rfl, q⟩) fun _ _ x => x) he).go cx rl lc pe fun us vs μ₁ ρ₁ h₁ tk₁ r₁ q₁ l₁ e₁ => ?_) he rfl
  refine nn fun nG => ?_
  obtain ⟨v, rfl, l, hL, q⟩ := q₁
  obtain ⟨u, rfl, ru⟩ := r₁.one
  obtain ⟨a, xs, rfl, ⟨n, ho⟩, rs⟩ := hL.at l₁ ru
  refine nG ?_
  clear nG
  refine call_enumerate_1 (s := ⟨h₁, _, _, _, _⟩) ho fun h' hE hI hsz kk => ?_
  refine wpAny_pyIter_enum (s := ⟨h', _, _, _, _⟩) hE ?_
  have frI : h₁.get? h₁.objs.size = none := fresh_none
  have frE : h₁.get? (h₁.objs.size + 1) = none := Heap.get?_none_of_le (Nat.le_succ _)
  have xx := ext_of (ρ := ρ₁) kk
  refine p _ _ _ _ _ _ μ₁ ρ₁ h' tk₁ (itr_enum (a := a) (d := v) (l := l) (fresh_h₀ l₁ frE) (fresh_h₀ l₁ frI) (Nat.succ_ne_self _)) q ⟨⟨_, hE⟩, hI, l₁.nins frE, l₁.nins frI, ru.mono xx.grow bare_no⟩ (l₁.keeps kk) (e₁.trans xx) ?_
  have nn : ∀ b, h₁.get? b = none → s.heap.get? b = none := fun b hb => by
    cases q : s.heap.get? b with
    | none => rfl
    | some o => exact absurd hb (e₁.live _ (by rw [q]; simp))
  rintro b (rfl | rfl)
  · exact nn _ frE
  · exact nn _ frI
end
end Mine
end

section
set_option maxHeartbeats 1000000
open PySem PySem.W PyProof.Rows PySem.Spec PySem.Calls PySem.SeqAt
set_option Elab.async false
set_option linter.unusedVariables false
set_option linter.unusedSimpArgs false
set_option maxRecDepth 100000
namespace Mine
section
variable {prog : Program} {w : World} {C : Ctx} {X : Str → St → Prop} {env : Env} {loc : Loc} {Q : V → St → Prop} {μ : St}
theorem ev_compif {elt iter tst : Expr} {x : Str} {px : Pos} {scope : Scope} {cl : List (Str × Addr)} {pos : Pos} (cloc : Loc)
    (hclos : closureFor scope env = pure cl) (hcell : ∀ y ∈ scope.names, y.2 ≠ .cell) (hkind : scope.kind = .function)
    (hnames : ∀ y ∈ scope.names, y.2 = .local → scope.names.lookup y.1 = some .local) (hx : scope.names.lookup x = some .local)
    (hfree : ∀ p ∈ cloc, p ∈ loc ∧ env.kindOf p.1 = some .cell ∧ (relabel scope env).names.lookup p.1 = some .cell ∧ cl.lookup p.1 = env.cells.lookup p.1 ∧ p.1 ≠ x)
    (hcl : ∀ c ∈ cl, c ∈ env.cells) (hnd : (cloc.map (·.1)).Nodup)
    (h : EvI prog w C env (.Name x px) iter loc μ (fun l M μ₁ => l.length ≤ 1000000 ∧ ∃ I : Nat → List V → St → Prop, I 0 [] (μ₁ ++ [[]]) ∧ (∀ k acc μ', I k acc μ' → M μ' ∧ μ'[μ₁.length]? = some acc) ∧
      (∀ k v acc μ' Cc, l[k]? = some v → I k acc μ' → Ev prog w C REq (compEnvC scope cl Cc env) (fun _ _ => False) (isTrue tst (compEnvC scope cl Cc env) (eval tst (compEnvC scope cl Cc env))) (put x v cloc) (fun b μ'' => if b then Ev prog w C RV (compEnvC scope cl Cc env) (fun _ _ => False) (eval elt (compEnvC scope cl Cc env)) (put x v cloc) (fun u μ'' => μ''[μ₁.length]? = some acc ∧ I (k + 1) (acc ++ [u]) (μ''.set μ₁.length (acc ++ [u]))) μ'' else I (k + 1) acc μ'') μ') ∧
      (∀ acc μ', I l.length acc μ' → Q (.lst μ₁.length) μ')) X)
    (hs : ∀ x, foldedSetIterable iter env x = pure x) :
    Ev prog w C RV env X (eval (.ListComp elt [⟨.Name x px, iter, [tst], 0⟩] scope pos) env) loc Q μ := by
  intro A s ρ cx rl lc P PE p pe
  rw [eval_ListComp]
  refine wpAny_comprehension_free (use := Option.none) rfl hs hclos hkind hnames (h A s ρ cx rl lc _ _ ?_ pe)
  intro it l M W J K μ₀ ρ₀ h₀ tk₀ hI hz1 j0 l0 e0 wn
  refine nn fun nG => ?_
  obtain ⟨hsz, I, i0, iM, turn, fin⟩ := hz1
  refine nG ?_
  clear nG
  refine wpAny_newObj_type (wpAny_newFunctionEnv hcell (by intro y hy; simp at hy) (fun h₁ hns₁ hsb₁ => ?_) hkind)
  dsimp only at hns₁ hsb₁ ⊢
  have kp0 := push_keeps (h := h₀) { cls := .type "list", data := .seq ([] : List Value).toArray }
  have il0 : LstE (h₀.push { cls := .type "list", data := .seq ([] : List Value).toArray }) h₀.objs.size [] := isList_push
  have frD : h₀.get? h₀.objs.size = none := fresh_none
  obtain ⟨l1, e1⟩ := l0.alloc (l := []) kp0 frD il0 .nil
  generalize hH2 : h₀.push { cls := .type "list", data := .seq ([] : List Value).toArray } = H2 at hns₁ hsb₁ kp0 il0 l1 e1 ⊢
  have frC : H2.get? H2.objs.size = none := fresh_none
  have kp1 : ∀ b o, H2.get? b = some o → h₁.get? b = some o := fun b o e => hsb₁.extBut b o (Nat.ne_of_lt (Heap.lt_size e)) (Heap.get?_push_of_some _ e)
  have l2 := l1.keeps kp1
  have e2 : Ext no h₀ ρ₀ h₁ (ρ₀ ++ [h₀.objs.size]) := e1.trans (ext_of kp1)
  have lc0 := lc.mono rl e0.grow
  have frCs : s.heap.get? H2.objs.size = none := by
    cases q : s.heap.get? H2.objs.size with
    | none => rfl
    | some o => exact absurd frC ((e0.trans e1).live _ (by rw [q]; simp))
  have frC0 : h₀.get? H2.objs.size = none := by
    cases q : h₀.get? H2.objs.size with
    | none => rfl
    | some o => exact absurd frC (e1.live _ (by rw [q]; simp))
  show codeAny _ _ (.compStart _ 0 it (.ref h₀.objs.size) (compEnvC scope cl H2.objs.size env)) _ _
  have seC : ∀ a, SE (compEnvC scope cl H2.objs.size env) a → a = H2.objs.size ∨ SE env a := by
    rintro a (q | ⟨c, hc, q⟩)
    · exact .inl q
    · exact .inr (.inr ⟨c, hcl c hc, q⟩)
  have lc1 : Lc C (compEnvC scope cl H2.objs.size env) h₁ (ρ₀ ++ [h₀.objs.size]) cloc := by
    have lcx := lc0.mono l0 e2.grow
    refine ⟨hkind, lc.glob, lc.bult, ⟨_, hns₁⟩, fresh_h₀ l1 frC, fun c hc => lcx.cel c (hcl c hc), hnd, fun q m => ?_⟩
    refine nn fun nG => ?_
    obtain ⟨m1, k1, k2, k3, k4⟩ := hfree q m
    obtain ⟨v, hv, r⟩ := lcx.held q m1
    refine nG ?_
    clear nG
    refine ⟨v, ?_, r⟩
    rcases hv with ⟨k, _⟩ | ⟨_, c, hc, i⟩
    · rw [k1] at k; cases k
    · exact .inr ⟨.inl k2, c, by rw [← hc]; exact k3, i⟩
  have wC : ∀ {k h' ρ'}, J k h' ρ' → ∀ a, W a → ¬ SE (compEnvC scope cl H2.objs.size env) a := by
    intro k h' ρ' j a wa sa
    rcases seC a sa with rfl | sa
    · refine nn fun nG => ?_
      obtain ⟨_, o, fs, ho, _⟩ := hI.live j0 wa
      refine nG ?_
      clear nG
      rw [frC0] at ho; cases ho
    · exact lc.live sa (wn a wa)
  have j1 : J 0 h₁ (ρ₀ ++ [h₀.objs.size]) := hI.keep j0 e2 (fun a wa q => q) bare_no
  have loop : codeAny (model prog w) A (.compLoop (.ListComp elt [⟨.Name x px, iter, [tst], 0⟩] scope pos) 0 it (.ref h₀.objs.size) (compEnvC scope cl H2.objs.size env))
      (compPost (model prog w) A PE Option.none P (.ref h₀.objs.size) H2.objs.size) { s with heap := h₁, toks := tk₀ + ([] : List (Str × Value)).length } := by
    refine codeAny_compLoop_tests (fun n s' => ∃ k acc μ' ρ' h' tk', s' = { s with heap := h', toks := tk' } ∧ k ≤ l.length ∧ n = l.length - k ∧ acc.length ≤ k ∧ I k acc μ' ∧ J k h' ρ' ∧ Rl C h' ρ' μ' ∧ Lc C (compEnvC scope cl H2.objs.size env) h' ρ' cloc ∧
      ρ'[μ₀.length]? = some h₀.objs.size ∧ Ext (fun a => (W a ∨ a = H2.objs.size) ∨ no a) s.heap ρ h' ρ') ?_ (l.length - 0) ?_
    · intro n _ hz2
      refine nn fun nG => ?_
      obtain ⟨k, acc, μ', ρ', h', tk', rfl, hk, rfl, ha, hi, hj, rl', lc', hD, e'⟩ := hz2
      refine nG ?_
      clear nG
      have bW : Bare W h' := hI.bare hj
      obtain ⟨hM, hacc⟩ := iM _ _ _ hi
      cases hv : l[k]? with
      | none =>
        have hkk : k = l.length := Nat.le_antisymm hk (List.getElem?_eq_none_iff.mp hv)
        subst hkk
        refine hI.stop (s := ⟨h', _, _, _, _⟩) hv cx rl' hM hj fun h₂ tk₂ l₂ k₂ => ?_
        have lc₂ := lc'.kp k₂ bW (wC hj)
        obtain ⟨m, hn⟩ : ∃ m, h₂.Ns H2.objs.size m := lc₂.ns
        refine ⟨m, hn, fun h₃ sb => ?_⟩
        have bC : Bare (· = H2.objs.size) h₂ := by
          rintro a o rfl ho xs n hd
          refine nn fun nG => ?_
          obtain ⟨o', es, ep, ho', hd', _⟩ := hn
          refine nG ?_
          clear nG
          rw [ho] at ho'; cases ho'; rw [hd] at hd'; cases hd'
        have l₃ := l₂.kp (sb_kp sb) bC (by rintro _ rfl; exact fresh_h₀ l1 frC) (fun env' m' L hL q => by
          refine nn fun nG => ?_
          obtain ⟨_, L', mm, q1, _, o, _, _, ho, _⟩ := rl.frm env' m'
          refine nG ?_
          clear nG
          rw [hL] at q1; cases q1
          rw [q, frCs] at ho; cases ho)
        refine p _ _ μ' ρ' h₃ tk₂ (.lst hD) (fin acc μ' hi) l₃ ?_
        refine e'.over (fun b o q e => ?_) ?_
        · have q1 := k₂ b o (fun z => q (.inl z)) e
          exact (sb.2 b fun z => q (.inr z)).trans q1
        · rintro a (q | rfl)
          · exact wn a q
          · exact frCs
      | some v =>
        have hkk : k < l.length := (List.getElem?_eq_some_iff.mp hv).1
        refine hI.step (s := ⟨h', _, _, _, _⟩) hv cx rl' hM hj fun u h₂ tk₂ r₂ K₂ l₂ e₂ => ?_
        have j₂ := hI.named ⟨_, _, rfl⟩ K₂
        have lc₂ := lc'.ext rl' e₂ bW (wC hj)
        refine PyProof.Rows.assign_Name (store_own (s := ⟨h₂, _, _, _, _⟩) l₂ lc₂ (lookup_relabel_local hx) r₂ fun h₃ tk₃ l₃ lc₃ e₃ => ?_)
        have bC : Bare (fun a => a = (compEnvC scope cl H2.objs.size env).locals) h₂ := fun a o q => lc₂.bare a o (.inl q)
        have j₃ := hI.keep j₂ e₃ (fun a wa q => wC j₂ a wa (.inl q)) bC
        refine wpAny_tests_one ((turn k v acc μ' H2.objs.size hv hi).go cx l₃ lc₃ ErP.none fun y d μ₄ ρ₄ h₄ tk₄ r₄ q₄ l₄ e₄ => ?_)
        obtain rfl : y = d := r₄
        have j₄ := hI.keep j₃ e₄ (fun _ _ q => q) bare_no
        have lc₄ := lc₃.mono l₃ e₄.grow
        have hD₄ : ρ₄[μ₀.length]? = some h₀.objs.size := e₄.grow.mem hD
        cases y with
        | false =>
          rw [if_neg (by decide)] at q₄ ⊢
          refine ⟨l.length - (k + 1), by (first | lia | omega), k + 1, acc, _, ρ₄, h₄, tk₄, rfl, hkk, rfl, by (first | lia | omega), q₄, j₄, l₄, ?_, hD₄, ?_⟩
          · refine lc₄.sub ⟨hnd, fun q m => put_old m (hfree q m).2.2.2.2⟩
          · exact e'.trans ((((e₂.weak fun _ q => .inl (.inl q)).trans (e₃.weak fun _ q => .inl (.inr q))).trans e₄.up))
        | true =>
          rw [if_pos rfl] at q₄ ⊢
          refine q₄.go cx l₄ lc₄ ErP.none fun y d μ₆ ρ₆ h₆ tk₆ r₆ q₆ l₆ e₆ => ?_
          obtain ⟨hacc₄, hi₄⟩ := q₆
          have j₆ := hI.keep j₄ e₆ (fun _ _ q => q) bare_no
          have lc₆ := lc₄.mono l₄ e₆.grow
          have hD₆ : ρ₆[μ₀.length]? = some h₀.objs.size := e₆.grow.mem hD₄
          refine (m_append (Q := fun _ μ' => μ' = μ₆.set μ₀.length (acc ++ [d])) (X := fun _ _ => False) hacc₄ (by (first | lia | omega)) rfl).go (s := ⟨h₆, _, _, _, _⟩) cx l₆ (.cons (.lst hD₆) (.cons r₆ .nil)) ErP.none fun _ _ μ₅ ρ₅ h₅ tk₅ _ q₅ l₅ e₅ => ?_
          subst q₅
          refine ⟨l.length - (k + 1), by (first | lia | omega), k + 1, acc ++ [d], _, ρ₅, h₅, tk₅, rfl, hkk, rfl, by simp; (first | lia | omega), hi₄, hI.keep j₆ e₅ (fun _ _ q => q) bare_no, l₅, ?_, e₅.grow.mem hD₆, ?_⟩
          · refine (lc₆.mono l₆ e₅.grow).sub ⟨hnd, fun q m => put_old m (hfree q m).2.2.2.2⟩
          · have f : Ext (fun a => (W a ∨ a = H2.objs.size) ∨ no a) h' ρ' h₅ ρ₅ := by
              exact ((((e₂.weak fun _ q => .inl (.inl q)).trans (e₃.weak fun _ q => .inl (.inr q))).trans e₄.up).trans e₆.up).trans e₅.up
            exact e'.trans f
    · exact ⟨0, [], _, _, h₁, _, rfl, Nat.zero_le _, rfl, Nat.le_refl _, i0, j1, l2, lc1, by rw [← l0.len]; simp, (e0.trans e2).up⟩
  exact codeAny_compStart_list loop (hI.self j1 loop)
end
end Mine
end

section
set_option maxHeartbeats 1000000
open PySem PySem.W PyProof.Rows PySem.Spec PySem.Calls PySem.SeqAt
set_option Elab.async false
set_option linter.unusedVariables false
set_option linter.unusedSimpArgs false
set_option maxRecDepth 100000
namespace Mine

/-! ## dicts of written keys -/
section
variable {K κ : Type} {h h' : Heap} {ρ ρ' : List Addr} {S : Addr → Prop}
inductive KVs (ab : K → κ) (h : Heap) (ρ : List Addr) : List (K × Value) → List (κ × V) → Prop
  | nil : KVs ab h ρ [] []
  | cons {k v e kvs ds} : RV h ρ v e → KVs ab h ρ kvs ds → KVs ab h ρ ((k, v) :: kvs) ((ab k, e) :: ds)
theorem KVs.mono {ab : K → κ} (x : Grow S h ρ h' ρ') (b : Bare S h) {kvs : List (K × Value)} {ds : List (κ × V)} (r : KVs ab h ρ kvs ds) : KVs ab h' ρ' kvs ds := by
  induction r with
  | nil => exact .nil
  | cons r _ ih => exact .cons (r.mono x b) ih
theorem KVs.keys {ab : K → κ} {kvs : List (K × Value)} {ds : List (κ × V)} (r : KVs ab h ρ kvs ds) : ds.map (·.1) = kvs.map (fun p => ab p.1) := by
  induction r with
  | nil => rfl
  | cons _ _ ih => simp [ih]
theorem KVs.find [DecidableEq K] [BEq κ] [LawfulBEq κ] {ab : K → κ} (inj : ∀ a b, ab a = ab b → a = b) {kvs : List (K × Value)} {ds : List (κ × V)} (r : KVs ab h ρ kvs ds) {k : K} {e : V} (f : ds.lookup (ab k) = some e) : ∃ v, valueAt kvs k = some v ∧ RV h ρ v e := by
  induction r with
  | nil => cases f
  | @cons k' v e' kvs ds r _ ih =>
    rw [List.lookup_cons] at f
    by_cases q : k' = k
    · subst q
      simp at f
      subst f
      exact ⟨v, by simp [valueAt], r⟩
    · have : (ab k == ab k') = false := by simp; exact fun z => q (inj _ _ z).symm
      rw [this] at f
      refine nn fun nG => ?_
      obtain ⟨v', h1, h2⟩ := ih f
      refine nG ?_
      clear nG
      exact ⟨v', by simpa [valueAt, q] using h1, h2⟩
theorem KVs.none [DecidableEq K] [BEq κ] [LawfulBEq κ] {ab : K → κ} {kvs : List (K × Value)} {ds : List (κ × V)} (r : KVs ab h ρ kvs ds) {k : K} (f : ds.lookup (ab k) = none) : valueAt kvs k = none := by
  induction r with
  | nil => rfl
  | @cons k' v e' kvs ds r _ ih =>
    rw [List.lookup_cons] at f
    by_cases q : k' = k
    · subst q
      simp at f
    · have : (ab k == ab k') = false := by
        cases z : (ab k == ab k') with
        | false => rfl
        | true => rw [z] at f; cases f
      rw [this] at f
      have := ih f
      simpa [valueAt, q] using this
end
inductive RPs (h : Heap) (ρ : List Addr) : List (Value × Value) → List (V × V) → Prop
  | nil : RPs h ρ [] []
  | cons {u v a b us ds} : RV h ρ u a → RV h ρ v b → RPs h ρ us ds → RPs h ρ ((u, v) :: us) ((a, b) :: ds)
noncomputable def skeys (ds : List (List Nat × V)) : List (V × V) := ds.map fun p => (.str p.1, p.2)
noncomputable def ikeys (ds : List (Int × V)) : List (V × V) := ds.map fun p => (.int p.1, p.2)
theorem RPs.str {h : Heap} {ρ : List Addr} : ∀ {us : List (Value × Value)} {ds : List (List Nat × V)}, RPs h ρ us (skeys ds) → allStrKeys us = true ∧ KVs cs h ρ (strPairs us) ds
  | [], [], _ => ⟨rfl, .nil⟩
  | [], _ :: _, r => by cases r
  | _ :: _, [], r => by cases r
  | (u, v) :: us, (x, e) :: ds, r => by
    cases r with
    | cons r1 r2 rs =>
      refine nn fun nG => ?_
      obtain ⟨y, t, rfl, rfl⟩ := r1.strInv
      obtain ⟨i1, i2⟩ := RPs.str rs
      refine nG ?_
      clear nG
      exact ⟨i1, .cons r2 i2⟩
theorem RPs.int {h : Heap} {ρ : List Addr} : ∀ {us : List (Value × Value)} {ds : List (Int × V)}, RPs h ρ us (ikeys ds) → allIntKeys us = true ∧ KVs (fun i : Int => i) h ρ (intKeyPairs us) ds
  | [], [], _ => ⟨rfl, .nil⟩
  | [], _ :: _, r => by cases r
  | _ :: _, [], r => by cases r
  | (u, v) :: us, (x, e) :: ds, r => by
    cases r with
    | cons r1 r2 rs =>
      refine nn fun nG => ?_
      obtain ⟨t, rfl⟩ := r1.intInv
      obtain ⟨i1, i2⟩ := RPs.int rs
      refine nG ?_
      clear nG
      exact ⟨i1, .cons r2 i2⟩
/-- a dict, not stored yet -/
noncomputable def RDs (prog : Program) (w : World) (h : Heap) (ρ : List Addr) (u : Value) (ds : List (List Nat × V)) : Prop := ∃ d kvs, u = .ref d ∧ d ∉ ρ ∧ h.DictOf (strKind prog w) d kvs ∧ KVs cs h ρ kvs ds ∧ (d == sysModules) = false
noncomputable def RDi (prog : Program) (w : World) (h : Heap) (ρ : List Addr) (u : Value) (ds : List (Int × V)) : Prop := ∃ d kvs, u = .ref d ∧ d ∉ ρ ∧ h.DictOf (intKind prog w) d kvs ∧ KVs (fun i : Int => i) h ρ kvs ds ∧ (d == sysModules) = false
theorem Ext.dict {prog : Program} {w : World} {K : Type} [DecidableEq K] {knd : KeyKind prog w K} {h h' : Heap} {ρ ρ' : List Addr} (x : Ext no h ρ h' ρ') {d : Addr} {kvs : List (K × Value)} (hd : h.DictOf knd d kvs) (hn : d ∉ ρ) : h'.DictOf knd d kvs ∧ d ∉ ρ' := by
  refine nn fun nG => ?_
  obtain ⟨o, es, ep, ho, r⟩ := hd
  refine nG ?_
  clear nG
  exact ⟨⟨o, es, ep, x.keep d o ho hn (fun q => q), r⟩, x.grow.nin ho hn⟩
section
variable {prog : Program} {w : World} {C : Ctx} {X : Str → St → Prop} {env : Env} {loc : Loc} {Q : V → St → Prop} {QP : List (V × V) → St → Prop} {μ : St}
theorem RDs.mono {h h' : Heap} {ρ ρ' : List Addr} (x : Ext no h ρ h' ρ') {u : Value} {ds : List (List Nat × V)} (r : RDs prog w h ρ u ds) : RDs prog w h' ρ' u ds := by
  refine nn fun nG => ?_
  obtain ⟨d, kvs, rfl, hn, hd, k, z⟩ := r
  obtain ⟨a, b⟩ := x.dict hd hn
  refine nG ?_
  clear nG
  exact ⟨d, kvs, rfl, b, a, k.mono x.grow bare_no, z⟩
theorem evp_nil {pos} (h : QP [] μ) : Ev prog w C RPs env X (evalPairs (pairTrees [] [] env pos)) loc QP μ :=
  fun A s ρ cx rl lc P PE p pe => evalPairs_nil (p.at .nil h rl)
theorem evp_cons {k v : Expr} {ks : List (Option Expr)} {vs : List Expr} {pos} (h : Ev prog w C RV env X (eval k env) loc (fun a μ₁ => Ev prog w C RV env X (eval v env) loc (fun b μ₂ => Ev prog w C RPs env X (evalPairs (pairTrees ks vs env pos)) loc (fun ds μ₃ => QP ((a, b) :: ds) μ₃) μ₂) μ₁) μ) :
    Ev prog w C RPs env X (evalPairs (pairTrees (some k :: ks) (v :: vs) env pos)) loc QP μ := by
  intro A s ρ cx rl lc P PE p pe
  show wpAny _ A (evalPairs ((eval k env, do let x ← eval v env; standAt pos; pure x) :: pairTrees ks vs env pos)) P PE s
  refine evalPairs_cons (h.go cx rl lc pe fun u a μ₁ ρ₁ h₁ tk₁ r₁ q₁ l₁ e₁ => ?_)
  have lc₁ := lc.mono rl e₁.grow
  refine wpAny_bind (q₁.go cx l₁ lc₁ (pe.then e₁) fun u₂ b μ₂ ρ₂ h₂ tk₂ r₂ q₂ l₂ e₂ => wpAny_bind (wpAny_standAt (wpAny_pure ?_)))
  refine q₂.go cx l₂ (lc₁.mono l₁ e₂.grow) ((pe.then e₁).then e₂) fun us ds μ₃ ρ₃ h₃ tk₃ r₃ q₃ l₃ e₃ => ?_
  exact ((p.then e₁).then e₂) _ _ μ₃ ρ₃ h₃ tk₃ (.cons ((r₁.mono e₂.grow bare_no).mono e₃.grow bare_no) (r₂.mono e₃.grow bare_no) r₃) q₃ l₃ e₃
theorem sys_ne {A : Around} {s : Shared} {ρ : List Addr} (cx : Cx C A) (rl : Rl C s.heap ρ μ) {d : Addr} (hd : s.heap.objs.size ≤ d) : (d == sysModules) = false := by
  refine nn fun nG => ?_
  obtain ⟨_, _, _, _, _, T⟩ := cx.top
  refine nG ?_
  clear nG
  have := modules_low (T.nolimit.keeps rl.stay)
  exact beq_eq_false_iff_ne.mpr (fun q => Nat.lt_irrefl _ (Nat.lt_of_lt_of_le this (q ▸ hd)))
theorem dict_core {K κ : Type} [DecidableEq K] (knd : KeyKind prog w K) {ab : K → κ} {keys : List (Option Expr)} {values : List Expr} {pos : Pos} {R : Heap → List Addr → Value → List (κ × V) → Prop} {QD : List (κ × V) → St → Prop} {emb : List (κ × V) → List (V × V)}
    (hkv : ∀ {h ρ us ds}, RPs h ρ us (emb ds) → ∃ kvs, Carries knd us kvs ∧ KVs ab h ρ kvs ds)
    (hinj : ∀ a b, ab a = ab b → a = b)
    (hR : ∀ {h ρ d kvs ds}, d ∉ ρ → h.DictOf knd d kvs → KVs ab h ρ kvs ds → (d == sysModules) = false → R h ρ (.ref d) ds)
    (hall : keys.all (·.isSome) = true) (hl : keys.length = values.length) (h0 : keys ≠ []) (hlen : keys.length ≤ 15)
    (h : Ev prog w C RPs env X (evalPairs (pairTrees keys values env pos)) loc (fun ds μ₁ => ∃ es, ds = emb es ∧ (es.map (·.1)).Nodup ∧ es.length ≤ 15 ∧ QD es μ₁) μ) :
    Ev prog w C R env X (eval (.Dict keys values pos) env) loc QD μ := by
  intro A s ρ cx rl lc P PE p pe
  refine wpAny_Dict_any hall hl h0 hlen ?_
  have kp := push_keeps (h := s.heap) { cls := .type "dict", data := .dict #[] }
  have x0 := ext_of (ρ := ρ) kp
  have fr : s.heap.get? s.heap.objs.size = none := fresh_none
  have hd0 := Heap.DictOf.new (knd := knd) s.heap
  have nd := rl.nins fr
  refine h.go (s := ⟨_, _, _, _, _⟩) cx (rl.keeps kp) (lc.mono rl x0.grow) (pe.then x0) fun us ds μ₁ ρ₁ h₁ tk₁ r₁ q₁ l₁ e₁ => ?_
  refine nn fun nG => ?_
  obtain ⟨es, rfl, hnd, hle, q⟩ := q₁
  obtain ⟨kvs, hc, hk⟩ := hkv r₁
  obtain ⟨hd1, nd1⟩ := e₁.dict hd0 nd
  refine nG ?_
  clear nG
  have hlk : kvs.length ≤ 15 := by
    have := congrArg List.length hk.keys
    simp only [List.length_map] at this
    (first | lia | omega)
  refine wpAny_storeAll (knd := knd) us kvs [] ⟨h₁, _, _, _, _⟩ _ hc hd1 (by rw [sizeLine_eq, List.length_nil]; (first | lia | omega)) fun h' hm sb => ?_
  have hnk : (kvs.map (·.1)).Nodup := by
    have e := hk.keys
    rw [e] at hnd
    have : kvs.map (fun p => ab p.1) = (kvs.map (·.1)).map ab := by simp
    rw [this] at hnd
    exact (List.pairwise_map.mp hnd).imp fun h e => h (congrArg ab e)
  rw [merged_nil_of_nodup _ hnk] at hm
  have kp2 : Kp (· = s.heap.objs.size) h₁ h' := sb_kp sb
  have bW : Bare (· = s.heap.objs.size) h₁ := by
    rintro a o rfl ho xs n hdat
    refine nn fun nG => ?_
    obtain ⟨o', es', ep, ho', _, hd', _⟩ := hd1
    refine nG ?_
    clear nG
    rw [ho] at ho'; cases ho'; rw [hdat] at hd'; cases hd'
  have l2 : Rl C h' ρ₁ μ₁ := l₁.kp kp2 bW (by rintro _ rfl; exact fresh_h₀ rl fr) (fun env' m' L hL q => by
    refine nn fun nG => ?_
    obtain ⟨_, L', mm, q1, _, o, _, _, ho, _⟩ := rl.frm env' m'
    refine nG ?_
    clear nG
    rw [hL] at q1; cases q1
    rw [q, fr] at ho; cases ho)
  have e2 : Ext (· = s.heap.objs.size) h₁ ρ₁ h' ρ₁ := kp2.ext (by rintro _ rfl; obtain ⟨o, es', ep, ho, _⟩ := hm; rw [ho]; simp)
  have e3 : Ext no s.heap ρ h' ρ₁ := (((x0.trans e₁).weak fun _ q => q.elim).trans (e2.weak fun _ q => .inl q)).drop (W := (· = s.heap.objs.size)) (S := no) (by rintro _ rfl; exact fr)
  exact p (.ref s.heap.objs.size) es μ₁ ρ₁ h' _ (hR nd1 hm (hk.mono (S := fun a => a = s.heap.objs.size) e2.grow bW) (sys_ne cx rl (Nat.le_refl _))) q l2 e3
theorem ev_dicts {keys : List (Option Expr)} {values : List Expr} {pos : Pos} {QD : List (List Nat × V) → St → Prop}
    (hall : keys.all (·.isSome) = true) (hl : keys.length = values.length) (h0 : keys ≠ []) (hlen : keys.length ≤ 15)
    (h : Ev prog w C RPs env X (evalPairs (pairTrees keys values env pos)) loc (fun ds μ₁ => ∃ es, ds = skeys es ∧ (es.map (·.1)).Nodup ∧ es.length ≤ 15 ∧ QD es μ₁) μ) :
    Ev prog w C (RDs prog w) env X (eval (.Dict keys values pos) env) loc QD μ :=
  dict_core (PySem.strKind prog w) (ab := cs) (fun r => ⟨_, carries_strPairs prog w _ (RPs.str r).1, (RPs.str r).2⟩) (fun a b e => cs_inj e) (fun a b c d => ⟨_, _, rfl, a, b, c, d⟩) hall hl h0 hlen h
theorem ev_dicti {keys : List (Option Expr)} {values : List Expr} {pos : Pos} {QD : List (Int × V) → St → Prop}
    (hall : keys.all (·.isSome) = true) (hl : keys.length = values.length) (h0 : keys ≠ []) (hlen : keys.length ≤ 15)
    (h : Ev prog w C RPs env X (evalPairs (pairTrees keys values env pos)) loc (fun ds μ₁ => ∃ es, ds = ikeys es ∧ (es.map (·.1)).Nodup ∧ es.length ≤ 15 ∧ QD es μ₁) μ) :
    Ev prog w C (RDi prog w) env X (eval (.Dict keys values pos) env) loc QD μ :=
  dict_core (PySem.intKind prog w) (ab := fun i : Int => i) (fun r => ⟨_, carries_intKeyPairs prog w _ (RPs.int r).1, (RPs.int r).2⟩) (fun a b e => e) (fun a b c d => ⟨_, _, rfl, a, b, c, d⟩) hall hl h0 hlen h
/-- an item by its key -/
theorem ev_subd {value slice : Expr} {pos} (h : Ev prog w C (RDs prog w) env X (eval value env) loc (fun ds μ₁ => Ev prog w C RV env X (eval slice env) loc (fun i μ₂ => ∃ x d, i = .str x ∧ ds.lookup x = some d ∧ Q d μ₂) μ₁) μ)
    (hs : ∀ o i, subscripted slice false o i = operate [o, i] (getItem o i)) :
    Ev prog w C RV env X (eval (.Subscript value slice pos) env) loc Q μ := by
  intro A s ρ cx rl lc P PE p pe
  refine Subscript_ (h.go cx rl lc pe fun u ds μ₁ ρ₁ h₁ tk₁ r₁ q₁ l₁ e₁ => ?_)
  refine q₁.go cx l₁ (lc.mono rl e₁.grow) (pe.then e₁) fun v b μ₂ ρ₂ h₂ tk₂ r₂ q₂ l₂ e₂ => ?_
  refine nn fun nG => ?_
  obtain ⟨x, d, rfl, hx, q⟩ := q₂
  obtain ⟨y, t, rfl, rfl⟩ := r₂.strInv
  obtain ⟨dd, kvs, rfl, hn, hd, hk, hz⟩ := RDs.mono e₂ r₁
  obtain ⟨v', hv, rv⟩ := hk.find (fun a b e => cs_inj e) hx
  refine nG ?_
  clear nG
  exact tail_any (s := ⟨h₂, _, _, _, _⟩) (hd.mapOf.typeIs) slot_dict_getitem.lookup (wpAny_getItem_of (strKind_is prog w y t) hd.mapOf hv (((p.then e₁).then e₂) v' d μ₂ ρ₂ h₂ _ rv q l₂ .refl)) (hs _ _)
end
end Mine
end

section
set_option maxHeartbeats 1000000
open PySem PySem.W PyProof.Rows PySem.Spec PySem.Calls PySem.SeqAt
set_option Elab.async false
set_option linter.unusedVariables false
set_option linter.unusedSimpArgs false
set_option maxRecDepth 100000
namespace Mine
section
variable {prog : Program} {w : World} {C : Ctx} {X : Str → St → Prop} {env : Env} {loc : Loc} {Q : V → St → Prop} {QP : List (V × V) → St → Prop} {μ : St}
theorem ev_getd {o k f : Expr} {apos pos : Pos} {pl : Sem Bool}
    (hE : eval (.Call (.Attribute o "get" apos) [k, f] [] pos) env = (do
      let ov ← eval o env
      standAt apos.atName
      let (g, first) ← holding [ov] (getMethod ov "get" pl)
      callWith pos g first (backTo pos (starEach [k, f] env)) []))
    (ht : backTo pos (starEach [k, f] env) = [(false, eval k env), (false, eval f env)])
    (h : Ev prog w C (RDi prog w) env X (eval o env) loc (fun ds μ₁ => Ev prog w C RV env X (eval k env) loc (fun i μ₂ => Ev prog w C RV env X (eval f env) loc (fun j μ₃ => ∃ n, i = .int n ∧ Q ((ds.lookup n).getD j) μ₃) μ₂) μ₁) μ) :
    Ev prog w C RV env X (eval (.Call (.Attribute o "get" apos) [k, f] [] pos) env) loc Q μ := by
  intro A s ρ cx rl lc P PE p pe
  refine MethodCall_ (h.go cx rl lc pe fun u ds μ₁ ρ₁ h₁ tk₁ r₁ q₁ l₁ e₁ => ?_) hE
  have r₁' := r₁
  refine nn fun nG => ?_
  obtain ⟨d, kvs, rfl, hn, hd, hk, hz⟩ := r₁'
  refine nG ?_
  clear nG
  with_reducible refine getMethod_builtin (s := ⟨h₁, _, _, _, _⟩) hd.typeIs PySem.F.plainAttrs_dict PySem.F.slot_dict_get PySem.F.type_dict_get (fun b e => ?_) ?_
  · cases e; obtain ⟨o, es, ep, ho, hx, _⟩ := hd; exact ⟨_, ho, hx.2.1⟩
  rw [ht]
  have lc₁ := lc.mono rl e₁.grow
  refine wpAny_dict_get2 (knd := PySem.intKind prog w) hz (q₁.go cx l₁ lc₁ (pe.then e₁) fun i di μ₂ ρ₂ h₂ tk₂ r₂ q₂ l₂ e₂ => ?_)
  refine q₂.go cx l₂ (lc₁.mono l₁ e₂.grow) ((pe.then e₁).then e₂) fun j dj μ₃ ρ₃ h₃ tk₃ r₃ q₃ l₃ e₃ => ?_
  refine nn fun nG => ?_
  obtain ⟨n, rfl, q⟩ := q₃
  obtain ⟨t, rfl⟩ := r₂.intInv
  obtain ⟨hd3, hn3⟩ := (e₂.trans e₃).dict hd hn
  refine nG ?_
  clear nG
  refine ⟨n, _, intKind_is prog w n t, hd3.mapOf, ?_⟩
  have hk3 := hk.mono (e₂.trans e₃).grow bare_no
  cases hx : ds.lookup n with
  | none =>
    rw [hx] at q
    rw [hk3.none hx]
    exact (((p.then e₁).then e₂).then e₃) j dj μ₃ ρ₃ h₃ _ r₃ q l₃ .refl
  | some e =>
    rw [hx] at q
    refine nn fun nG => ?_
    obtain ⟨v', hv, rv⟩ := hk3.find (fun a b e => e) hx
    refine nG ?_
    clear nG
    rw [hv]
    exact (((p.then e₁).then e₂).then e₃) v' e μ₃ ρ₃ h₃ _ rv q l₃ .refl
end

/-! ## a long display: twice its runs -/
section
variable {prog : Program} {w : World} {A : Around} {E : Value → Shared → Prop}
theorem gather_long (f : (Option (Sem Value) × Sem Value) → (Option Addr × List (Sem Value × Sem Value)) → Sem (ForInStep (Option Addr × List (Sem Value × Sem Value)))) (main : Option Addr)
    (hf : ∀ (p : Sem Value × Sem Value) (run : List (Sem Value × Sem Value)), run.length + 1 < 17 → f (some p.1, p.2) (main, run) = pure (.yield (main, run ++ [p]))) :
    ∀ (items run : List (Sem Value × Sem Value)) (rest : List (Option (Sem Value) × Sem Value)), run.length + items.length < 17 → forIn (items.map (fun p => (some p.1, p.2)) ++ rest) (main, run) f = forIn rest (main, run ++ items) f
  | [], run, rest, _ => by simp
  | p :: more, run, rest, h => by
    rw [List.map_cons, List.cons_append, List.forIn_cons, hf p run (by simp at h; (first | lia | omega)), pure_bind]
    have := gather_long f main hf more (run ++ [p]) rest (by simp at h ⊢; (first | lia | omega))
    simpa using this
end
end Mine
end

section
set_option maxHeartbeats 1000000
open PySem PySem.W PyProof.Rows PySem.Spec PySem.Calls PySem.SeqAt
set_option Elab.async false
set_option linter.unusedVariables false
set_option linter.unusedSimpArgs false
set_option maxRecDepth 100000
namespace Mine
/-! ## the functions that may raise, in plain Lean -/
noncomputable abbrev SNk : Str := "SN"
noncomputable abbrev OVk : Str := "OV"
noncomputable abbrev STk : Str := "ST"
noncomputable abbrev Re (α : Type) := Except Str α
noncomputable def numEnd (t : List Nat) (a : Nat) : Nat := adv t (fun i => decide (nth t i ∈ DG)) a
noncomputable def numVal (x : List Nat) : Nat := NumText.digitsVal x
noncomputable def readNumber (t : List Nat) (a : Nat) : Re (Nat × Nat) :=
  let v := numVal (slc t a (numEnd t a))
  if 65535 < v then .error OVk else .ok (v, numEnd t a)
/-- blanks behind let go -/
noncomputable def dropBack (t : List Nat) (b : Nat) : Nat → Nat
  | 0 => 0
  | e + 1 => if b < e + 1 ∧ nth t e ∈ BL then dropBack t b e else e + 1
noncomputable def readItem (t : List Nat) (a : Nat) : Re (List Nat × Nat) :=
  let a1 := bb t a
  if slc t a1 (a1 + 1) = [34] then
    let r := readQuoted t a1
    let e := bb t r.2
    if e < t.length ∧ nth t e ∉ [44, 58] then .error SNk else .ok (r.1, e)
  else
    let e := adv t (fun i => !decide (nth t i ∈ [44, 58])) a1
    .ok (slc t a1 (dropBack t a1 e), e)
noncomputable def moreItems (t : List Nat) : Nat → List TK → Nat → Re (List TK × Nat)
  | 0, acc, a => .ok (acc, a)
  | n + 1, acc, a => if slc t a (a + 1) = [44] then
      (match readItem t (a + 1) with
        | .error k => .error k
        | .ok r => moreItems t n (acc ++ [.sign [44], .raw r.1]) r.2)
    else .ok (acc, a)
noncomputable def readItems (t : List Nat) (a : Nat) : Re (List TK × Nat) :=
  match readItem t a with
  | .error k => .error k
  | .ok r => moreItems t t.length [.raw r.1] r.2
noncomputable abbrev wREM : List Nat := cs "REM"
noncomputable abbrev wDATA : List Nat := cs "DATA"
noncomputable abbrev wPRINT : List Nat := cs "PRINT"
noncomputable def readToken (t w : List Nat) (a : Nat) : Re (List TK × Nat) :=
  let c := nth w a
  if c = 34 then .ok ([.text (readQuoted t a).1], (readQuoted t a).2)
  else if c ∈ DG then
    (match readNumber t a with
      | .error k => .error k
      | .ok r => .ok ([.num r.1], r.2))
  else
    let ws : List Nat × Nat := if c ∈ [63, 39] then (if c = 63 then wPRINT else wREM, 1) else (wordAt w a, (wordAt w a).length)
    if ws.1 = wREM then .ok ([.word wREM, .raw (t.drop (bb t (a + ws.2)))], t.length)
    else if ws.1 = wDATA then
      (match readItems t (a + ws.2) with
        | .error k => .error k
        | .ok r => .ok (.word wDATA :: r.1, r.2))
    else if ws.1 ≠ [] then .ok ([.word ws.1], a + ws.2)
    else if c ∈ LT then .ok ([.name (readName w a).1], (readName w a).2)
    else if signAt w a = [] then .error SNk
    else .ok ([.sign (signAt w a)], a + (signAt w a).length)
noncomputable def moreTokens (t w : List Nat) : Nat → List TK → Nat → Re (List TK)
  | 0, acc, a => .ok acc
  | n + 1, acc, a => if a < t.length then
      (match readToken t w a with
        | .error k => .error k
        | .ok r => moreTokens t w n (acc ++ r.1) (bb t r.2))
    else .ok acc
noncomputable def tokensOf (t : List Nat) : Re (List TK) := moreTokens t (great t) t.length [] (bb t 0)
theorem great_len (t : List Nat) : (great t).length = t.length := by simp [great]
theorem adv_ge (t : List Nat) (p : Nat → Bool) (a : Nat) : a ≤ adv t p a := (upTo_le p _ a).1
theorem bb_ge (t : List Nat) (a : Nat) : a ≤ bb t a := adv_ge _ _ _
theorem bb_le {t : List Nat} {a : Nat} (h : a ≤ t.length) : bb t a ≤ t.length := (adv_le _ _ _ h).2
theorem slc_one {t : List Nat} {a c : Nat} : slc t a (a + 1) = [c] ↔ t[a]? = some c := by
  unfold slc
  constructor
  · intro h
    have := congrArg (·[0]?) h
    simpa [List.getElem?_drop, List.getElem?_take] using this
  · intro h
    have hl := (List.getElem?_eq_some_iff.mp h).1
    apply List.ext_getElem?
    intro i
    rw [List.getElem?_drop, List.getElem?_take]
    cases i with
    | zero => simp [h]
    | succ i => simp
theorem adv_all {t : List Nat} {p : Nat → Bool} {a : Nat} : ∀ i, a ≤ i → i < adv t p a → p i = true := by
  unfold adv
  generalize t.length - a = n
  induction n generalizing a with
  | zero => intro i h1 h2; simp [upTo] at h2; (first | lia | omega)
  | succ n ih =>
    intro i h1 h2
    unfold upTo at h2
    split at h2
    · by_cases e : i = a
      · subst e; assumption
      · exact ih i (by (first | lia | omega)) h2
    · (first | lia | omega)
theorem dropBack_le (t : List Nat) (b : Nat) : ∀ e, dropBack t b e ≤ e
  | 0 => Nat.le_refl _
  | e + 1 => by
    unfold dropBack
    split
    · exact Nat.le_succ_of_le (dropBack_le t b e)
    · exact Nat.le_refl _
theorem ixOf_bound {c : Nat} {t : List Nat} {k : Nat} {n : Nat} (h : ixOf c t k = n) : n < t.length ∧ k ≤ n := by
  unfold ixOf at h
  split at h
  · rename_i j hj
    have := (List.findIdx?_eq_some_iff_getElem.mp hj).1
    rw [List.length_drop] at this
    (first | lia | omega)
  · (first | lia | omega)
theorem readQuoted_le {t : List Nat} {a : Nat} (h : a < t.length) : a < (readQuoted t a).2 ∧ (readQuoted t a).2 ≤ t.length := by
  unfold readQuoted
  dsimp only
  split
  · exact ⟨h, Nat.le_refl _⟩
  · rename_i hc
    obtain ⟨n, hn⟩ := Int.eq_ofNat_of_zero_le (show 0 ≤ ixOf 34 t (a + 1) by (first | lia | omega))
    have := ixOf_bound hn
    rw [hn]; simp; (first | lia | omega)
theorem readItem_le {t : List Nat} {a : Nat} (h : a ≤ t.length) {r} (e : readItem t a = .ok r) : a ≤ r.2 ∧ r.2 ≤ t.length := by
  unfold readItem at e
  dsimp only at e
  have h1 := bb_ge t a
  have h2 := bb_le h
  split at e
  · rename_i hq
    split at e
    · cases e
    · cases e
      have h3 := readQuoted_le (t := t) (a := bb t a) (List.getElem?_eq_some_iff.mp (slc_one.mp hq)).1
      have h4 := bb_ge t (readQuoted t (bb t a)).2
      exact ⟨by show a ≤ bb t _; (first | lia | omega), bb_le h3.2⟩
  · cases e
    have := adv_le t (fun i => !decide (nth t i ∈ [44, 58])) (bb t a) h2
    exact ⟨by show a ≤ adv _ _ _; (first | lia | omega), this.2⟩
theorem moreItems_le {t : List Nat} : ∀ n acc a, a ≤ t.length → ∀ r, moreItems t n acc a = .ok r → a ≤ r.2 ∧ r.2 ≤ t.length
  | 0, acc, a, h, r, e => by cases e; exact ⟨Nat.le_refl _, h⟩
  | n + 1, acc, a, h, r, e => by
    unfold moreItems at e
    split at e
    · rename_i hq
      have hl := (List.getElem?_eq_some_iff.mp (slc_one.mp hq)).1
      split at e
      · cases e
      · rename_i r' h'
        have := readItem_le (by assumption) h'
        have := moreItems_le n _ _ this.2 r e
        (first | lia | omega)
    · cases e; exact ⟨Nat.le_refl _, h⟩
theorem readItems_le {t : List Nat} {a : Nat} (h : a ≤ t.length) {r} (e : readItems t a = .ok r) : a ≤ r.2 ∧ r.2 ≤ t.length := by
  unfold readItems at e
  split at e
  · cases e
  · rename_i r' h'
    have := readItem_le h h'
    have := moreItems_le _ _ _ this.2 r e
    (first | lia | omega)
theorem slc_len {t : List Nat} {a : Nat} {x : List Nat} (h : slc t a (a + x.length) = x) (hx : x ≠ []) : a + x.length ≤ t.length := by
  have := congrArg List.length h
  unfold slc at this
  rw [List.length_drop, List.length_take] at this
  have : x.length ≠ 0 := fun q => hx (List.eq_nil_of_length_eq_zero q)
  (first | lia | omega)
section
variable {prog : Program} {w : World} {C : Ctx} {X : Str → St → Prop} {env : Env} {loc : Loc} {Q : FV → Loc → St → Prop} {μ : St}
/-- what ways meet in -/
theorem ex_cut {t : Sem Flow} {rest : List Stmt} (L0 : Loc) (μ0 : St) (h : Ex prog w C env t X (fun F l m => F = .next ∧ Sub L0 l ∧ m = μ0) loc μ) (q : Ex prog w C env (execs rest env) X Q L0 μ0) :
    Ex prog w C env t X (fun F l m => match F with | .next => Ex prog w C env (execs rest env) X Q l m | F => Q F l m) loc μ :=
  h.mono (fun F l m ⟨e1, sb, e2⟩ => by subst e1; subst e2; exact ex_sub q sb) fun _ _ x => x
end
theorem great_dg {t : List Nat} {a : Nat} (h : a < t.length) (hd : nth (great t) a ∈ DG) : nth t a ∈ DG := by
  have e1 : nth (great t) a = gs (nth t a) := by
    unfold nth great
    rw [List.getD_eq_getElem?_getD, List.getD_eq_getElem?_getD, List.getElem?_map, List.getElem?_eq_getElem h]; rfl
  rw [e1] at hd
  unfold gs at hd
  split at hd
  · rename_i q
    have : ∀ c ∈ DG, c < 65 := by decide
    have h65 := this _ hd
    (first | lia | omega)
  · exact hd
theorem isl_lst {μ : St} {k : Nat} {P : Prop} (h : k < μ.length) (p : P) : IsL (.lst k) ∧ (∀ j, V.lst k = .lst j → j < μ.length) ∧ P := ⟨trivial, fun j e => by cases e; exact h, p⟩
theorem isl_fro {μ : St} {l : List V} {P : Prop} (p : P) : IsL (.fro l) ∧ (∀ j, V.fro l = .lst j → j < μ.length) ∧ P := ⟨trivial, fun j e => (by cases e), p⟩
theorem wordAt_slc (t : List Nat) (a : Nat) : wordAt t a = [] ∨ slc t a (a + (wordAt t a).length) = wordAt t a := by
  unfold wordAt
  have key : ∀ (l : List (List Nat)) (f : List Nat), (f = [] ∨ slc t a (a + f.length) = f) → (l.foldl (wordStep t a) f = [] ∨ slc t a (a + (l.foldl (wordStep t a) f).length) = l.foldl (wordStep t a) f) := by
    intro l
    induction l with
    | nil => intro f h; exact h
    | cons x l ih =>
      intro f h
      refine ih _ ?_
      unfold wordStep
      split
      · rename_i q; exact .inr q.2
      · exact h
  exact key _ _ (.inl rfl)
theorem slc_le {t : List Nat} {a : Nat} {x : List Nat} (h : x = [] ∨ slc t a (a + x.length) = x) : x.length ≤ t.length := by
  rcases h with q | q
  · rw [q]; simp
  · have := congrArg List.length q
    unfold slc at this
    rw [List.length_drop, List.length_take] at this
    (first | lia | omega)
theorem wsOk {t wa : List Nat} {k c : Nat} {ws : List Nat × Nat} (hk : k < t.length) (hwa : wa = [] ∨ slc t k (k + wa.length) = wa)
    (hws : (if c ∈ [63, 39] then (if c = 63 then wPRINT else wREM, 1) else (wa, wa.length) : List Nat × Nat) = ws) : (ws.1 = [] ∨ (0 < ws.2 ∧ k + ws.2 ≤ t.length)) ∧ ws.2 ≤ t.length := by
  rw [← hws]
  split
  · exact ⟨.inr ⟨by simp, by simp; (first | lia | omega)⟩, by simp; (first | lia | omega)⟩
  · refine ⟨?_, slc_le hwa⟩
    rcases hwa with q | q
    · exact .inl q
    · by_cases z : wa = []
      · exact .inl z
      · refine .inr ⟨?_, slc_len q z⟩
        exact Nat.pos_of_ne_zero fun q => z (List.eq_nil_of_length_eq_zero q)
theorem signAt_slc (t : List Nat) (a : Nat) : signAt t a = [] ∨ slc t a (a + (signAt t a).length) = signAt t a := by
  unfold signAt
  cases h : SGN.find? fun s => slc t a (a + s.length) == s with
  | none => exact .inl rfl
  | some s => exact .inr (by have := List.find?_some h; simpa using this)
theorem readName_le {t : List Nat} {a : Nat} (h : a < t.length) : a < (readName t a).2 ∧ (readName t a).2 ≤ t.length := by
  unfold readName
  dsimp only
  have := adv_le t (fun i => decide (nth t i ∈ LT ++ DG) && wordAt t i == []) (a + 1) h
  split
  · rename_i hq
    have hl := (List.getElem?_eq_some_iff.mp (slc_one.mp hq)).1
    (first | lia | omega)
  · (first | lia | omega)
theorem numEnd_gt {t : List Nat} {a : Nat} (h : a < t.length) (hd : nth t a ∈ DG) : a < numEnd t a ∧ numEnd t a ≤ t.length := by
  unfold numEnd
  rw [adv_go h (decide_eq_true hd)]
  have := adv_le t (fun i => decide (nth t i ∈ DG)) (a + 1) h
  (first | lia | omega)
theorem wDATA_ne : wDATA ≠ [] := by decide
theorem readToken_le {t : List Nat} {a : Nat} (h : a < t.length) {r} (e : readToken t (great t) a = .ok r) : a < r.2 ∧ r.2 ≤ t.length := by
  have gl := great_len t
  unfold readToken at e
  dsimp only at e
  split at e
  · cases e; exact readQuoted_le h
  split at e
  · rename_i hd
    split at e
    · cases e
    · rename_i r' h'
      cases e
      unfold readNumber at h'
      dsimp only at h'
      split at h'
      · cases h'
      · cases h'
        have hg : nth t a ∈ DG := by
          have e1 : nth (great t) a = gs (nth t a) := by
            unfold nth great
            rw [List.getD_eq_getElem?_getD, List.getD_eq_getElem?_getD, List.getElem?_map, List.getElem?_eq_getElem h]; rfl
          rw [e1] at hd
          unfold gs at hd
          split at hd
          · rename_i q
            have : ∀ c ∈ DG, c < 65 := by decide
            have h65 := this _ hd
            (first | lia | omega)
          · exact hd
        exact numEnd_gt h hg
  have hwa := wordAt_slc (great t) a
  have hsa := signAt_slc (great t) a
  generalize wordAt (great t) a = wa at e hwa
  generalize signAt (great t) a = sa at e hsa
  generalize hws : (if nth (great t) a ∈ [63, 39] then (if nth (great t) a = 63 then wPRINT else wREM, 1) else (wa, wa.length) : List Nat × Nat) = ws at e
  have hw : ws.1 = [] ∨ (0 < ws.2 ∧ a + ws.2 ≤ t.length) := by
    rw [← hws]
    split
    · exact .inr ⟨by simp, by simp; (first | lia | omega)⟩
    · rcases hwa with q | q
      · exact .inl q
      · by_cases z : wa = []
        · exact .inl z
        · refine .inr ⟨?_, gl ▸ slc_len q z⟩
          exact Nat.pos_of_ne_zero fun q => z (List.eq_nil_of_length_eq_zero q)
  split at e
  · cases e; exact ⟨h, Nat.le_refl _⟩
  split at e
  · rename_i hD
    split at e
    · cases e
    · rename_i r' h'
      cases e
      rcases hw with q | q
      · exact absurd (hD.symm.trans q) wDATA_ne
      · have := readItems_le q.2 h'
        exact ⟨by show a < r'.2; (first | lia | omega), this.2⟩
  split at e
  · rename_i hne
    cases e
    rcases hw with q | q
    · exact absurd q hne
    · exact ⟨by show a < a + ws.2; (first | lia | omega), q.2⟩
  split at e
  · cases e
    have := readName_le (t := great t) (a := a) (by (first | lia | omega))
    rw [gl] at this; exact this
  split at e
  · cases e
  · rename_i hne
    cases e
    rcases hsa with q | q
    · exact absurd q hne
    · have := slc_len q hne
      have : sa.length ≠ 0 := fun q => hne (List.eq_nil_of_length_eq_zero q)
      exact ⟨by show a < a + _; (first | lia | omega), by show a + _ ≤ _; (first | lia | omega)⟩
end Mine
end

section
set_option maxHeartbeats 1000000
open PySem PySem.W PyProof.Rows PySem.Spec PySem.Calls PySem.SeqAt
set_option Elab.async false
set_option linter.unusedVariables false
set_option linter.unusedSimpArgs false
set_option maxRecDepth 100000
namespace Mine
section
variable {prog : Program} {w : World} {C : Ctx} {X : Str → St → Prop} {env : Env} {loc : Loc} {Q : V → St → Prop} {μ : St}
theorem ev_usub {x pos} (h : Ev prog w C RV env X (eval x env) loc (fun v μ₁ => ∃ i, v = .int i ∧ Q (.int (-i)) μ₁) μ) : Ev prog w C RV env X (eval (.UnaryOp .USub x pos) env) loc Q μ := by
  intro A s ρ cx rl lc P PE p pe
  refine wpAny_UnaryOp (h.go cx rl lc pe fun u a μ₁ ρ₁ h₁ tk₁ r₁ q₁ l₁ e₁ => ?_)
  obtain ⟨i, rfl, q⟩ := q₁
  obtain ⟨t, rfl⟩ := r₁.intInv
  with_reducible exact PyProof.Rows.neg_int ((p.then e₁).same (.int _ _) q l₁)
end
theorem moreItems_len {t : List Nat} {n : Nat} {acc : List TK} {a : Nat} {r} (h : moreItems t n acc a = .ok r) : r.1.length ≤ acc.length + 2 * n := by
  induction n generalizing acc a with
  | zero => cases h; simp
  | succ n ih =>
    unfold moreItems at h
    split at h
    · split at h
      · cases h
      · have := ih h
        simp at this ⊢; (first | lia | omega)
    · cases h; simp
theorem readItems_len {t : List Nat} {a : Nat} {r} (hri : readItems t a = .ok r) : r.1.length ≤ 2 * t.length + 1 := by
  unfold readItems at hri
  split at hri
  · cases hri
  · have := moreItems_len hri
    simp at this ⊢; (first | lia | omega)
theorem readToken_len {t w : List Nat} {a : Nat} {r} (h : readToken t w a = .ok r) : r.1.length ≤ 2 * t.length + 2 := by
  unfold readToken at h
  dsimp only at h
  split at h
  · cases h; simp
  split at h
  · split at h
    · cases h
    · cases h; simp
  generalize wordAt w a = wa at h
  generalize signAt w a = sa at h
  generalize (if nth w a ∈ [63, 39] then (if nth w a = 63 then wPRINT else wREM, 1) else (wa, wa.length) : List Nat × Nat) = ws at h
  split at h
  · cases h; simp
  split at h
  · split at h
    · cases h
    · rename_i r' hri
      cases h
      have := readItems_len hri
      simp at this ⊢; (first | lia | omega)
  split at h
  · cases h; simp
  split at h
  · cases h; simp
  split at h
  · cases h
  · cases h; simp
end Mine
end

section
set_option maxHeartbeats 1000000
open PySem PySem.W PyProof.Rows PySem.Spec PySem.Calls PySem.SeqAt
set_option Elab.async false
set_option linter.unusedVariables false
set_option linter.unusedSimpArgs false
set_option maxRecDepth 100000
namespace Mine
theorem ite_t {c : Bool} {a b : Prop} (h : c = true) (p : a) : if c = true then a else b := by rw [if_pos h]; exact p
theorem ite_f {c : Bool} {a b : Prop} (h : c = false) (p : b) : if c = true then a else b := by rw [if_neg (by rw [h]; decide)]; exact p
noncomputable def TK.small : TK → Prop
  | .num n => n < 65536
  | .word x => x.length < 2 ^ 12 | .name x => x.length < 2 ^ 12 | .text x => x.length < 2 ^ 12 | .raw x => x.length < 2 ^ 12 | .sign x => x.length < 2 ^ 12
noncomputable def needBlank (a b : TK) : Bool := !flq a.val (.str (cs "(")) && !(b.kind == cs "sign" && ([V.str (cs "("), .str (cs ")"), .str (cs ","), .str (cs ";"), .str (cs ":")].any fun d => flq d b.val))
noncomputable def sepText (p : Option TK) (f : List Nat) (t : TK) : List Nat := match p with
  | some p => if needBlank p t = true ∧ t ≠ .raw [] then f ++ [32] else f
  | none => f
theorem sepText_len (p : Option TK) (f : List Nat) (t : TK) : (sepText p f t).length ≤ f.length + 1 := by
  cases p with
  | none => simp [sepText]
  | some p => simp only [sepText]; split <;> simp
theorem sepText_none (f : List Nat) (t : TK) : sepText none f t = f := rfl
theorem sepText_yes {p t : TK} (f : List Nat) (h : needBlank p t = true) (q : t ≠ .raw []) : sepText (some p) f t = f ++ [32] := by
  show (if _ then _ else _) = _
  rw [if_pos ⟨h, q⟩]
theorem sepText_no {p t : TK} (f : List Nat) (h : ¬ (needBlank p t = true ∧ t ≠ .raw [])) : sepText (some p) f t = f := by
  show (if _ then _ else _) = _
  rw [if_neg h]
noncomputable def aheadOf (t : TK) (a : List Nat) : List Nat := match t with | .word x => x | _ => a
noncomputable def textStep (p : Option TK) (f a : List Nat) (t : TK) : List Nat × List Nat :=
  (sepText p f t ++ tokenText t (aheadOf t a), aheadOf t a)
noncomputable def textGo : Option TK → List Nat → List Nat → List TK → List Nat
  | _, f, _, [] => f
  | p, f, a, t :: r => textGo (some t) (textStep p f a t).1 (textStep p f a t).2 r
noncomputable def textOf (ts : List TK) : List Nat := textGo none [] [] ts
theorem dec_len {n : Nat} (h : n < 65536) : (dec n).length ≤ 10 := by
  have := toString_length_le (v := (n : Int)) (k := 10) (by (first | lia | omega)) (by decide) (by (first | lia | omega))
  rw [cs_len] at this
  exact this
theorem tokenText_len {t : TK} {a : List Nat} (h : t.small) : (tokenText t a).length ≤ 2 ^ 12 + 2 := by
  cases t <;> simp only [TK.small] at h <;> simp only [tokenText] <;> try (simp; (first | lia | omega))
  · have := dec_len h; (first | lia | omega)
  · split
    · unfold itemText; split <;> simp <;> (first | lia | omega)
    · (first | lia | omega)
theorem kv_fl (t : TK) : (TK.v t) = .tup [.str t.kind, t.val] := rfl
theorem val_fl (t : TK) : IsFl t.val = true := by cases t <;> rfl
noncomputable def textPref (ts : List TK) : Nat → List Nat × List Nat
  | 0 => ([], [])
  | k + 1 => match ts[k]? with
    | none => textPref ts k
    | some t => textStep (if k = 0 then none else ts[k - 1]?) (textPref ts k).1 (textPref ts k).2 t
theorem textGo_pref (ts : List TK) : ∀ n k, k + n = ts.length → textGo (if k = 0 then none else ts[k - 1]?) (textPref ts k).1 (textPref ts k).2 (ts.drop k) = (textPref ts ts.length).1
  | 0, k, h => by
    have : k = ts.length := by (first | lia | omega)
    subst this
    rw [List.drop_length]; rfl
  | n + 1, k, h => by
    have hk : k < ts.length := by (first | lia | omega)
    have ih := textGo_pref ts n (k + 1) (by (first | lia | omega))
    rw [List.drop_eq_getElem_cons hk]
    unfold textGo
    have e : textPref ts (k + 1) = textStep (if k = 0 then none else ts[k - 1]?) (textPref ts k).1 (textPref ts k).2 ts[k] := by
      conv => lhs; unfold textPref
      rw [List.getElem?_eq_getElem hk]
    rw [← ih, e, if_neg (Nat.succ_ne_zero k), Nat.add_sub_cancel, List.getElem?_eq_getElem hk]
theorem textOf_pref (ts : List TK) : textOf ts = (textPref ts ts.length).1 := by
  have := textGo_pref ts ts.length 0 (by (first | lia | omega))
  exact this
theorem textPref_len {ts : List TK} (hs : ∀ t ∈ ts, t.small) : ∀ k, (textPref ts k).1.length ≤ k * (2 ^ 12 + 3)
  | 0 => by simp [textPref]
  | k + 1 => by
    have ih := textPref_len hs k
    unfold textPref
    cases ht : ts[k]? with
    | none => simp only; (first | lia | omega)
    | some t =>
      simp only [textStep]
      rw [List.length_append]
      have := tokenText_len (t := t) (a := aheadOf t (textPref ts k).2) (hs t (List.mem_of_getElem? ht))
      have := sepText_len (if k = 0 then none else ts[k - 1]?) (textPref ts k).1 t
      (first | lia | omega)
theorem leq_tk (a b : TK) : leq [.str a.kind, a.val] [.str b.kind, b.val] = decide (a = b) := by
  have e1 : (cs "number" == cs "word") = false := by decide
  have e2 : (cs "number" == cs "name") = false := by decide
  have e3 : (cs "number" == cs "text") = false := by decide
  have e4 : (cs "number" == cs "raw") = false := by decide
  have e5 : (cs "number" == cs "sign") = false := by decide
  have f2 : (cs "word" == cs "name") = false := by decide
  have f3 : (cs "word" == cs "text") = false := by decide
  have f4 : (cs "word" == cs "raw") = false := by decide
  have f5 : (cs "word" == cs "sign") = false := by decide
  have g3 : (cs "name" == cs "text") = false := by decide
  have g4 : (cs "name" == cs "raw") = false := by decide
  have g5 : (cs "name" == cs "sign") = false := by decide
  have i4 : (cs "text" == cs "raw") = false := by decide
  have i5 : (cs "text" == cs "sign") = false := by decide
  have j5 : (cs "raw" == cs "sign") = false := by decide
  have sy : ∀ x y : List Nat, (x == y) = false → (y == x) = false := fun x y h => by
    rw [← h]; exact BEq.comm
  have lq : ∀ x y : List Nat, (x == y) = decide (x = y) := fun x y => by
    rw [Bool.eq_iff_iff]; simp only [beq_iff_eq, decide_eq_true_eq]
  have nq : ∀ x y : Nat, ((x : Int) == (y : Int)) = decide (x = y) := fun x y => by
    rw [Bool.eq_iff_iff]; simp only [beq_iff_eq, decide_eq_true_eq]; (first | lia | omega)
  cases a <;> cases b <;> simp only [leq, flq, TK.kind, TK.val, Bool.and_true, e1, e2, e3, e4, e5, f2, f3, f4, f5, g3, g4, g5, i4, i5, j5, sy _ _ e1, sy _ _ e2, sy _ _ e3, sy _ _ e4, sy _ _ e5, sy _ _ f2, sy _ _ f3, sy _ _ f4, sy _ _ f5, sy _ _ g3, sy _ _ g4, sy _ _ g5, sy _ _ i4, sy _ _ i5, sy _ _ j5, Bool.false_and, beq_self_eq_true, Bool.true_and, lq, nq] <;> simp
theorem enum_pref (ts : List TK) : textOf ts = (textPref ts (enumL (ts.map TK.v)).length).1 := by
  rw [show (enumL (ts.map TK.v)).length = ts.length by simp [enumL]]; exact textOf_pref ts
end Mine
end

section
set_option maxHeartbeats 1000000
open PySem PySem.W PyProof.Rows PySem.Spec PySem.Calls PySem.SeqAt
set_option Elab.async false
set_option linter.unusedVariables false
set_option linter.unusedSimpArgs false
set_option maxRecDepth 100000
namespace Mine
/-! ## octets -/
noncomputable def idx (l : List (List Nat)) (x : List Nat) : Nat := l.findIdx (· == x)
noncomputable def enc : TK → List Nat
  | .num n => [1, n % 256, n / 256]
  | .word x => [128 + idx WRD x]
  | .sign x => [32 + idx SGN x]
  | .name x => 2 :: x.length :: x
  | .text x => 3 :: x.length :: x
  | .raw x => 4 :: x.length :: x
noncomputable def octs (ts : List TK) : List Nat := (ts.map enc).flatten
noncomputable def TK.good : TK → Prop
  | .num n => n < 65536
  | .word x => x ∈ WRD
  | .sign x => x ∈ SGN
  | .name x => x.length ≤ 255 ∧ ∀ c ∈ x, c < 256
  | .text x => x.length ≤ 255 ∧ ∀ c ∈ x, c < 256
  | .raw x => x.length ≤ 255 ∧ ∀ c ∈ x, c < 256
noncomputable def rowV (r : List Nat) : List V := r.map fun n : Nat => V.int (n : Int)
theorem rowV_app (a b : List Nat) : rowV (a ++ b) = rowV a ++ rowV b := List.map_append
theorem rowV_len (a : List Nat) : (rowV a).length = a.length := List.length_map ..
theorem rowV_get {r : List Nat} {i : Nat} (h : i < r.length) : (rowV r)[i]? = some (.int (nth r i)) := by
  unfold rowV; rw [List.getElem?_map, nth_get h]; rfl
theorem rowV_slice (r : List Nat) (a b : Nat) : ((rowV r).take b).drop a = rowV (slc r a b) := by
  unfold rowV slc; rw [← List.map_take, ← List.map_drop]
noncomputable def mapI (f : Nat → V) : V → V
  | .int i => f i.toNat
  | v => v
noncomputable def expandOne (r : List Nat) (a : Nat) : Re (TK × Nat) :=
  if 128 ≤ nth r a then (if 44 ≤ nth r a - 128 then .error "SN" else .ok (.word (WRD[nth r a - 128]?.getD []), a + 1))
  else if 32 ≤ nth r a then (if 17 ≤ nth r a - 32 then .error "SN" else .ok (.sign (SGN[nth r a - 32]?.getD []), a + 1))
  else if nth r a = 1 ∧ a + 2 < r.length then .ok (.num (nth r (a + 1) + 256 * nth r (a + 2)), a + 3)
  else if nth r a ≠ 2 ∧ nth r a ≠ 3 ∧ nth r a ≠ 4 then .error "SN"
  else if r.length ≤ a + 1 ∨ r.length < a + 2 + nth r (a + 1) then .error "SN"
  else .ok ((if nth r a = 2 then TK.name else if nth r a = 3 then TK.text else TK.raw) (slc r (a + 2) (a + 2 + nth r (a + 1))), a + 2 + nth r (a + 1))
noncomputable def expandGo (r : List Nat) : Nat → List TK → Nat → Re (List TK)
  | 0, acc, _ => .ok acc
  | n + 1, acc, a => if a < r.length then match expandOne r a with
      | .error e => .error e
      | .ok p => expandGo r n (acc ++ [p.1]) p.2
    else .ok acc
noncomputable def expandAll (r : List Nat) : Re (List TK) := expandGo r r.length [] 0
theorem and255 (n : Nat) : Builtin.bitAnd (n : Int) 255 = ((n % 256 : Nat) : Int) := by
  have h1 : decide ((0 : Int) ≤ (n : Int)) = true := by simp
  have h2 : decide ((0 : Int) ≤ 255) = true := by decide
  unfold Builtin.bitAnd
  rw [h1, h2]
  show (((n : Int).toNat &&& 255 : Nat) : Int) = _
  rw [Int.toNat_natCast]
  have := Nat.and_two_pow_sub_one_eq_mod n 8
  rw [show (255 : Nat) = 2 ^ 8 - 1 by decide, this]
theorem bitNot2 (x : Int) : Builtin.bitNot (Builtin.bitNot x) = x := by unfold Builtin.bitNot; (first | lia | omega)
theorem or_nat (x y : Nat) : Builtin.bitOr (x : Int) (y : Int) = ((x ||| y : Nat) : Int) := by
  have h1 : decide ((0 : Int) ≤ Builtin.bitNot (x : Int)) = false := by simp [Builtin.bitNot]; (first | lia | omega)
  have h2 : decide ((0 : Int) ≤ Builtin.bitNot (y : Int)) = false := by simp [Builtin.bitNot]; (first | lia | omega)
  unfold Builtin.bitOr
  show Builtin.bitNot (Builtin.bitAnd (Builtin.bitNot (x : Int)) (Builtin.bitNot (y : Int))) = _
  unfold Builtin.bitAnd
  rw [h1, h2]
  show Builtin.bitNot (Builtin.bitNot _) = _
  rw [bitNot2, bitNot2, bitNot2]; simp
theorem or_256 {x : Nat} (y : Nat) (h : x < 256) : x ||| y * 256 = x + 256 * y := by
  have := Nat.shiftLeft_add_eq_or_of_lt (i := 8) (b := x) (by assumption) y
  rw [Nat.shiftLeft_eq] at this
  rw [Nat.or_comm, ← this]
  (first | lia | omega)
theorem fdiv256 (n : Nat) : (n : Int).fdiv (2 ^ (8 : Int).toNat) = ((n / 256 : Nat) : Int) := by
  show (n : Int).fdiv 256 = _
  rw [Int.fdiv_eq_ediv_of_nonneg _ (by (first | lia | omega))]; simp
theorem idx_at {l : List (List Nat)} {x : List Nat} (h : x ∈ l) : l[idx l x]? = some x ∧ (∀ m < idx l x, l[m]? ≠ some x) ∧ idx l x < l.length := by
  have hl : idx l x < l.length := List.findIdx_lt_length_of_exists ⟨x, h, by simp⟩
  refine ⟨?_, fun m hm e => ?_, hl⟩
  · rw [List.getElem?_eq_getElem hl]
    have := List.findIdx_getElem (xs := l) (p := (· == x)) (w := hl)
    exact congrArg some (eq_of_beq this)
  · have h2 := List.not_of_lt_findIdx (p := (· == x)) (xs := l) hm
    obtain ⟨h3, h4⟩ := List.getElem?_eq_some_iff.mp e
    have h5 : (l[m] == x) = true := by simpa using h4
    rw [h5] at h2
    exact absurd h2 (by simp)
theorem enc_len {t : TK} (h : t.good) : (enc t).length ≤ 257 := by
  cases t <;> simp only [TK.good] at h <;> simp only [enc, List.length_cons, List.length_nil] <;> (first | lia | omega)
theorem octs_len {ts : List TK} (h : ∀ t ∈ ts, t.good) : (octs ts).length ≤ 257 * ts.length := by
  unfold octs
  induction ts with
  | nil => simp
  | cons t l ih =>
    have h1 := enc_len (h t (.head _))
    have h2 := ih fun x m => h x (.tail _ m)
    simp only [List.map_cons, List.flatten_cons, List.length_append, List.length_cons]
    (first | lia | omega)
theorem octs_take {ts : List TK} {k : Nat} {t : TK} (h : ts[k]? = some t) : octs (ts.take (k + 1)) = octs (ts.take k) ++ enc t := by
  unfold octs
  rw [List.take_succ, h]; simp
theorem expandOne_step {r : List Nat} {a : Nat} {p : TK × Nat} (ha : a < r.length) (h : expandOne r a = .ok p) : a < p.2 ∧ p.2 ≤ r.length := by
  unfold expandOne at h
  split at h
  · split at h
    · exact absurd h (by simp)
    · cases h; simp; (first | lia | omega)
  · split at h
    · split at h
      · exact absurd h (by simp)
      · cases h; simp; (first | lia | omega)
    · split at h
      · cases h; simp; (first | lia | omega)
      · split at h
        · exact absurd h (by simp)
        · split at h
          · exact absurd h (by simp)
          · cases h; simp; (first | lia | omega)
theorem ev_subD {keys : List (Option Expr)} {values : List Expr} {dp : Pos} {slice : Expr} {prog : Program} {w : World} {C : Ctx} {env : Env} {loc : Loc} {μ : St} {Q : V → St → Prop} {X : Str → St → Prop} {pos}
    (h : Ev prog w C (RDs prog w) env X (eval (.Dict keys values dp) env) loc (fun ds μ₁ => Ev prog w C RV env X (eval slice env) loc (fun i μ₂ => ∃ x d, i = .str x ∧ ds.lookup x = some d ∧ Q d μ₂) μ₁) μ)
    (hs : ∀ o i, subscripted slice false o i = operate [o, i] (getItem o i)) :
    Ev prog w C RV env X (eval (.Subscript (.Dict keys values dp) slice pos) env) loc Q μ := ev_subd h hs
end Mine
end

section
set_option maxHeartbeats 1000000
open PySem PySem.W PyProof.Rows PySem.Spec PySem.Calls PySem.SeqAt
set_option Elab.async false
set_option linter.unusedVariables false
set_option linter.unusedSimpArgs false
set_option maxRecDepth 100000
namespace Mine
/-! ## a long display of written texts and numbers -/
noncomputable def CS (prog : Program) (w : World) (t : Sem Value) (x : Str) : Prop := ∀ (A : Around) (E : Value → Shared → Prop) (Q : Value → Shared → Prop) (s : Shared), (∀ tok tk, Q (.str x tok) { s with toks := tk }) → wpAny (model prog w) A t Q E s
noncomputable def CI (prog : Program) (w : World) (t : Sem Value) (n : Int) : Prop := ∀ (A : Around) (E : Value → Shared → Prop) (Q : Value → Shared → Prop) (s : Shared), (∀ tok tk, Q (.int n tok) { s with toks := tk }) → wpAny (model prog w) A t Q E s
inductive CK (prog : Program) (w : World) : List (Sem Value × Sem Value) → List (Str × Int) → Prop
  | nil : CK prog w [] []
  | cons {k v x n ps l} : CS prog w k x → CI prog w v n → CK prog w ps l → CK prog w ((k, v) :: ps) ((x, n) :: l)
section
variable {prog : Program} {w : World} {A : Around} {E : Value → Shared → Prop} {s : Shared} {env : Env}
theorem cs_const {x : Str} {k p} : CS prog w (eval (.Constant (.str x) k p) env) x := fun A E Q s h => wpAny_Constant_str (h _ _)
theorem ci_const {n : Int} {k p} {pos : Pos} : CI prog w (do let v ← eval (.Constant (.int n) k p) env; standAt pos; pure v) n := fun A E Q s h =>
  wpAny_bind (wpAny_Constant_int (wpAny_bind (wpAny_standAt (wpAny_pure (h _ _)))))
noncomputable def KC (kvs : List (Str × Value)) (l : List (Str × Int)) : Prop := kvs.map (·.1) = l.map (·.1) ∧ ∀ h ρ, KVs cs h ρ kvs (l.map fun p => (cs p.1, V.int p.2))
theorem KVs.snoc {K κ : Type} {h : Heap} {ρ : List Addr} {ab : K → κ} {kvs : List (K × Value)} {ds : List (κ × V)} (r : KVs ab h ρ kvs ds) {k : K} {v : Value} {e : V} (q : RV h ρ v e) : KVs ab h ρ (kvs ++ [(k, v)]) (ds ++ [(ab k, e)]) := by
  induction r with
  | nil => exact .cons q .nil
  | cons r _ ih => exact .cons r ih
theorem KVs.app {K κ : Type} {h : Heap} {ρ : List Addr} {ab : K → κ} {kvs kvs' : List (K × Value)} {ds ds' : List (κ × V)} (r : KVs ab h ρ kvs ds) (q : KVs ab h ρ kvs' ds') : KVs ab h ρ (kvs ++ kvs') (ds ++ ds') := by
  induction r with
  | nil => exact q
  | cons r _ ih => exact .cons r ih
theorem KC.snoc {kvs l} (h : KC kvs l) {x : Str} {n : Int} {t : Tok} : KC (kvs ++ [(x, .int n t)]) (l ++ [(x, n)]) := by
  refine ⟨by simp [h.1], fun hp ρ => ?_⟩
  rw [List.map_append]
  exact (h.2 hp ρ).snoc (.int _ _)
theorem KC.app {kvs l kvs' l'} (h : KC kvs l) (q : KC kvs' l') : KC (kvs ++ kvs') (l ++ l') := by
  refine ⟨by simp [h.1, q.1], fun hp ρ => ?_⟩
  rw [List.map_append]
  exact (h.2 hp ρ).app (q.2 hp ρ)
theorem KC.len {kvs l} (h : KC kvs l) : kvs.length = l.length := by simpa using congrArg List.length h.1
theorem stored_fresh {kvs : List (Str × Value)} {k : Str} {v : Value} (h : k ∉ kvs.map (·.1)) : stored kvs k v = kvs ++ [(k, v)] := by
  unfold stored
  rw [if_neg]
  rw [List.any_eq_true]
  rintro ⟨p, m, e⟩
  exact h (List.mem_map.mpr ⟨p, m, of_decide_eq_true e⟩)
theorem nd_fresh {done rest : List (Str × Int)} {x : Str} {n : Int} (nd : ((done ++ (x, n) :: rest).map (·.1)).Nodup) {kvs} (h : KC kvs done) : x ∉ kvs.map (·.1) := by
  rw [h.1]
  rw [List.map_append, List.map_cons, List.nodup_append] at nd
  exact fun m => nd.2.2 x m x List.mem_cons_self rfl
theorem SameBut.refl {d : Addr} {h : Heap} : Heap.SameBut d h h := ⟨rfl, fun _ _ => rfl⟩
inductive VS : List (Value × Value) → List (Str × Int) → Prop
  | nil : VS [] []
  | cons {x n t t' vs l} : VS vs l → VS ((.str x t, .int n t') :: vs) ((x, n) :: l)
theorem evalPairs_const {ps l} (c : CK prog w ps l) : ∀ {s : Shared} {Q : List (Value × Value) → Shared → Prop}, (∀ vs tk, VS vs l → Q vs { s with toks := tk }) → wpAny (model prog w) A (evalPairs ps) Q E s := by
  induction c with
  | nil => intro s Q h; exact evalPairs_nil (h [] s.toks .nil)
  | cons c1 c2 _ ih =>
    intro s Q h
    refine evalPairs_cons (c1 A _ _ _ fun tok tk => c2 A _ _ _ fun tok' tk' => ih fun vs tk'' r => h _ _ (.cons r))
noncomputable def Stg (prog : Program) (w : World) (d : Addr) (s : Shared) (l rest : List (Str × Int)) (s' : Shared) : Prop :=
  ∃ done kvs h' tk, l = done ++ rest ∧ KC kvs done ∧ h'.DictOf (strKind prog w) d kvs ∧ Heap.SameBut d s.heap h' ∧ s' = { s with heap := h', toks := tk }
theorem Stg.step {d : Addr} {s s' : Shared} {l rest : List (Str × Int)} {x : Str} {n : Int} {t t' : Tok} {tk0 : Nat} {Q : Unit → Shared → Prop} (nd : (l.map (·.1)).Nodup) (hl : l.length ≤ 100)
    (h : Stg prog w d s l ((x, n) :: rest) s') (hQ : ∀ s'', Stg prog w d s l rest s'' → Q () s'') : wpAny (model prog w) A (dictSet d (.str x t) (.int n t')) Q E { s' with toks := tk0 } := by
  refine nn fun nG => ?_
  obtain ⟨done, kvs, h', tk, rfl, kc, hd, sb, rfl⟩ := h
  refine nG ?_
  clear nG
  have hk := kc.len
  refine wpAny_dictSet_pairs (knd := strKind prog w) (k := x) (strKind_is prog w x t) hd (fun h'' hd' sb' => hQ _ ?_) (by rw [sizeLine_eq]; simp at hl; (first | lia | omega))
  rw [stored_fresh (nd_fresh nd kc)] at hd'
  exact ⟨done ++ [(x, n)], _, h'', _, by simp, kc.snoc, hd', sb.trans sb', rfl⟩
theorem storeAll_const {d : Addr} {l : List (Str × Int)} (nd : (l.map (·.1)).Nodup) (hl : l.length ≤ 100) {s0 : Shared} {Q : PUnit → Shared → Prop} (hQ : ∀ s'', Stg prog w d s0 l [] s'' → Q ⟨⟩ s'') :
    ∀ {vs rest s'}, VS vs rest → Stg prog w d s0 l rest s' → wpAny (model prog w) A (storeAll d vs) Q E s' := by
  intro vs rest s' v
  induction v generalizing s' with
  | nil => intro h; unfold storeAll; rw [List.forIn_nil]; exact wpAny_pure (hQ _ h)
  | @cons x n t t' vs l' _ ih =>
    intro h
    unfold storeAll
    rw [List.forIn_cons]
    refine wpAny_bind (wpAny_bind ?_)
    have h0 := h
    refine nn fun nG => ?_
    obtain ⟨done, kvs, h', tk, e1, kc, hd, sb, rfl⟩ := h
    refine nG ?_
    clear nG
    exact Stg.step (tk0 := tk) nd hl h0 fun s'' h'' => wpAny_pure (ih h'')
theorem subDict_const {ps : List (Sem Value × Sem Value)} {l : List (Str × Int)} (c : CK prog w ps l) (nd : (l.map (·.1)).Nodup) (hl : l.length ≤ 100) {s : Shared} {Q : Addr → Shared → Prop}
    (hQ : ∀ s'', Stg prog w s.heap.objs.size { s with heap := s.heap.push { cls := .type "dict", data := .dict #[] } } l [] s'' → Q s.heap.objs.size s'') : wpAny (model prog w) A (subDict ps) Q E s := by
  have hd0 := Heap.DictOf.new (knd := strKind prog w) s.heap
  by_cases h15 : ps.length ≤ 15
  · refine wpAny_subDict_any h15 (evalPairs_const c fun vs tk v => ?_)
    exact storeAll_const nd hl (fun s'' h => hQ s'' h) v ⟨[], [], _, tk, rfl, ⟨rfl, fun _ _ => .nil⟩, hd0, SameBut.refl, rfl⟩
  · unfold subDict
    refine wpAny_bind (wpAny_alloc ?_)
    refine wpAny_bind (wpAny_holding ?_)
    rw [if_neg h15]
    refine wpAny_bind (wpAny_rule ?_)
    refine wpAny_bind ?_
    refine wpAny_forIn_list _ (fun rest _ s' => ∃ lr, CK prog w rest lr ∧ Stg prog w s.heap.objs.size { s with heap := s.heap.push { cls := .type "dict", data := .dict #[] } } l lr s') _ ?_ ?_ ps _ ⟨l, c, [], [], _, s.toks, rfl, ⟨rfl, fun _ _ => .nil⟩, hd0, SameBut.refl, rfl⟩
    · intro hz1 rest b s' hz2
      refine nn fun nG => ?_
      obtain ⟨k, v⟩ := hz1
      obtain ⟨lr, c', st⟩ := hz2
      refine nG ?_
      clear nG
      cases c' with
      | cons c1 c2 c3 =>
        have st0 := st
        refine nn fun nG => ?_
        obtain ⟨done, kvs, h', tk, e1, kc, hd, sb, rfl⟩ := st
        refine nG ?_
        clear nG
        refine wpAny_bind (c1 A _ _ _ fun tok t1 => wpAny_bind (wpAny_holding (c2 A _ _ _ fun tok' t2 => wpAny_bind (wpAny_holding ?_))))
        exact Stg.step (s' := { s with heap := h', toks := tk }) (tk0 := t2) nd hl st0 fun s'' h'' => wpAny_pure ⟨_, c3, h''⟩
    · rintro b s' ⟨lr, c', st⟩
      cases c'
      exact wpAny_pure (wpAny_pure (hQ _ st))
end
end Mine
end

section
set_option maxHeartbeats 1000000
open PySem PySem.W PyProof.Rows PySem.Spec PySem.Calls PySem.SeqAt
set_option Elab.async false
set_option linter.unusedVariables false
set_option linter.unusedSimpArgs false
set_option maxRecDepth 100000
namespace Mine
section
variable {prog : Program} {w : World} {A : Around} {E : Value → Shared → Prop} {s : Shared} {env : Env}
theorem dictPut_fresh {d : Addr} {kvs : List (Str × Value)} {k : Str} {key v : Value} {Q : Unit → Shared → Prop} (hkey : (strKind prog w).is k key = true) (hm : s.heap.DictOf (strKind prog w) d kvs)
    (hf : k ∉ kvs.map (·.1)) (hsz : kvs.length ≤ 1000) (hQ : ∀ h', h'.DictOf (strKind prog w) d (kvs ++ [(k, v)]) → Heap.SameBut d s.heap h' → Q () { s with heap := h' }) :
    wpAny (model prog w) A (dictPut d ((strKind prog w).hash k) key v) Q E s := by
  refine nn fun nG => ?_
  obtain ⟨o, es, ep, ho, hc, hd, hk, hp, hn⟩ := hm
  refine nG ?_
  clear nG
  have hes : es.size ≤ sizeLine := by
    have e1 := hp.length
    have e2 : es.toList.length = es.size := by simp
    rw [sizeLine_eq]; (first | lia | omega)
  unfold dictPut
  refine wpAny_bind (wpAny_dictFind_of hkey ho hd hk ?_)
  have hidx : (es.findIdx? fun e => (strKind prog w).is k e.key) = kvs.findIdx? fun kv => decide (kv.1 = k) := by
    rw [← hp.findIdx k]; obtain ⟨l⟩ := es; simp
  have hnone : (kvs.findIdx? fun kv => decide (kv.1 = k)) = none := by
    rw [List.findIdx?_eq_none_iff]
    intro x m
    exact decide_eq_false fun e => hf (List.mem_map.mpr ⟨x, m, e⟩)
  rw [hidx, hnone]
  refine wpAny_updateDictKeys (hz := hes) ho hd (hQ _ ⟨_, _, ep + 1, Heap.get?_update_self _ ho (Obj.isFreed_of_dict (Obj.data_mapDictKeys hd _)),
      hc.mapDictKeys _, Obj.data_mapDictKeys hd _, hk.push hkey _, ?_, ?_⟩ (Heap.SameBut.update ..))
  · have := hp.append hkey ((strKind prog w).hash k) v
    obtain ⟨l⟩ := es
    simpa using this
  · rw [List.map_append, List.nodup_append]
    refine ⟨hn, by simp, ?_⟩
    intro a ha b hb
    simp only [List.map_cons, List.map_nil, List.mem_singleton] at hb
    subst hb
    exact fun e => hf (e ▸ ha)
/-- one display of strings poured over another -/
theorem merge_const {d a : Addr} {l1 l2 : List (Str × Int)} {k1 k2 : List (Str × Value)} (nd : ((l1 ++ l2).map (·.1)).Nodup) (h1 : KC k1 l1) (h2 : KC k2 l2) (h0 : l1 ≠ []) (hl : l1.length + l2.length ≤ 100)
    (hd : s.heap.DictOf (strKind prog w) d k1) (ha : s.heap.DictOf (strKind prog w) a k2) (hda : d ≠ a) (hs : (a == sysModules) = false) {Q : Unit → Shared → Prop}
    (hQ : ∀ h', h'.DictOf (strKind prog w) d (k1 ++ k2) → Heap.SameBut d s.heap h' → Q () { s with heap := h' }) :
    wpAny (model prog w) A (mergeMapping d (.ref a) false) Q E s := by
  have ha0 := ha
  have hd0 := hd
  refine nn fun nG => ?_
  obtain ⟨o, es, ep, ho, hc, hdat, hk, hp, hn⟩ := ha
  obtain ⟨o1, es1, ep1, ho1, hc1, hdat1, hk1, hp1, hn1⟩ := hd
  refine nG ?_
  clear nG
  have hes : es.size = k2.length := by
    have e1 := hp.length
    have e2 : es.toList.length = es.size := by simp
    (first | lia | omega)
  have hne : es1.isEmpty = false := by
    have e1 := hp1.length
    have e2 : es1.toList.length = es1.size := by simp
    have e3 := h1.len
    have : l1.length ≠ 0 := fun e => h0 (List.length_eq_zero_iff.mp e)
    rw [Array.isEmpty_eq_false_iff]
    intro e
    have e4 : es1.size = 0 := by rw [e]; rfl
    (first | lia | omega)
  unfold mergeMapping
  refine wpAny_bind (wpAny_isInstance ha0.typeIs isSubtype_dict_dict ?_)
  simp only [if_true]
  refine wpAny_bind (wpAny_specialOf ha0.typeIs F.slot_dict_iter.lookup (wpAny_bind (wpAny_pure ?_)))
  simp only [beq_self_eq_true]
  rw [hs]
  simp only [Bool.false_eq_true, if_false]
  refine wpAny_bind (wpAny_dictEntries ho1 hdat1 ?_)
  rw [hne]
  simp only [Bool.false_eq_true, if_false]
  refine wpAny_bind (wpAny_dictEntries ho hdat ?_)
  refine wpAny_bind (wpAny_dictEpoch ho hdat ?_)
  rw [hes]
  refine wpAny_bind ?_
  refine wpAny_forIn_list _ (fun rest _ s' => ∃ j h', rest = (List.range k2.length).drop j ∧ h'.DictOf (strKind prog w) d (k1 ++ k2.take j) ∧ Heap.SameBut d s.heap h' ∧ s' = { s with heap := h' }) _ ?_ ?_ _ _ ⟨0, s.heap, rfl, by simpa using hd0, SameBut.refl, rfl⟩
  · intro i rest b s' hz1
    refine nn fun nG => ?_
    obtain ⟨j, h', hr, hdj, sb, rfl⟩ := hz1
    refine nG ?_
    clear nG
    have hj : j < k2.length := by
      rcases Nat.lt_or_ge j k2.length with q | q
      · exact q
      · rw [List.drop_eq_nil_of_le (by simpa using q)] at hr; cases hr
    rw [List.drop_eq_getElem_cons (by simpa using hj), List.getElem_range] at hr
    injection hr with hi hr
    subst hi
    have ho' : h'.get? a = some o := (sb.2 a (Ne.symm hda)).trans ho
    have hje : i < es.size := by (first | lia | omega)
    have hge : es[i]? = some es[i] := Array.getElem?_eq_getElem hje
    have hgl : es.toList[i]? = some es[i] := by rw [Array.getElem?_toList]; exact hge
    have hk2 : k2[i]? = some (k2[i].1, k2[i].2) := List.getElem?_eq_getElem hj
    refine nn fun nG => ?_
    obtain ⟨hik, hiv⟩ := hp.get? hgl hk2
    obtain ⟨k', hk', hh⟩ := hk es[i] (Array.getElem_mem hje)
    refine nG ?_
    clear nG
    obtain rfl : k' = k2[i].1 := (strKind prog w).inj _ _ _ hk' hik
    refine wpAny_bind (wpAny_dictEntries ho' hdat ?_)
    rw [hge]
    dsimp only
    refine wpAny_bind (wpAny_holding ?_)
    rw [hh]
    have hlen := h1.len
    have hlen2 := h2.len
    refine dictPut_fresh (v := es[i].val) hk' hdj ?_ (by simp; (first | lia | omega)) fun h'' hd'' sb'' => ?_
    · have nd' : ((k1 ++ k2).map (·.1)).Nodup := by
        rw [List.map_append, h1.1, h2.1, ← List.map_append]; exact nd
      rw [show k1 ++ k2 = (k1 ++ k2.take i) ++ k2[i] :: k2.drop (i + 1) by rw [List.append_assoc, List.getElem_cons_drop, List.take_append_drop]] at nd'
      rw [List.map_append, List.map_cons, List.nodup_append] at nd'
      exact fun m => nd'.2.2 _ m _ List.mem_cons_self rfl
    · have ho'' : h''.get? a = some o := (sb''.2 a (Ne.symm hda)).trans ho'
      refine wpAny_bind (wpAny_dictEpoch (s := { s with heap := h'' }) ho'' hdat ?_)
      simp only [bne_self_eq_false, Bool.false_eq_true, if_false]
      refine wpAny_pure ⟨i + 1, h'', hr, ?_, sb.trans sb'', rfl⟩
      rw [List.take_succ, hk2, ← List.append_assoc]
      rw [hiv] at hd''
      exact hd''
  · intro b s' hz2
    refine nn fun nG => ?_
    obtain ⟨j, h', hr, hdj, sb, rfl⟩ := hz2
    refine nG ?_
    clear nG
    have hj : k2.length ≤ j := by
      have := congrArg List.length hr
      simp at this; (first | lia | omega)
    rw [List.take_of_length_le hj] at hdj
    exact wpAny_pure (hQ _ hdj sb)
end
end Mine
end

section
set_option maxHeartbeats 1000000
open PySem PySem.W PyProof.Rows PySem.Spec PySem.Calls PySem.SeqAt
set_option Elab.async false
set_option linter.unusedVariables false
set_option linter.unusedSimpArgs false
set_option maxRecDepth 100000
namespace Mine
section
variable {prog : Program} {w : World} {A : Around} {E : Value → Shared → Prop} {s : Shared} {env : Env}
theorem CK.len {ps l} (c : CK prog w ps l) : ps.length = l.length := by
  induction c with
  | nil => rfl
  | cons _ _ _ ih => simp [ih]
theorem display_const {p1 p2 : List (Sem Value × Sem Value)} {last : Sem Value × Sem Value} {l1 l2 : List (Str × Int)} (c1 : CK prog w (p1 ++ [last]) l1) (c2 : CK prog w p2 l2) (h16 : p1.length = 16) (h2 : p2 ≠ []) (hl2 : p2.length < 17)
    (nd : ((l1 ++ l2).map (·.1)).Nodup) (hs : ∀ a, s.heap.objs.size ≤ a → (a == sysModules) = false) {Q : Value → Shared → Prop}
    (hQ : ∀ h' tk kvs, KC kvs (l1 ++ l2) → h'.DictOf (strKind prog w) s.heap.objs.size kvs → (∀ b o, s.heap.get? b = some o → h'.get? b = some o) → Q (.ref s.heap.objs.size) { s with heap := h', toks := tk }) :
    wpAny (model prog w) A (dictDisplay (((p1 ++ [last]) ++ p2).map fun p => (some p.1, p.2))) Q E s := by
  have nd1 : (l1.map (·.1)).Nodup := by rw [List.map_append, List.nodup_append] at nd; exact nd.1
  have nd2 : (l2.map (·.1)).Nodup := by rw [List.map_append, List.nodup_append] at nd; exact nd.2.1
  have hc1 := c1.len
  have hc2 := c2.len
  have hl1 : l1.length = 17 := by simp [h16] at hc1; (first | lia | omega)
  unfold dictDisplay
  dsimp only
  rw [List.append_assoc, List.map_append, gather_long _ none (fun p run h => by
    have hne : ((run ++ [(p.1, p.2)]).length == 17) = false := by simp; (first | lia | omega)
    simp only [hne, Bool.false_eq_true, if_false]) p1 [] _ (by simp; (first | lia | omega))]
  rw [List.nil_append, List.cons_append, List.nil_append, List.map_cons, List.forIn_cons]
  have h17 : ((p1 ++ [(last.1, last.2)]).length == 17) = true := by simp [h16]
  have hem : (p1 ++ [(last.1, last.2)]).isEmpty = false := by simp
  simp only [h17, if_true, hem, Bool.false_eq_true, if_false]
  refine wpAny_bind (wpAny_bind (wpAny_bind (wpAny_bind (subDict_const c1 nd1 (by (first | lia | omega)) fun s1 st => ?_))))
  refine nn fun nG => ?_
  obtain ⟨done, kvs1, g1, tk1, e1, kc1, hd1, sb1, rfl⟩ := st
  refine nG ?_
  clear nG
  rw [List.append_nil] at e1
  subst e1
  refine wpAny_pure (wpAny_pure ?_)
  dsimp only
  have hsz1 : g1.objs.size = s.heap.objs.size + 1 := by
    rw [sb1.1]; show (s.heap.push _).objs.size = _; simp [Heap.push]
  rw [← List.append_nil (List.map (fun p => (some p.fst, p.snd)) p2), gather_long _ (some s.heap.objs.size) (fun p run h => by
    have hne : ((run ++ [(p.1, p.2)]).length == 17) = false := by simp; (first | lia | omega)
    simp only [hne, Bool.false_eq_true, if_false]) p2 [] _ (by simp; (first | lia | omega))]
  rw [List.forIn_nil, List.nil_append]
  refine wpAny_pure ?_
  have hem2 : p2.isEmpty = false := by cases p2 with | nil => exact absurd rfl h2 | cons a r => rfl
  simp only [hem2, Bool.false_eq_true, if_false]
  refine wpAny_bind (wpAny_bind (wpAny_holding (subDict_const c2 nd2 (by (first | lia | omega)) fun s2 st => ?_)))
  refine nn fun nG => ?_
  obtain ⟨done, kvs2, g2, tk2, e1, kc2, hd2, sb2, rfl⟩ := st
  refine nG ?_
  clear nG
  rw [List.append_nil] at e1
  subst e1
  dsimp only at hd2 sb2 ⊢
  have hne : s.heap.objs.size ≠ g1.objs.size := by (first | lia | omega)
  have hd1' : g2.DictOf (strKind prog w) s.heap.objs.size kvs1 := (hd1.push _).sameBut sb2 hne
  refine wpAny_bind (wpAny_onRaise (wpAny_holding ?_))
  refine merge_const (s := ⟨g2, _, _, _, _⟩) nd kc1 kc2 (by intro e; rw [e] at hl1; simp at hl1) (by (first | lia | omega)) hd1' hd2 hne (hs _ (by (first | lia | omega))) fun g3 hd3 sb3 => ?_
  refine wpAny_pure (wpAny_pure (hQ g3 tk2 _ (kc1.app kc2) hd3 fun b o hb => ?_))
  have hlt := Heap.lt_size hb
  rw [sb3.2 b (Nat.ne_of_lt hlt), sb2.2 b (by rw [hsz1]; exact Nat.ne_of_lt (Nat.lt_succ_of_lt hlt))]
  have h1 : g1.get? b = some o := by
    rw [sb1.2 b (Nat.ne_of_lt hlt)]
    exact Heap.get?_push_of_some _ hb
  exact Heap.get?_push_of_some _ h1
variable {C : Ctx} {X : Str → St → Prop} {loc : Loc} {μ : St}
theorem ev_dictlong {keys : List (Option Expr)} {values : List Expr} {pos : Pos} {QD : List (List Nat × V) → St → Prop} {p1 p2 : List (Sem Value × Sem Value)} {last : Sem Value × Sem Value} (l1 l2 : List (Str × Int))
    (hall : keys.all (·.isSome) = true) (hl : keys.length = values.length) (hsp : pairTrees keys values env pos = (p1 ++ [last]) ++ p2)
    (c1 : CK prog w (p1 ++ [last]) l1) (c2 : CK prog w p2 l2) (h16 : p1.length = 16) (h2 : p2 ≠ []) (hl2 : p2.length < 17) (nd : ((l1 ++ l2).map (·.1)).Nodup)
    (h : QD ((l1 ++ l2).map fun p => (cs p.1, V.int p.2)) μ) :
    Ev prog w C (RDs prog w) env X (eval (.Dict keys values pos) env) loc QD μ := by
  intro A s ρ cx rl lc P PE p pe
  rw [arm_eval_Dict, zip_pairTrees keys values env pos hall hl, hsp]
  have fr : s.heap.get? s.heap.objs.size = none := fresh_none
  refine wpAny_bind (wpAny_standAt (display_const c1 c2 h16 h2 hl2 nd (fun a ha => sys_ne cx rl ha) fun h' tk kvs kc hd keep => ?_))
  exact p (.ref s.heap.objs.size) _ μ ρ h' tk ⟨_, kvs, rfl, rl.nins fr, hd, kc.2 _ _, sys_ne cx rl (Nat.le_refl _)⟩ h (rl.keeps keep) (ext_of keep)
end
end Mine
end

section
set_option maxHeartbeats 1000000
open PySem PySem.W PyProof.Rows PySem.Spec PySem.Calls PySem.SeqAt
set_option Elab.async false
set_option linter.unusedVariables false
set_option linter.unusedSimpArgs false
set_option maxRecDepth 100000
namespace Mine
section
variable {prog : Program} {w : World} {C : Ctx} {X : Str → St → Prop} {env : Env} {loc : Loc} {β : Type} {R : Heap → List Addr → Value → β → Prop} {Q : β → St → Prop} {μ : St}
/-- a call without arguments, of any answer -/
theorem ev_call0 {x : Str} {np pos : Pos} {f : Addr} {oc : Value} {od : Option Addr} {fd : FuncData} {osl : Array (Option Value)}
    (g : nsIn C.K mainGlobals x = some (some (.ref f))) (ho : C.K.lookup f = some ⟨oc, od, .func fd, osl⟩) (hk : env.kindOf x = some .globalImplicit) (hd : (x == ("__debug__" : Str)) = false)
    (h : Op prog w C R (fun us => call (.ref f) us) X Q [] μ) :
    Ev prog w C R env X (eval (.Call (.Name x np) [] [] pos) env) loc Q μ := by
  intro A s ρ cx rl lc P PE p pe
  refine Call_ (globAt cx rl lc g hk hd ?_) rfl
  refine callWith_function (o := ⟨oc, od, .func fd, osl⟩) (fd := fd) (args := []) (first := []) (PyProof.Rows.evalArgs_none ⟨⟨rl.stay _ _ (cx.kin _ _ ho), rfl⟩, ?_⟩)
  exact h A s ρ [] cx rl .nil P PE p pe
/-- a def of one return, without arguments, of any answer -/
theorem op_ret0 {f : Addr} {oc : Value} {od : Option Addr} {osl : Array (Option Value)} {name qual : Str} {params : Arguments} {e : Expr} {rp : Pos} {scope : Scope} {dV kV doc pm : Value} {an : Option Addr} {cdv ct : Value}
    (ho : C.K.lookup f = some ⟨oc, od, .func (fnOf name qual params [.Return (some e) rp] scope dV kV doc pm an cdv ct), osl⟩) (hcd : codeIn C.K cdv qual = true) (hn : 0 < C.n)
    (hbind : bindArgs (fnOf name qual params [.Return (some e) rp] scope dV kV doc pm an cdv ct) ⟨[], []⟩ = pure [])
    (hcell : ∀ x ∈ scope.names, x.2 ≠ .cell)
    (hco : scope.isCoroutine = false) (hgen : scope.isGenerator = false) (hk : scope.kind = .function)
    (h : ∀ L C', C'.K = C.K → C'.n + 1 = C.n → C'.h₀ = C.h₀ → C'.fs = envOf qual scope L f cdv :: C.fs → Ev prog w C' R (envOf qual scope L f cdv) X (eval e (envOf qual scope L f cdv)) [] Q μ) :
    Op prog w C R (fun us => call (.ref f) us) X Q [] μ := by
  intro A s ρ us cx rl r P PE p pe
  cases r
  refine nn fun nG => ?_
  obtain ⟨_, _, _, _, _, T⟩ := cx.top
  refine nG ?_
  clear nG
  refine wpAny_call (codeAny_call_def (binds := []) (by have := cx.depth; (first | lia | omega)) (rl.stay _ _ (cx.kin _ _ ho)) rfl (T.nolimit.keeps rl.stay) ((codeRec_of cx.kin hcd).keeps rl.stay) rfl (BindsTo.of_eq hbind) hcell (fun x m => nomatch m) ?_ hco hgen hk)
  intro g hns keep
  show wpAny _ (A.deeper (envOf qual scope s.heap.objs.size f cdv)) (execs [.Return (some e) rp] (envOf qual scope s.heap.objs.size f cdv)) _ _ _
  have fr : s.heap.get? s.heap.objs.size = none := fresh_none
  have fr0 := fresh_h₀ rl fr
  have x0 := ext_of (ρ := ρ) keep
  have l0 : Rl (C.push (envOf qual scope s.heap.objs.size f cdv)) g ρ μ := (rl.keeps keep).push hk rfl fr0 hns
  have lc0 : Lc (C.push (envOf qual scope s.heap.objs.size f cdv)) (envOf qual scope s.heap.objs.size f cdv) g ρ [] :=
    ⟨hk, rfl, rfl, ⟨_, hns⟩, fr0, (fun c hc => nomatch hc), List.nodup_nil, fun q m => nomatch m⟩
  refine wpAny_execs_cons (wpAny_Return_some ?_)
  refine (h s.heap.objs.size (C.push _) rfl (by show C.n - 1 + 1 = C.n; (first | lia | omega)) rfl rfl).go (s := ⟨g, _, _, _, _⟩) (cx.push hn _) l0 lc0 ?_ ?_
  · intro e k μ' ρ' h' tk x l ex gr
    have seL : ∀ a, SE (envOf qual scope s.heap.objs.size f cdv) a → s.heap.get? a = none := by
      rintro a (rfl | ⟨c, hc, _⟩)
      · exact fr
      · exact nomatch hc
    refine leaving_exc (s := ⟨h', _, _, _, _⟩) (cx.push hn _) l rfl rfl ex fun h₁ x₁ S₁ => ?_
    have xC : ExcAt C h₁ e k .none := x₁
    exact pe e k μ' ρ' h₁ tk x (S₁.rl l).pop xC.exc ((x0.grow.trans gr).trans S₁.grow)
  · intro u b μ' ρ' h' tk r q l e'
    exact p _ _ μ' ρ' h' tk r q l.pop (x0.trans e')
end
end Mine
end

section
set_option maxHeartbeats 1000000
open PySem PySem.W PyProof.Rows PySem.Spec PySem.Calls PySem.SeqAt
set_option Elab.async false
set_option linter.unusedVariables false
set_option linter.unusedSimpArgs false
set_option maxRecDepth 100000
namespace Mine
inductive CE : List (Option Expr) → List Expr → List (Str × Int) → Prop
  | nil : CE [] [] []
  | cons {x n k p k' p' ks vs l} : CE ks vs l → CE (some (.Constant (.str x) k p) :: ks) (.Constant (.int n) k' p' :: vs) ((x, n) :: l)
section
variable {prog : Program} {w : World} {C : Ctx} {X : Str → St → Prop} {env : Env} {loc : Loc} {μ : St}
theorem CE.ck {keys values l} (c : CE keys values l) (pos : Pos) : CK prog w (pairTrees keys values env pos) l := by
  induction c with
  | nil => exact .nil
  | cons _ ih => exact .cons cs_const ci_const ih
theorem CE.all {keys values l} (c : CE keys values l) : keys.all (·.isSome) = true ∧ keys.length = values.length := by
  induction c with
  | nil => exact ⟨rfl, rfl⟩
  | cons _ ih => exact ⟨by simpa using ih.1, by simpa using ih.2⟩
theorem CK.split {ps l} (c : CK prog w ps l) : ∀ n, CK prog w (ps.take n) (l.take n) ∧ CK prog w (ps.drop n) (l.drop n) := by
  induction c with
  | nil => intro n; simp; exact .nil
  | cons c1 c2 c3 ih =>
    intro n
    cases n with
    | zero => exact ⟨.nil, .cons c1 c2 c3⟩
    | succ n => exact ⟨.cons c1 c2 (ih n).1, (ih n).2⟩
theorem ev_dictlong' {keys : List (Option Expr)} {values : List Expr} {pos : Pos} {QD : List (List Nat × V) → St → Prop} {l : List (Str × Int)}
    (c : CE keys values l) (h17 : 17 < l.length) (hlt : l.length < 34) (nd : (l.map (·.1)).Nodup) (h : QD (l.map fun p => (cs p.1, V.int p.2)) μ) :
    Ev prog w C (RDs prog w) env X (eval (.Dict keys values pos) env) loc QD μ := by
  have hk : CK prog w (pairTrees keys values env pos) l := c.ck pos
  have hlen := hk.len
  have e0 : (pairTrees keys values env pos).take 17 = (pairTrees keys values env pos).take 16 ++ [(pairTrees keys values env pos)[16]] := by
    rw [List.take_succ, List.getElem?_eq_getElem (by (first | lia | omega))]; rfl
  have c1 := (hk.split 17).1
  rw [e0] at c1
  refine ev_dictlong (l.take 17) (l.drop 17) c.all.1 c.all.2 (p1 := (pairTrees keys values env pos).take 16) (last := (pairTrees keys values env pos)[16]) (p2 := (pairTrees keys values env pos).drop 17) ?_ c1 (hk.split 17).2 ?_ ?_ ?_ ?_ ?_
  · rw [← e0, List.take_append_drop]
  · rw [List.length_take]; (first | lia | omega)
  · intro e
    have := congrArg List.length e
    simp at this; (first | lia | omega)
  · simp; (first | lia | omega)
  · rw [List.take_append_drop]; exact nd
  · rw [List.take_append_drop]; exact h
end
end Mine
end

section
set_option maxHeartbeats 1000000
open PySem PySem.W PyProof.Rows PySem.Spec PySem.Calls PySem.SeqAt
set_option Elab.async false
set_option linter.unusedVariables false
set_option linter.unusedSimpArgs false
set_option maxRecDepth 100000
namespace Mine
/-! ## what the law draws -/
structure Bx where
  l : List Nat
  s : Nat
noncomputable def Bx.take (b : Bx) (m : Nat) : Nat × Bx := match b.l with
  | a :: r => (a % m, ⟨r, b.s⟩)
  | [] => ((b.s * 4099 + 12301) % 1000003 / 16 % m, ⟨[], (b.s * 4099 + 12301) % 1000003⟩)
theorem Bx.take_lt (b : Bx) {m : Nat} (h : 0 < m) : (b.take m).1 < m := by
  unfold Bx.take
  split <;> exact Nat.mod_lt _ h
noncomputable def Bx.ok (b : Bx) : Prop := b.s < 1000003 ∧ b.l.length ≤ 24
theorem Bx.take_ok {b : Bx} (h : b.ok) (m : Nat) : (b.take m).2.ok := by
  unfold Bx.take Bx.ok at *
  split
  · next e => rw [e] at h; simp at h ⊢; (first | lia | omega)
  · simp; (first | lia | omega)
noncomputable def bx (b : Bx) : St := [rowV b.l, [.lst 0, .int b.s]]
noncomputable def NMS : List Nat := [0, 7, 10, 255, 256, 32768, 65535]
noncomputable def LWS : List Str := (["END", "FOR", "NEXT", "INPUT", "DIM", "READ", "LET", "GOTO", "STOP", "ON", "PRINT", "TO", "THEN", "STEP", "AND", "OR", "NOT", "MOD", "LEFT$", "MID$", "RND", "STR$", "INSTR", "RESTORE", "RETURN", "GOSUB"] : List String).map Str.ofString
noncomputable def LWD : List (List Nat) := LWS.map cs
noncomputable def LNM : List (List Nat) := (["A", "X1", "B$", "QU", "Z9$", "K"].map Str.ofString).map cs
noncomputable def LTX : List (List Nat) := (["", "abc", "GOTO 10", "a:b,c", "REM 'x"].map Str.ofString).map cs
noncomputable def LRM : List (List Nat) := (["", "note: 'x' \"", "PRINT a"].map Str.ofString).map cs
noncomputable def LIT : List (List Nat) := (["1", "-20", "abc d", "", "a,b", " x:", "it's"].map Str.ofString).map cs
noncomputable def wDT : List Nat := cs "DATA"
noncomputable def drawToken (b : Bx) : TK × Bx :=
  let f := b.take 5
  if f.1 = 0 then (.num (NMS.getD (f.2.take 7).1 0), (f.2.take 7).2)
  else if f.1 = 1 then (.word (LWD.getD (f.2.take 26).1 []), (f.2.take 26).2)
  else if f.1 = 2 then (.name (LNM.getD (f.2.take 6).1 []), (f.2.take 6).2)
  else if f.1 = 3 then (.text (LTX.getD (f.2.take 5).1 []), (f.2.take 5).2)
  else (.sign (SGN.getD (f.2.take 17).1 []), (f.2.take 17).2)
noncomputable def drawItem (t : Nat) (p : List TK × Bx) : List TK × Bx :=
  (p.1 ++ ((if 0 < t then [.sign (cs ",")] else []) ++ [.raw (LIT.getD (p.2.take 7).1 [])]), (p.2.take 7).2)
noncomputable def drawItems (p : List TK × Bx) : Nat → List TK × Bx
  | 0 => p
  | n + 1 => drawItem n (drawItems p n)
noncomputable def drawEnd (b : Bx) : List TK × Bx :=
  let f := b.take 4
  if f.1 = 0 then ([.word (cs "REM"), .raw (LRM.getD (f.2.take 3).1 [])], (f.2.take 3).2)
  else if 1 < f.1 then ([], f.2)
  else drawItems ([.word (cs "DATA")], (f.2.take 3).2) (1 + (f.2.take 3).1)
noncomputable def low (c : Nat) : List Nat := cs (Txt.lower ⟨#[c]⟩)
noncomputable def lowStep (p : List (List Nat) × Bx) (c : Nat) : List (List Nat) × Bx := (p.1 ++ [if (p.2.take 3).1 = 0 then low c else [c]], (p.2.take 3).2)
noncomputable def lowAll (x : List Nat) (b : Bx) : List (List Nat) × Bx := x.foldl lowStep ([], b)
theorem lowAll_ok {b : Bx} (h : b.ok) (x : List Nat) : (lowAll x b).2.ok := by
  have key : ∀ (x : List Nat) (p : List (List Nat) × Bx), p.2.ok → (x.foldl lowStep p).2.ok := by
    intro x
    induction x with
    | nil => intro p h; exact h
    | cons c r ih => intro p h; exact ih _ (Bx.take_ok h 3)
  exact key x _ h
theorem lowAll_succ {x : List Nat} {b : Bx} {k c : Nat} (h : x[k]? = some c) : lowAll (x.take (k + 1)) b = lowStep (lowAll (x.take k) b) c := by
  unfold lowAll
  rw [List.take_add_one, h, Option.toList, List.foldl_append]; rfl
theorem lowAll_len (x : List Nat) (b : Bx) : (lowAll x b).1.length = x.length := by
  have key : ∀ (x : List Nat) (p : List (List Nat) × Bx), (x.foldl lowStep p).1.length = p.1.length + x.length := by
    intro x
    induction x with
    | nil => intro p; rfl
    | cons c r ih => intro p; rw [List.foldl_cons, ih]; simp [lowStep]; (first | lia | omega)
  have := key x ([], b)
  rw [show (([] : List (List Nat)), b).1.length = 0 from rfl, Nat.zero_add] at this
  exact this
noncomputable def isPl (x : List Nat) : Bool := (x == cs (Txt.strip ⟨x.toArray⟩)) && (!decide (44 ∈ x) && !decide (58 ∈ x))
noncomputable def typedStr (x : List Nat) (b : Bx) : List Nat × Bx :=
  if x = cs "PRINT" then
    if (b.take 3).1 = 0 then (cs "?", (b.take 3).2) else ((lowAll x (b.take 3).2).1.flatten, (lowAll x (b.take 3).2).2)
  else if x = cs "REM" then
    if (b.take 2).1 = 0 then (cs "'", (b.take 2).2) else ((lowAll x (b.take 2).2).1.flatten, (lowAll x (b.take 2).2).2)
  else ((lowAll x b).1.flatten, (lowAll x b).2)
noncomputable def typed (b : Bx) (t : TK) (isData : Bool) : List Nat × Bx := match t with
  | .num n => ([[], cs "0"].getD (b.take 2).1 [] ++ dec n, (b.take 2).2)
  | .text x => (34 :: (x ++ [34]), b)
  | .raw x => if isData = false then (x, b) else if isPl x = true then
      (if (b.take 2).1 = 0 then (x, (b.take 2).2) else (34 :: (x ++ [34]), (b.take 2).2)) else (34 :: (x ++ [34]), b)
  | .word x => typedStr x b | .name x => typedStr x b | .sign x => typedStr x b
/-- does a blank stand between (before any draw)? none: nothing stands ahead -/
noncomputable def sure (p : Option TK) (t : TK) : Bool := match p with
  | none => false
  | some q => !((q.kind == cs "sign" || t.kind == cs "sign") && q.kind != t.kind) && q.kind != cs "text" && t.kind != cs "text"
structure TS where
  found : List Nat
  isData : Bool
  ahead : Option TK
  b : Bx
noncomputable def TS.step (s : TS) (t : TK) : TS :=
  let p : Bool × Bx := if sure s.ahead t = true then (true, s.b) else (decide ((s.b.take 3).1 = 0), (s.b.take 3).2)
  let d := s.isData || decide (t = .word (cs "DATA"))
  let r := typed p.2 t d
  ⟨(if p.1 = true then s.found ++ [32] else s.found) ++ r.1, d, some t, r.2⟩
noncomputable def textOfTyped (ts : List TK) (b : Bx) : TS := ts.foldl TS.step ⟨List.replicate (b.take 2).1 32, false, none, (b.take 2).2⟩
noncomputable def TS.done (s : TS) : List Nat := s.found ++ (match s.ahead with | some (.raw _) => [] | _ => [32])
theorem o_item_Lj {prog : Program} {w : World} {C : Ctx} {μ : St} {Q : V → St → Prop} {X : Str → St → Prop} {value slice : Expr} {u : V} {l : List V} {k : Int} {d : V} (j : Nat) (hu : Lx μ u l) (hk : k = j) (hj : j < 2 ^ 62) (hd : l[j]? = some d) (h : Q d μ) (hs : ∀ o i, subscripted slice false o i = operate [o, i] (getItem o i)) :
    Op2 prog w C RV (subscriptTail value slice) X Q u (.int k) μ := by
  subst hk; exact o_item_L hu hj hd h hs
theorem o_fdiv16 {prog : Program} {w : World} {C : Ctx} {μ : St} {Q : V → St → Prop} {X : Str → St → Prop} {a : Nat} (ha : a < 2000000) (h : Q (.int ((a / 16 : Nat) : Int)) μ) : Op2 prog w C RV (binaryOp .FloorDiv) X Q (.int a) (.int 16) μ := by
  refine o_fdiv_ii (by decide) ?_ ?_
  · exact PyProof.noPylong_small (by decide)
  · rw [Int.fdiv_eq_ediv_of_nonneg _ (by (first | lia | omega))]; exact h
theorem Op3.weak {prog : Program} {w : World} {C : Ctx} {μ : St} {f : Value → Value → Value → Sem Unit} {a b c : V} {Q : Unit → St → Prop} {X : Str → St → Prop} (h : Op3 prog w C REq f X Q a b c μ) : Op3 prog w C (fun (_ : Heap) (_ : List Addr) (_ : Unit) (_ : Unit) => True) f X Q a b c μ :=
  fun A s ρ u v z cx rl r1 r2 r3 P PE p pe => h A s ρ u v z cx rl r1 r2 r3 P PE (fun a b μ' ρ' h' tk r q l e => p a b μ' ρ' h' tk trivial q l e) pe
theorem str_get {L : List (List Nat)} {k : Nat} (h : k < L.length) : (L.map V.str)[k]? = some (.str (L.getD k [])) := by
  rw [List.getElem?_map, List.getD_eq_getElem?_getD, List.getElem?_eq_getElem h]; rfl
theorem int_get {L : List Nat} {k : Nat} (h : k < L.length) : (rowV L)[k]? = some (.int (L.getD k 0 : Nat)) := rowV_get h
noncomputable def LN1 : List (Str × Int) := [(Str.ofString "END", 0), (Str.ofString "FOR", 1), (Str.ofString "NEXT", 2), (Str.ofString "DATA", 3), (Str.ofString "INPUT", 4), (Str.ofString "DIM", 5), (Str.ofString "READ", 6), (Str.ofString "LET", 7), (Str.ofString "GOTO", 8), (Str.ofString "RESTORE", 11), (Str.ofString "GOSUB", 12), (Str.ofString "RETURN", 13), (Str.ofString "REM", 14), (Str.ofString "STOP", 15), (Str.ofString "ON", 16), (Str.ofString "PRINT", 17), (Str.ofString "TO", 23)]
noncomputable def LN2 : List (Str × Int) := [(Str.ofString "THEN", 24), (Str.ofString "STEP", 26), (Str.ofString "AND", 27), (Str.ofString "OR", 28), (Str.ofString "NOT", 29), (Str.ofString "MOD", 30), (Str.ofString "STR$", 35), (Str.ofString "LEFT$", 39), (Str.ofString "MID$", 41), (Str.ofString "RND", 42), (Str.ofString "INSTR", 43)]
noncomputable def LNB : List (Str × Int) := LN1 ++ LN2
theorem ev_subN {np cp : Pos} {slice : Expr} {prog : Program} {w : World} {C : Ctx} {env : Env} {loc : Loc} {μ : St} {Q : V → St → Prop} {X : Str → St → Prop} {pos}
    (h : Ev prog w C (RDs prog w) env X (eval (.Call (.Name "_law_numbers" np) [] [] cp) env) loc (fun ds μ₁ => Ev prog w C RV env X (eval slice env) loc (fun i μ₂ => ∃ x d, i = .str x ∧ ds.lookup x = some d ∧ Q d μ₂) μ₁) μ)
    (hs : ∀ o i, subscripted slice false o i = operate [o, i] (getItem o i)) :
    Ev prog w C RV env X (eval (.Subscript (.Call (.Name "_law_numbers" np) [] [] cp) slice pos) env) loc Q μ := ev_subd h hs
noncomputable def LWN : List (List Nat) := LNB.map fun p => cs p.1
theorem lnb_look {x : List Nat} (h : x ∈ LWN) : (LNB.map fun p => (cs p.1, V.int p.2)).lookup x = some (.int (idx WRD x : Nat)) := by
  have key : ∀ (l : List (Str × Int)) (x : List Nat), (l.map fun p => (cs p.1, V.int p.2)).lookup x = ((l.map fun p => (cs p.1, p.2)).lookup x).map V.int := by
    intro l x
    induction l with
    | nil => rfl
    | cons p r ih =>
      simp only [List.map_cons, List.lookup_cons]
      cases x == cs p.1
      · exact ih
      · rfl
  rw [key, (by decide : ∀ x ∈ LWN, (LNB.map fun p => (cs p.1, p.2)).lookup x = some ((idx WRD x : Nat) : Int)) x h]
  rfl
noncomputable def TK.good2 (t : TK) : Prop := t.good ∧ (∀ x, t = .word x → x ∈ LWN)
theorem LWN_WRD : ∀ x ∈ LWN, x ∈ WRD := by decide
noncomputable def KND : List (List Nat) := [cs "name", cs "text", cs "raw"]
theorem fdiv256' (n : Nat) : (n : Int).fdiv 256 = ((n / 256 : Nat) : Int) := by
  rw [Int.fdiv_eq_ediv_of_nonneg _ (by (first | lia | omega))]; simp
end Mine
end

section
set_option maxHeartbeats 1000000
open PySem PySem.W PyProof.Rows PySem.Spec PySem.Calls PySem.SeqAt
set_option Elab.async false
set_option linter.unusedVariables false
set_option linter.unusedSimpArgs false
set_option maxRecDepth 100000
namespace Mine
noncomputable def lowc (c : Nat) : Nat := if 65 ≤ c ∧ c ≤ 90 then c + 32 else c
theorem low_eq : ∀ c < 128, low c = [lowc c] := by decide +kernel
theorem lowAll_sum {x : List Nat} (h : ∀ c ∈ x, c < 128) (b : Bx) : ((lowAll x b).1.map List.length).sum = x.length := by
  have key : ∀ (x : List Nat) (p : List (List Nat) × Bx), (∀ c ∈ x, c < 128) → ((x.foldl lowStep p).1.map List.length).sum = (p.1.map List.length).sum + x.length := by
    intro x
    induction x with
    | nil => intro p _; rfl
    | cons c r ih =>
      intro p h
      rw [List.foldl_cons, ih _ fun d m => h d (.tail _ m)]
      simp only [lowStep, List.map_append, List.sum_append, List.map_cons, List.map_nil, List.sum_cons, List.sum_nil, List.length_cons]
      have : (if (p.2.take 3).1 = 0 then low c else [c]).length = 1 := by
        split
        · rw [low_eq c (h c (.head _))]; rfl
        · rfl
      (first | lia | omega)
  have := key x ([], b) h
  rw [show ((([] : List (List Nat)), b).1.map List.length).sum = 0 from rfl, Nat.zero_add] at this
  exact this
end Mine
end

section
set_option maxHeartbeats 1000000
open PySem PySem.W PyProof.Rows PySem.Spec PySem.Calls PySem.SeqAt
set_option Elab.async false
set_option linter.unusedVariables false
set_option linter.unusedSimpArgs false
set_option maxRecDepth 100000
namespace Mine
section
variable {prog : Program} {w : World} {C : Ctx} {X : Str → St → Prop} {env : Env} {loc : Loc} {Q : FV → Loc → St → Prop} {μ : St}
theorem ex_asg3s {x y z : Str} {px py pz : Pos} {k} {tpos : Pos} {value : Expr} {pos : Pos}
    (h : Ev prog w C RV env X (eval value env) loc (fun v μ₁ => ∃ a b c, v = .tup [a, b, c] ∧ Q .next (put x a (put y b (put z c loc))) μ₁) μ) (hx : env.kindOf x = some .local) (hy : env.kindOf y = some .local) (hz : env.kindOf z = some .local)
    (hs : swapsWithSole [.Tuple [.Name x px, .Name y py, .Name z pz] k tpos] value pos.line env = pure false) (hw : swappedStores [.Tuple [.Name x px, .Name y py, .Name z pz] k tpos] value env = pure (some [x, y, z])) :
    Ex prog w C env (exec (.Assign [.Tuple [.Name x px, .Name y py, .Name z pz] k tpos] value pos) env) X Q loc μ := by
  intro A s ρ cx rl lc P PE p pe
  with_reducible refine PyProof.Rows.Assign_Tuple_swapped ?_ hs hw
  refine h.go cx rl lc pe.up fun u v μ₁ ρ₁ h₁ tk₁ r₁ q₁ l₁ e₁ => ?_
  refine nn fun nG => ?_
  obtain ⟨a, b, c, rfl, q⟩ := q₁
  obtain ⟨t, us, rfl, ht, hn, rs⟩ := r₁.tupInv
  refine nG ?_
  clear nG
  obtain ⟨u1, u2, u3, rfl, r1, r2, r3⟩ : ∃ u v w, us = [u, v, w] ∧ RV h₁ ρ₁ u a ∧ RV h₁ ρ₁ v b ∧ RV h₁ ρ₁ w c := by
    cases rs with | cons r q => cases q with | cons r' q => cases q with | cons r'' q => cases q; exact ⟨_, _, _, rfl, r, r', r''⟩
  refine unpackItems_tuple (items := #[u1, u2, u3]) (s := ⟨h₁, _, _, _, _⟩) cx.hand ht.tup fun h' eb => ?_
  have kk := keeps_eb eb
  have xx := ext_of (ρ := ρ₁) kk
  have lc' := (lc.mono rl e₁.grow).mono l₁ xx.grow
  show wpAny _ _ (assignInOrder [bindName env z, bindName env y, bindName env x] [u3, u2, u1]) _ _ _
  with_reducible refine PyProof.Rows.assignInOrder_cons (bindName_ ?_)
  refine store_at (s := ⟨h', _, _, _, _⟩) (l₁.keeps kk) lc' hz (r3.mono xx.grow bare_no) fun h₂ tk₂ l₂ lc₂ e₂ => ?_
  with_reducible refine PyProof.Rows.assignInOrder_cons (bindName_ ?_)
  refine store_at (s := ⟨h₂, _, _, _, _⟩) l₂ lc₂ hy ((r2.mono xx.grow bare_no).mono e₂.grow lc'.bare) fun h₃ tk₃ l₃ lc₃ e₃ => ?_
  with_reducible refine PyProof.Rows.assignInOrder_cons (bindName_ ?_)
  refine store_at (s := ⟨h₃, _, _, _, _⟩) l₃ lc₃ hx (((r1.mono xx.grow bare_no).mono e₂.grow lc'.bare).mono e₃.grow lc₂.bare) fun h₄ tk₄ l₄ lc₄ e₄ => ?_
  with_reducible refine PyProof.Rows.assignInOrder_nil ?_
  exact p _ _ _ _ _ h₄ _ .next q l₄ lc₄ ((((e₁.up.trans xx.up).trans e₂).trans e₃).trans e₄)
end
end Mine
end

section
set_option maxHeartbeats 1000000
open PySem PySem.W PyProof.Rows PySem.Spec PySem.Calls PySem.SeqAt
set_option Elab.async false
set_option linter.unusedVariables false
set_option linter.unusedSimpArgs false
set_option maxRecDepth 100000
namespace Mine
/-! ## a dict kept in a local name, read once -/
noncomputable def RDL (prog : Program) (w : World) (L : Addr) (h : Heap) (ρ : List Addr) (u : Value) (ds : List (List Nat × V)) : Prop := ∃ d kvs, u = .ref d ∧ d ∉ ρ ∧ d ≠ L ∧ h.DictOf (strKind prog w) d kvs ∧ KVs cs h ρ kvs ds ∧ (d == sysModules) = false
section
variable {prog : Program} {w : World} {C : Ctx} {X : Str → St → Prop} {env : Env} {loc : Loc} {Q : V → St → Prop} {μ : St}
theorem RDL.mono {L : Addr} {h h' : Heap} {ρ ρ' : List Addr} {S : Addr → Prop} (hS : ∀ a, S a → a = L) (x : Ext S h ρ h' ρ') (b : Bare S h) {u : Value} {ds : List (List Nat × V)} (r : RDL prog w L h ρ u ds) : RDL prog w L h' ρ' u ds := by
  refine nn fun nG => ?_
  obtain ⟨d, kvs, rfl, hn, hL, ⟨o, es, ep, ho, r⟩, k, z⟩ := r
  refine nG ?_
  clear nG
  exact ⟨d, kvs, rfl, x.grow.nin ho hn, hL, ⟨o, es, ep, x.keep d o ho hn (fun q => hL (hS _ q)), r⟩, k.mono x.grow b, z⟩
theorem ev_dictL {keys : List (Option Expr)} {values : List Expr} {pos : Pos} {QD : List (List Nat × V) → St → Prop}
    (hall : keys.all (·.isSome) = true) (hl : keys.length = values.length) (h0 : keys ≠ []) (hlen : keys.length ≤ 15)
    (h : Ev prog w C RPs env X (evalPairs (pairTrees keys values env pos)) loc (fun ds μ₁ => ∃ es, ds = skeys es ∧ (es.map (·.1)).Nodup ∧ es.length ≤ 15 ∧ QD es μ₁) μ) :
    Ev prog w C (RDL prog w env.locals) env X (eval (.Dict keys values pos) env) loc QD μ := by
  intro A s ρ cx rl lc P PE p pe
  refine wpAny_Dict_any hall hl h0 hlen ?_
  have kp := push_keeps (h := s.heap) { cls := .type "dict", data := .dict #[] }
  have x0 := ext_of (ρ := ρ) kp
  have fr : s.heap.get? s.heap.objs.size = none := fresh_none
  have hneL : s.heap.objs.size ≠ env.locals := fun q => by
    refine nn fun nG => ?_
    obtain ⟨m, o, es, ep, ho, _⟩ := lc.ns
    refine nG ?_
    clear nG
    rw [← q, fr] at ho; cases ho
  have hd0 := Heap.DictOf.new (knd := PySem.strKind prog w) s.heap
  have nd := rl.nins fr
  refine h.go (s := ⟨_, _, _, _, _⟩) cx (rl.keeps kp) (lc.mono rl x0.grow) (pe.then x0) fun us ds μ₁ ρ₁ h₁ tk₁ r₁ q₁ l₁ e₁ => ?_
  refine nn fun nG => ?_
  obtain ⟨es, rfl, hnd, hle, q⟩ := q₁
  refine nG ?_
  clear nG
  have hc := carries_strPairs prog w _ (RPs.str r₁).1
  have hk := (RPs.str r₁).2
  generalize strPairs us = kvs at hc hk
  obtain ⟨hd1, nd1⟩ := e₁.dict hd0 nd
  have hlk : kvs.length ≤ 15 := by
    have := congrArg List.length hk.keys
    simp only [List.length_map] at this
    (first | lia | omega)
  refine wpAny_storeAll (knd := PySem.strKind prog w) us kvs [] ⟨h₁, _, _, _, _⟩ _ hc hd1 (by rw [sizeLine_eq, List.length_nil]; (first | lia | omega)) fun h' hm sb => ?_
  have hnk : (kvs.map (·.1)).Nodup := by
    have e := hk.keys
    rw [e] at hnd
    have : kvs.map (fun p => cs p.1) = (kvs.map (·.1)).map (fun x => cs x) := by simp
    rw [this] at hnd
    exact (List.pairwise_map.mp hnd).imp fun h e => h (congrArg _ e)
  rw [merged_nil_of_nodup _ hnk] at hm
  have kp2 : Kp (· = s.heap.objs.size) h₁ h' := sb_kp sb
  have bW : Bare (· = s.heap.objs.size) h₁ := by
    rintro a o rfl ho xs n hdat
    refine nn fun nG => ?_
    obtain ⟨o', es', ep, ho', _, hd', _⟩ := hd1
    refine nG ?_
    clear nG
    rw [ho] at ho'; cases ho'; rw [hdat] at hd'; cases hd'
  have l2 : Rl C h' ρ₁ μ₁ := l₁.kp kp2 bW (by rintro _ rfl; exact fresh_h₀ rl fr) (fun env' m' L hL q => by
    refine nn fun nG => ?_
    obtain ⟨_, L', mm, q1, _, o, _, _, ho, _⟩ := rl.frm env' m'
    refine nG ?_
    clear nG
    rw [hL] at q1; cases q1
    rw [q, fr] at ho; cases ho)
  have e2 : Ext (· = s.heap.objs.size) h₁ ρ₁ h' ρ₁ := kp2.ext (by rintro _ rfl; obtain ⟨o, es', ep, ho, _⟩ := hm; rw [ho]; simp)
  have e3 : Ext no s.heap ρ h' ρ₁ := (((x0.trans e₁).weak fun _ q => q.elim).trans (e2.weak fun _ q => .inl q)).drop (W := (· = s.heap.objs.size)) (S := no) (by rintro _ rfl; exact fr)
  exact p (.ref s.heap.objs.size) es μ₁ ρ₁ h' _ ⟨_, _, rfl, nd1, hneL, hm, hk.mono (S := fun a => a = s.heap.objs.size) e2.grow bW, sys_ne cx rl (Nat.le_refl _)⟩ q l2 e3
/-- a local name stored that no one asks about -/
theorem store_raw {A : Around} {s : Shared} {ρ : List Addr} {E : Value → Shared → Prop} {x : Str} {u : Value} {PU : Unit → Shared → Prop} (rl : Rl C s.heap ρ μ) (lc : Lc C env s.heap ρ loc) (hk : env.kindOf x = some .local) (hx : ∀ p ∈ loc, p.1 ≠ x)
    (h : ∀ h' tk m, Rl C h' ρ μ → Lc C env h' ρ loc → h'.Ns env.locals m → m x = some u → Ext (fun a => a = env.locals) s.heap ρ h' ρ → Bare (fun a => a = env.locals) s.heap → PU () { s with heap := h', toks := tk }) : wpAny (model prog w) A (storeName env x u) PU E s := by
  obtain ⟨m, n⟩ := lc.ns
  have hp : (env.scope.kind == .class || (env.scope.kind == .module && env.locals != env.globals)) = false := by rw [lc.kind]; rfl
  refine wpAny_storeName_local hk n (fun h' n' sb => ?_) hp
  have nL : env.locals ∉ ρ := lc.nin rl _ (.inl rfl)
  have ex : Ext (fun a => a = env.locals) s.heap ρ h' ρ := by
    refine ⟨⟨[], by simp⟩, fun _ m => .inl m, fun b e => ?_, fun b o e _ q => (sb.2 b fun z => q z).trans e⟩
    by_cases q : b = env.locals
    · rw [q]; obtain ⟨o, _, _, ho, _⟩ := n'; rw [ho]; simp
    · rw [sb.2 b q]; exact e
  have bl : Bare (fun a => a = env.locals) s.heap := fun a o q => lc.bare a o (.inl q)
  have nd : ∀ b o, s.heap.get? b = some o → (∃ xs k, o.data = .seq xs k) → b ≠ env.locals := fun b o e q z => by
    refine nn fun nG => ?_
    obtain ⟨o', _, _, ho, hd, _⟩ := n
    refine nG ?_
    clear nG
    rw [z, ho] at e; cases e; obtain ⟨xs, k, q⟩ := q; rw [hd] at q; cases q
  refine h h' _ _ ⟨fun b o e => ?_, fun env' m' => ?_, rl.nd, rl.len, fun i a l e1 e2 => ?_, rl.new⟩ ⟨lc.kind, lc.glob, lc.bult, ⟨_, n'⟩, lc.hn, fun c hc => ?_, lc.nd, fun p hp => ?_⟩ n' (by simp) ex bl
  · have e' := rl.stay b o e
    by_cases q : b = env.locals
    · rw [q, lc.hn] at e; cases e
    · exact (sb.2 b q).trans e'
  · refine nn fun nG => ?_
    obtain ⟨h1, L, mm, h2, h3, h4⟩ := rl.frm env' m'
    refine nG ?_
    clear nG
    by_cases q : L = env.locals
    · exact ⟨h1, L, _, h2, h3, q ▸ n'⟩
    · exact ⟨h1, L, mm, h2, h3, h4.sameBut sb q⟩
  · refine nn fun nG => ?_
    obtain ⟨vs, ⟨k, ho⟩, rs⟩ := rl.lst i a l e1 e2
    refine nG ?_
    clear nG
    exact ⟨vs, ⟨k, (sb.2 a (nd a _ ho ⟨_, _, rfl⟩)).trans ho⟩, rs.mono ex.grow bl⟩
  · refine nn fun nG => ?_
    obtain ⟨v', o, ho, hd⟩ := lc.cel c hc
    refine nG ?_
    clear nG
    refine ⟨v', o, (sb.2 c.2 fun z => ?_).trans ho, hd⟩
    refine nn fun nG => ?_
    obtain ⟨o', _, _, ho', hd', _⟩ := n
    refine nG ?_
    clear nG
    rw [z, ho'] at ho; cases ho; rw [hd'] at hd; cases hd
  · refine nn fun nG => ?_
    obtain ⟨v', hv', r'⟩ := lc.held p hp
    refine nG ?_
    clear nG
    refine ⟨v', ?_, r'.mono ex.grow bl⟩
    rcases hv' with ⟨k, m', n'', e⟩ | ⟨k, c, hc, o, ho, hd⟩
    · refine .inl ⟨k, _, n', ?_⟩
      show (if p.1 = x then some u else m p.1) = some v'
      rw [if_neg (hx p hp)]
      refine nn fun nG => ?_
      obtain ⟨o1, es1, ep1, g1, g2, _, g4⟩ := n
      obtain ⟨o2, es2, ep2, k1, k2, _, k4⟩ := n''
      refine nG ?_
      clear nG
      rw [g1] at k1; cases k1; rw [g2] at k2; cases k2
      rw [← g4, k4, e]
    · refine .inr ⟨k, c, hc, o, (sb.2 c fun z => ?_).trans ho, hd⟩
      refine nn fun nG => ?_
      obtain ⟨o', _, _, ho', hd', _⟩ := n
      refine nG ?_
      clear nG
      rw [z, ho'] at ho; cases ho; rw [hd'] at hd; cases hd
/-- due = {..}; return left == due[y] -/
theorem ex_due {Q : FV → Loc → St → Prop} {x y : Str} {px p1 p2 p3 p4 dp px2 py : Pos} {keys : List (Option Expr)} {values : List Expr} {lhs : Expr}
    (hall : keys.all (·.isSome) = true) (hl : keys.length = values.length) (h0 : keys ≠ []) (hlen : keys.length ≤ 15)
    (hk : env.kindOf x = some .local) (hx : ∀ p ∈ loc, p.1 ≠ x) (hxd : (x == ("__debug__" : Str)) = false)
    (hs : swapsWith (.Dict keys values dp) (some (.Name x px)) p1.line env = pure false)
    (h : Ev prog w C RPs env X (evalPairs (pairTrees keys values env dp)) loc (fun ps μ₁ => ∃ ds, ps = skeys ds ∧ (ds.map (·.1)).Nodup ∧ ds.length ≤ 15 ∧
      Ev prog w C RV env X (eval lhs env) loc (fun a μ₂ => Ev prog w C RV env X (eval (.Name y py) env) loc (fun i μ₃ => ∃ k d, i = .str k ∧ ds.lookup k = some d ∧ Op2 prog w C RV (compareOp .Eq) X (fun v μ₄ => Q (.ret v) loc μ₄) a d μ₃) μ₂) μ₁) μ) :
    Ex prog w C env (execs [.Assign [.Name x px] (.Dict keys values dp) p1, .Return (some (.Compare lhs [.Eq] [.Subscript (.Name x px2) (.Name y py) p2] p3)) p4] env) X Q loc μ := by
  intro A s ρ cx rl lc P PE p pe
  refine wpAny_execs_cons ?_
  with_reducible refine wpAny_Assign_Name ?_ hs
  refine (ev_dictL hall hl h0 hlen h).go cx rl lc pe.up fun u ds μ₁ ρ₁ h₁ tk₁ r₁ q₁ l₁ e₁ => ?_
  have lc₁ := lc.mono rl e₁.grow
  refine store_raw (s := ⟨h₁, _, _, _, _⟩) l₁ lc₁ hk hx fun h₂ tk₂ m l₂ lc₂ ns₂ hm e₂ bl => ?_
  have r₂ := r₁.mono (fun _ q => q) e₂ bl
  have e02 : Ext (SE env) s.heap ρ h₂ ρ₁ := e₁.up.trans (e₂.weak fun _ q => .inl q)
  refine wpAny_execs_cons (wpAny_Return_some ?_)
  have pe2 : ErP C no { s with heap := h₂, toks := tk₂ } ρ₁ X PE := (pe.then (tk₁ := tk₂) e02).up
  refine wpAny_Compare1 (q₁.go (s := ⟨h₂, _, _, _, _⟩) cx l₂ lc₂ pe2 fun ua a μ₃ ρ₃ h₃ tk₃ r₃ q₃ l₃ e₃ => ?_) rfl
  have lc₃ := lc₂.mono l₂ e₃.grow
  have n₃ := e₃.grow.ns ns₂ (fun q => q) (lc₂.nin l₂ _ (.inl rfl))
  refine Subscript_ (wpAny_Name (wpAny_loadName_local lc.kind hk n₃ hm ?_) hxd)
  refine q₃.go (s := ⟨h₃, _, _, _, _⟩) cx l₃ lc₃ (pe2.then e₃) fun ui i μ₄ ρ₄ h₄ tk₄ r₄ q₄ l₄ e₄ => ?_
  refine nn fun nG => ?_
  obtain ⟨k, d, rfl, hlk, q⟩ := q₄
  obtain ⟨yy, t, rfl, rfl⟩ := r₄.strInv
  have r5 := (r₂.mono (fun _ q => q.elim) e₃ bare_no).mono (fun _ q => q.elim) e₄ bare_no
  obtain ⟨dd, kvs, rfl, hn, hL, hd, hkv, hz⟩ := r5
  obtain ⟨v', hv, rv⟩ := hkv.find (fun a b e => cs_inj e) hlk
  refine nG ?_
  clear nG
  refine tail_any (s := ⟨h₄, _, _, _, _⟩) (hd.mapOf.typeIs) slot_dict_getitem.lookup (wpAny_getItem_of (strKind_is prog w yy t) hd.mapOf hv ?_) rfl
  refine q A _ ρ₄ ua v' cx l₄ (r₃.mono e₄.grow bare_no) rv _ _ (fun uv v μ₅ ρ₅ h₅ tk₅ r₅ q₅ l₅ e₅ => ?_) ((pe2.then e₃).then e₄)
  exact p _ _ _ _ _ h₅ tk₅ (.ret r₅) q₅ l₅ ((lc₃.mono l₃ e₄.grow).mono l₄ e₅.grow) (((e02.trans e₃.up).trans e₄.up).trans e₅.up)
end
end Mine
end

section
set_option maxHeartbeats 1000000
open PySem PySem.W PyProof.Rows PySem.Spec PySem.Calls PySem.SeqAt
set_option Elab.async false
set_option linter.unusedVariables false
set_option linter.unusedSimpArgs false
set_option maxRecDepth 100000
namespace Mine
section
variable {prog : Program} {w : World} {C : Ctx} {X : Str → St → Prop} {env : Env} {loc : Loc} {Q : V → St → Prop} {μ : St}
/-- the head of a list that no name holds -/
theorem ev_lslice0T {value : Expr} {hi : Expr} {p pos}
    (h : Ev prog w C RV env X (eval value env) loc (fun v μ₁ => Ev prog w C RV env X (eval hi env) loc (fun j μ₃ => ∃ l, ∃ b : Nat, Lists μ₃ v l ∧ j = .int b ∧ l.length ≤ 1000000 ∧ Q (.fro (l.take b)) μ₃) μ₁) μ)
    (hs : ∀ o i, subscripted (.Slice none (some hi) none p) false o i = operate [i, o] (getItem o i)) :
    Ev prog w C RV env X (eval (.Subscript value (.Slice none (some hi) none p) pos) env) loc Q μ := by
  intro A s ρ cx rl lc P PE pp pe
  refine Subscript_ (h.go cx rl lc pe fun v dv μ₁ ρ₁ h₁ tk₁ r₁ q₁ l₁ e₁ => ?_)
  refine wpAny_Slice ?_
  rw [evalPart_none]
  refine wpAny_pure ?_
  rw [evalPart_some]
  refine q₁.go cx l₁ (lc.mono rl e₁.grow) (pe.then e₁) fun j dj μ₃ ρ₃ h₃ tk₃ r₃ q₃ l₃ e₃ => ?_
  refine nn fun nG => ?_
  obtain ⟨l, b, hL, rfl, hz, q⟩ := q₃
  obtain ⟨ad, vs, rfl, il, rs⟩ := hL.at l₃ (r₁.mono e₃.grow bare_no)
  obtain ⟨tb, rfl⟩ := r₃.intInv
  refine nG ?_
  clear nG
  refine wpAny_pure ?_
  have il' : h₃.IsList ad vs.toArray := il
  refine tail_any (il'.push _).typeIs slot_list_getitem.lookup (wpAny_getItem_list_slice (lo := none) (hi := some (b : Int)) (il'.push _) (Heap.IsSliceOf.new ..) .none (.int _ _) .none (by simp) ?_ (by rw [List.size_toArray, rs.length, sizeLine_eq]; (first | lia | omega))) (hs _ _)
  rw [Heap.size_push, pick_0n]
  have kk := push2_keeps (h := h₃) { cls := .type "slice", data := .fields #[.none, .int b tb, .none] } { cls := .type "list", data := .seq (vs.take b).toArray }
  have xx := ext_of (ρ := ρ₃) kk
  refine ((pp.then e₁).then (tk₁ := tk₃) e₃) (.ref (h₃.objs.size + 1)) (.fro (l.take b)) μ₃ ρ₃ _ tk₃ ?_ q (l₃.keeps kk) xx
  exact .fro ⟨_, Heap.get?_push_at (by simp only [Heap.size_push]) rfl⟩ (l₃.nins (Heap.get?_none_of_le (Nat.le_succ _))) ((rs.take b).mono xx.grow bare_no)
end
end Mine
end

section
set_option maxHeartbeats 1000000
open PySem PySem.W PyProof.Rows PySem.Spec PySem.Calls PySem.SeqAt
set_option Elab.async false
set_option linter.unusedVariables false
set_option linter.unusedSimpArgs false
set_option maxRecDepth 100000
namespace Mine
/-! ## a row read from its middle -/
theorem nth_sh (p t : List Nat) (i : Nat) : nth (p ++ t) (p.length + i) = nth t i := by
  unfold nth; rw [List.getD_eq_getElem?_getD, List.getD_eq_getElem?_getD, List.getElem?_append_right (by (first | lia | omega)), Nat.add_sub_cancel_left]
theorem slc_sh (p t : List Nat) (a b : Nat) : slc (p ++ t) (p.length + a) (p.length + b) = slc t a b := by
  unfold slc
  rw [List.take_append, List.drop_append, List.take_of_length_le (by (first | lia | omega)), List.drop_of_length_le (by (first | lia | omega)), List.nil_append, Nat.add_sub_cancel_left, Nat.add_sub_cancel_left]
theorem drop_sh (p t : List Nat) (a : Nat) : (p ++ t).drop (p.length + a) = t.drop a := by
  rw [List.drop_append, List.drop_of_length_le (by (first | lia | omega)), List.nil_append, Nat.add_sub_cancel_left]
noncomputable def sh {α : Type} (k : Nat) : Re (α × Nat) → Re (α × Nat)
  | .error e => .error e
  | .ok r => .ok (r.1, k + r.2)
/-! ## the octets give the tokens back -/
theorem expandOne_sh (p r : List Nat) (a : Nat) : expandOne (p ++ r) (p.length + a) = sh p.length (expandOne r a) := by
  unfold expandOne
  rw [nth_sh, show p.length + a + 1 = p.length + (a + 1) by (first | lia | omega), show p.length + a + 2 = p.length + (a + 2) by (first | lia | omega), nth_sh, nth_sh, List.length_append,
    Nat.add_assoc p.length (a + 2), slc_sh]
  have e1 : (p.length + (a + 2) < p.length + r.length) = (a + 2 < r.length) := by apply propext; (first | lia | omega)
  have e2 : (p.length + r.length ≤ p.length + (a + 1)) = (r.length ≤ a + 1) := by apply propext; (first | lia | omega)
  have e3 : (p.length + r.length < p.length + (a + 2 + nth r (a + 1))) = (r.length < a + 2 + nth r (a + 1)) := by apply propext; (first | lia | omega)
  simp only [e1, e2, e3]
  repeat' split
  all_goals simp [sh]
  all_goals (first | lia | omega)
theorem iteN {α : Type} {c : Prop} [Decidable c] {a b r : α} (hc : ¬c) (h : b = r) : (if c then a else b) = r := (if_neg hc).trans h
theorem iteP {α : Type} {c : Prop} [Decidable c] {a b r : α} (hc : c) (h : a = r) : (if c then a else b) = r := (if_pos hc).trans h
theorem exO_tx {r : List Nat} {k : Nat} {T : List Nat → TK} (h2 : nth r 0 = 2 ∨ nth r 0 = 3 ∨ nth r 0 = 4) (e1 : nth r 1 = k) (hl : k + 2 ≤ r.length)
    (hT : (if nth r 0 = 2 then TK.name else if nth r 0 = 3 then TK.text else TK.raw) = T) : expandOne r 0 = .ok (T (slc r 2 (2 + k)), 2 + k) := by
  subst e1; subst hT
  unfold expandOne
  refine iteN (by (first | lia | omega)) (iteN (by (first | lia | omega)) (iteN (by (first | lia | omega)) (iteN (by (first | lia | omega)) (iteN ?_ rfl))))
  show ¬(r.length ≤ 1 ∨ r.length < 2 + nth r 1)
  (first | lia | omega)
theorem enc_one {t : TK} (h : t.good) (r : List Nat) : expandOne (enc t ++ r) 0 = .ok (t, (enc t).length) := by
  have hs : ∀ m k (x r : List Nat), slc (m :: k :: (x ++ r)) 2 (2 + x.length) = x := fun m k x r => by
    unfold slc; rw [Nat.add_comm 2]; simp
  have hl : ∀ m k (x r : List Nat), x.length + 2 ≤ (m :: k :: (x ++ r)).length := fun m k x r => by simp
  cases t with
  | num n =>
    refine iteN (show ¬ 128 ≤ 1 by decide) (iteN (show ¬ 32 ≤ 1 by decide) (iteP ⟨rfl, ?_⟩ ?_))
    · show 2 < r.length + 3
      (first | lia | omega)
    · show Except.ok (TK.num (n % 256 + 256 * (n / 256)), 3) = _
      rw [Nat.mod_add_div n 256]; rfl
  | word x =>
    obtain ⟨h1, _, h3⟩ := idx_at (show x ∈ WRD from h)
    have h4 : WRD.length = 44 := by decide
    refine iteP (show 128 ≤ 128 + idx WRD x by (first | lia | omega)) (iteN (show ¬ 44 ≤ 128 + idx WRD x - 128 by (first | lia | omega)) ?_)
    show Except.ok (TK.word (WRD[128 + idx WRD x - 128]?.getD []), 1) = _
    rw [Nat.add_sub_cancel_left, h1]; rfl
  | sign x =>
    obtain ⟨h1, _, h3⟩ := idx_at (show x ∈ SGN from h)
    have h4 : SGN.length = 17 := by decide
    refine iteN (show ¬ 128 ≤ 32 + idx SGN x by (first | lia | omega)) (iteP (show 32 ≤ 32 + idx SGN x by (first | lia | omega)) (iteN (show ¬ 17 ≤ 32 + idx SGN x - 32 by (first | lia | omega)) ?_))
    show Except.ok (TK.sign (SGN[32 + idx SGN x - 32]?.getD []), 1) = _
    rw [Nat.add_sub_cancel_left, h1]; rfl
  | name x => exact (exO_tx (T := .name) (k := x.length) (r := 2 :: x.length :: (x ++ r)) (.inl rfl) rfl (hl _ _ _ _) rfl).trans (by rw [hs, Nat.add_comm 2]; rfl)
  | text x => exact (exO_tx (T := .text) (k := x.length) (r := 3 :: x.length :: (x ++ r)) (.inr (.inl rfl)) rfl (hl _ _ _ _) rfl).trans (by rw [hs, Nat.add_comm 2]; rfl)
  | raw x => exact (exO_tx (T := .raw) (k := x.length) (r := 4 :: x.length :: (x ++ r)) (.inr (.inr rfl)) rfl (hl _ _ _ _) rfl).trans (by rw [hs, Nat.add_comm 2]; rfl)
theorem enc_pos (t : TK) : 0 < (enc t).length := by cases t <;> simp [enc]
theorem expandGo_sh (p : List Nat) : ∀ n (r : List Nat) acc a, expandGo (p ++ r) n acc (p.length + a) = expandGo r n acc a
  | 0, _, _, _ => rfl
  | n + 1, r, acc, a => by
    unfold expandGo
    rw [expandOne_sh, List.length_append]
    by_cases h : a < r.length
    · rw [if_pos h, if_pos (by (first | lia | omega))]
      cases expandOne r a with
      | error e => rfl
      | ok q => exact expandGo_sh p n r _ _
    · rw [if_neg h, if_neg (by (first | lia | omega))]
theorem expandGo_octs : ∀ (ts : List TK) (r : List Nat) (acc : List TK) n, (∀ t ∈ ts, t.good) → (octs ts ++ r).length ≤ n →
    ∃ n', r.length ≤ n' ∧ expandGo (octs ts ++ r) n acc 0 = expandGo r n' (acc ++ ts) 0
  | [], r, acc, n, _, h => ⟨n, h, by rw [List.append_nil]; rfl⟩
  | t :: ts, r, acc, n, hg, h => by
    have e : octs (t :: ts) ++ r = enc t ++ (octs ts ++ r) := by simp [octs]
    have hp := enc_pos t
    rw [e] at h ⊢
    rw [List.length_append] at h
    cases n with
    | zero => (first | lia | omega)
    | succ n =>
      refine nn fun nG => ?_
      obtain ⟨n', h1, h2⟩ := expandGo_octs ts r (acc ++ [t]) n (fun x m => hg x (.tail _ m)) (by (first | lia | omega))
      refine nG ?_
      clear nG
      refine ⟨n', h1, ?_⟩
      conv => lhs; unfold expandGo
      rw [if_pos (by rw [List.length_append]; (first | lia | omega)), enc_one (hg t (.head _))]
      show expandGo _ n _ (enc t).length = _
      have := expandGo_sh (enc t) n (octs ts ++ r) (acc ++ [t]) 0
      rw [Nat.add_zero] at this
      rw [this, h2, List.append_assoc]; rfl
theorem expandGo_nil (n : Nat) (acc : List TK) : expandGo [] n acc 0 = .ok acc := by
  cases n <;> rfl
theorem expand_octs {ts : List TK} (h : ∀ t ∈ ts, t.good) : expandAll (octs ts) = .ok ts := by
  unfold expandAll
  refine nn fun nG => ?_
  obtain ⟨n', _, e⟩ := expandGo_octs ts [] [] (octs ts).length h (by simp)
  refine nG ?_
  clear nG
  rw [List.append_nil] at e
  rw [e, expandGo_nil]; rfl
theorem expandOne_bent (k m : Nat) (hk : k < 7) (hm : m < 4) : ∃ r, [([1, 9] : List Nat).take (1 + m % 2), [2, 3, 65], [4], [9], [60], [200], [172 + m]][k]? = some r ∧ 0 < r.length ∧ expandOne r 0 = .error "SN" := by
  have : ∀ k < 7, ∀ m < 4, (match [([1, 9] : List Nat).take (1 + m % 2), [2, 3, 65], [4], [9], [60], [200], [172 + m]][k]? with | some r => decide (0 < r.length) && (match expandOne r 0 with | .error e => e == "SN" | _ => false) | none => false) = true := by decide +kernel
  have := this k hk m hm
  split at this
  · rename_i r hr
    refine ⟨r, hr, ?_⟩
    rw [Bool.and_eq_true] at this
    refine ⟨of_decide_eq_true this.1, ?_⟩
    have := this.2
    split at this
    · rename_i e he; rw [he, eq_of_beq this]
    · cases this
  · cases this
theorem expand_bent {ts : List TK} {r : List Nat} (h : ∀ t ∈ ts, t.good) (h0 : 0 < r.length) (hr : expandOne r 0 = .error "SN") : expandAll (octs ts ++ r) = .error "SN" := by
  unfold expandAll
  refine nn fun nG => ?_
  obtain ⟨n', h1, e⟩ := expandGo_octs ts r [] _ h (Nat.le_refl _)
  refine nG ?_
  clear nG
  rw [e]
  cases n' with
  | zero => (first | lia | omega)
  | succ n => unfold expandGo; rw [if_pos h0, hr]
end Mine
end

section
set_option maxHeartbeats 1000000
open PySem PySem.W PyProof.Rows PySem.Spec PySem.Calls PySem.SeqAt
set_option Elab.async false
set_option linter.unusedVariables false
set_option linter.unusedSimpArgs false
set_option maxRecDepth 100000
namespace Mine
/-! ## a text read from its middle -/
theorem upTo_sh (k : Nat) (P : Nat → Bool) : ∀ n a, upTo P (k + a) n = k + upTo (fun i => P (k + i)) a n
  | 0, a => rfl
  | n + 1, a => by
    unfold upTo
    split
    · exact upTo_sh k P n (a + 1)
    · rfl
theorem adv_sh (p t : List Nat) (P : Nat → Bool) (a : Nat) : adv (p ++ t) P (p.length + a) = p.length + adv t (fun i => P (p.length + i)) a := by
  unfold adv
  rw [List.length_append, show p.length + t.length - (p.length + a) = t.length - a by (first | lia | omega), upTo_sh]
theorem bb_sh (p t : List Nat) (a : Nat) : bb (p ++ t) (p.length + a) = p.length + bb t a := by
  unfold bb; rw [adv_sh]; simp only [nth_sh]
theorem ixOf_sh (c : Nat) (p t : List Nat) (k : Nat) : ixOf c (p ++ t) (p.length + k) = if ixOf c t k < 0 then ixOf c t k else p.length + ixOf c t k := by
  unfold ixOf
  rw [drop_sh]
  cases (t.drop k).findIdx? (· == c) with
  | none => simp
  | some j => simp only; rw [if_neg (by (first | lia | omega))]; (first | lia | omega)
theorem readQuoted_sh (p t : List Nat) (a : Nat) : readQuoted (p ++ t) (p.length + a) = ((readQuoted t a).1, p.length + (readQuoted t a).2) := by
  unfold readQuoted
  dsimp only
  rw [Nat.add_assoc, ixOf_sh]
  by_cases h : ixOf 34 t (a + 1) < 0
  · rw [if_pos h, if_pos h, if_pos h, drop_sh, List.length_append]
  · rw [if_neg h, if_neg h, if_neg (by (first | lia | omega))]
    rw [show ((p.length : Int) + ixOf 34 t (a + 1)).toNat = p.length + (ixOf 34 t (a + 1)).toNat by (first | lia | omega), slc_sh, Nat.add_assoc]
theorem wordAt_sh (p t : List Nat) (a : Nat) : wordAt (p ++ t) (p.length + a) = wordAt t a := by
  unfold wordAt
  congr 1
  funext f x
  unfold wordStep
  rw [Nat.add_assoc, slc_sh]
theorem signAt_sh (p t : List Nat) (a : Nat) : signAt (p ++ t) (p.length + a) = signAt t a := by
  unfold signAt
  congr 2
  funext s
  rw [Nat.add_assoc, slc_sh]
theorem readName_sh (p t : List Nat) (a : Nat) : readName (p ++ t) (p.length + a) = ((readName t a).1, p.length + (readName t a).2) := by
  unfold readName
  dsimp only
  rw [Nat.add_assoc, adv_sh]
  simp only [nth_sh, wordAt_sh]
  generalize adv t _ (a + 1) = e
  rw [Nat.add_assoc, slc_sh]
  split
  · rw [slc_sh]
  · rw [slc_sh]
theorem readNumber_sh (p t : List Nat) (a : Nat) : readNumber (p ++ t) (p.length + a) = sh p.length (readNumber t a) := by
  unfold readNumber
  have : numEnd (p ++ t) (p.length + a) = p.length + numEnd t a := by unfold numEnd; rw [adv_sh]; simp only [nth_sh]
  dsimp only
  rw [this, slc_sh]
  split <;> rfl
theorem dropBack_sh (p t : List Nat) (b : Nat) : ∀ e, b ≤ e → dropBack (p ++ t) (p.length + b) (p.length + e) = p.length + dropBack t b e
  | 0, h => by
    have : b = 0 := by (first | lia | omega)
    subst this
    rw [Nat.add_zero]
    cases hp : p.length with
    | zero => rfl
    | succ n => unfold dropBack; rw [if_neg (by (first | lia | omega))]
  | e + 1, h => by
    rw [← Nat.add_assoc]
    unfold dropBack
    rw [nth_sh]
    by_cases q : b < e + 1 ∧ nth t e ∈ BL
    · rw [if_pos q, if_pos ⟨by (first | lia | omega), q.2⟩, dropBack_sh p t b e (by (first | lia | omega))]
    · rw [if_neg q, if_neg (fun z => q ⟨by (first | lia | omega), z.2⟩)]; (first | lia | omega)
theorem readItem_sh (p t : List Nat) (a : Nat) : readItem (p ++ t) (p.length + a) = sh p.length (readItem t a) := by
  unfold readItem
  dsimp only
  rw [bb_sh, Nat.add_assoc, slc_sh, readQuoted_sh, adv_sh]
  dsimp only
  rw [bb_sh, nth_sh, List.length_append]
  simp only [nth_sh]
  have hge := adv_ge t (fun i => !decide (nth t i ∈ [44, 58])) (bb t a)
  generalize adv t (fun i => !decide (nth t i ∈ [44, 58])) (bb t a) = e at *
  rw [dropBack_sh p t _ _ hge, slc_sh]
  by_cases h : slc t (bb t a) (bb t a + 1) = [34]
  · rw [if_pos h, if_pos h]
    by_cases q : bb t (readQuoted t (bb t a)).2 < t.length ∧ nth t (bb t (readQuoted t (bb t a)).2) ∉ [44, 58]
    · rw [if_pos q, if_pos ⟨by (first | lia | omega), q.2⟩]; rfl
    · rw [if_neg q, if_neg (fun z => q ⟨by (first | lia | omega), z.2⟩)]; rfl
  · rw [if_neg h, if_neg h]; rfl
theorem moreItems_sh (p t : List Nat) : ∀ n acc a, moreItems (p ++ t) n acc (p.length + a) = sh p.length (moreItems t n acc a)
  | 0, acc, a => rfl
  | n + 1, acc, a => by
    unfold moreItems
    rw [Nat.add_assoc, slc_sh, readItem_sh]
    split
    · cases readItem t (a + 1) with
      | error e => rfl
      | ok r => exact moreItems_sh p t n _ _
    · rfl
/-- more fuel gives no other answer -/
theorem moreItems_fuel {t : List Nat} : ∀ n m acc a, t.length - a ≤ n → t.length - a ≤ m → a ≤ t.length → moreItems t n acc a = moreItems t m acc a
  | n, m, acc, a, hn, hm, ha => by
    by_cases h : slc t a (a + 1) = [44]
    · have hl := (List.getElem?_eq_some_iff.mp (slc_one.mp h)).1
      cases n with
      | zero => (first | lia | omega)
      | succ n =>
        cases m with
        | zero => (first | lia | omega)
        | succ m =>
          unfold moreItems
          rw [if_pos h, if_pos h]
          cases hr : readItem t (a + 1) with
          | error e => rfl
          | ok r =>
            have := readItem_le (by assumption) hr
            exact moreItems_fuel n m _ _ (by (first | lia | omega)) (by (first | lia | omega)) this.2
    · cases n <;> cases m <;> unfold moreItems <;> (try rw [if_neg h]) <;> (try rw [if_neg h]) <;> rfl
theorem readItems_sh (p t : List Nat) (a : Nat) (h : a ≤ t.length) : readItems (p ++ t) (p.length + a) = sh p.length (readItems t a) := by
  unfold readItems
  rw [readItem_sh]
  cases hr : readItem t a with
  | error e => rfl
  | ok r =>
    show moreItems (p ++ t) (p ++ t).length _ (p.length + r.2) = _
    have := readItem_le h hr
    rw [moreItems_sh, moreItems_fuel (p ++ t).length t.length _ _ (by rw [List.length_append]; (first | lia | omega)) (by (first | lia | omega)) this.2]
theorem great_app (p t : List Nat) : great (p ++ t) = great p ++ great t := List.map_append
theorem readToken_sh (p t : List Nat) (a : Nat) (h : a < t.length) : readToken (p ++ t) (great (p ++ t)) (p.length + a) = sh p.length (readToken t (great t) a) := by
  rw [great_app]
  have gl : (great p).length = p.length := great_len p
  have e1 : nth (great p ++ great t) (p.length + a) = nth (great t) a := by rw [← gl, nth_sh]
  have e2 : wordAt (great p ++ great t) (p.length + a) = wordAt (great t) a := by rw [← gl, wordAt_sh]
  have e3 : signAt (great p ++ great t) (p.length + a) = signAt (great t) a := by rw [← gl, signAt_sh]
  have e4 : readName (great p ++ great t) (p.length + a) = ((readName (great t) a).1, p.length + (readName (great t) a).2) := by rw [← gl, readName_sh]
  unfold readToken
  dsimp only
  rw [e1, e2, e3, e4, readQuoted_sh, readNumber_sh]
  generalize nth (great t) a = c
  by_cases h1 : c = 34
  · rw [if_pos h1, if_pos h1]; rfl
  rw [if_neg h1, if_neg h1]
  by_cases h2 : c ∈ DG
  · rw [if_pos h2, if_pos h2]
    cases readNumber t a with
    | error e => rfl
    | ok r => rfl
  rw [if_neg h2, if_neg h2]
  have hwa := wordAt_slc (great t) a
  generalize wordAt (great t) a = wa at *
  have hws := wsOk (t := great t) (c := c) (wa := wa) (by rw [great_len]; exact h) hwa rfl
  generalize (if c ∈ [63, 39] then (if c = 63 then wPRINT else wREM, 1) else (wa, wa.length) : List Nat × Nat) = ws at *
  rw [great_len] at hws
  by_cases h3 : ws.1 = wREM
  · rw [if_pos h3, if_pos h3, Nat.add_assoc, bb_sh, drop_sh, List.length_append]; rfl
  rw [if_neg h3, if_neg h3]
  by_cases h4 : ws.1 = wDATA
  · rw [if_pos h4, if_pos h4, Nat.add_assoc, readItems_sh]
    · cases readItems t (a + ws.2) with
      | error e => rfl
      | ok r => rfl
    · rcases hws.1 with q | q
      · rw [h4] at q; exact absurd q wDATA_ne
      · exact q.2
  rw [if_neg h4, if_neg h4]
  by_cases h5 : ws.1 ≠ []
  · rw [if_pos h5, if_pos h5, Nat.add_assoc]; rfl
  rw [if_neg h5, if_neg h5]
  by_cases h6 : c ∈ LT
  · rw [if_pos h6, if_pos h6]; rfl
  rw [if_neg h6, if_neg h6]
  by_cases h7 : signAt (great t) a = []
  · rw [if_pos h7, if_pos h7]; rfl
  rw [if_neg h7, if_neg h7, Nat.add_assoc]; rfl
theorem moreTokens_sh (p t : List Nat) : ∀ n acc a, moreTokens (p ++ t) (great (p ++ t)) n acc (p.length + a) = moreTokens t (great t) n acc a
  | 0, acc, a => rfl
  | n + 1, acc, a => by
    unfold moreTokens
    rw [List.length_append]
    by_cases h : a < t.length
    · rw [if_pos h, if_pos (by (first | lia | omega)), readToken_sh p t a h]
      cases readToken t (great t) a with
      | error e => rfl
      | ok r =>
        show moreTokens _ _ n _ (bb (p ++ t) (p.length + r.2)) = moreTokens t (great t) n (acc ++ r.1) (bb t r.2)
        rw [bb_sh]; exact moreTokens_sh p t n _ _
    · rw [if_neg h, if_neg (by (first | lia | omega))]
/-- the tokens of a text that begins behind blanks, with fuel enough -/
noncomputable def Lexes (t : List Nat) (f : List TK → Re (List TK)) : Prop := ∀ n acc, t.length ≤ n → moreTokens t (great t) n acc (bb t 0) = f acc
theorem lex_blank {t : List Nat} {f} (h : Lexes t f) : Lexes (32 :: t) f := by
  intro n acc hn
  rw [List.length_cons] at hn
  have e : bb (32 :: t) 0 = bb (32 :: t) 1 := by
    unfold bb
    exact adv_go (by simp) (show decide ((32 : Nat) ∈ BL) = true by decide)
  have e2 : bb (32 :: t) 1 = 1 + bb t 0 := bb_sh [32] t 0
  rw [e, e2]
  have := moreTokens_sh [32] t n acc (bb t 0)
  exact this.trans (h n acc (Nat.le_of_lt (by assumption)))
theorem lex_nil {f : List TK → Re (List TK)} (hf : ∀ acc, f acc = .ok acc) : Lexes [] f := by
  intro n acc _
  rw [hf]; cases n <;> rfl
/-- one token ahead of what follows -/
theorem lex_tok {s y : List Nat} {tk : List TK} {f} (hb : bb (s ++ y) 0 = 0) (h0 : 0 < s.length) (hr : readToken (s ++ y) (great (s ++ y)) 0 = .ok (tk, s.length)) (h : Lexes y f) : Lexes (s ++ y) (fun acc => f (acc ++ tk)) := by
  intro n acc hn
  rw [List.length_append] at hn
  cases n with
  | zero => (first | lia | omega)
  | succ n =>
    unfold moreTokens
    rw [hb, if_pos (by rw [List.length_append]; (first | lia | omega)), hr]
    show moreTokens _ _ n _ (bb (s ++ y) s.length) = _
    have e := bb_sh s y 0
    rw [Nat.add_zero] at e
    rw [e, moreTokens_sh]
    exact h n _ (by (first | lia | omega))
/-- the last token -/
theorem lex_last {t : List Nat} {tk : List TK} (hb : bb t 0 = 0) (h0 : 0 < t.length) (hr : readToken t (great t) 0 = .ok (tk, t.length)) : Lexes t (fun acc => .ok (acc ++ tk)) := by
  have := lex_tok (s := t) (y := []) (tk := tk) (f := .ok) (by rw [List.append_nil]; exact hb) h0 (by rw [List.append_nil]; exact hr) (lex_nil fun _ => rfl)
  rw [List.append_nil] at this
  exact this
theorem lex_err {t : List Nat} {e : Str} {f} (hb : bb t 0 = 0) (h0 : 0 < t.length) (hr : readToken t (great t) 0 = .error e) (hf : ∀ acc, f acc = .error e) : Lexes t f := by
  intro n acc hn
  cases n with
  | zero => (first | lia | omega)
  | succ n =>
    unfold moreTokens
    rw [hb, if_pos h0, hr, hf]
theorem lex_of {t : List Nat} {f} (h : Lexes t f) : tokensOf t = f [] := h t.length [] (Nat.le_refl _)
end Mine
end

section
set_option maxHeartbeats 1000000
open PySem PySem.W PyProof.Rows PySem.Spec PySem.Calls PySem.SeqAt
set_option Elab.async false
set_option linter.unusedVariables false
set_option linter.unusedSimpArgs false
set_option maxRecDepth 100000
namespace Mine
/-! ## each token read from its spelling -/
noncomputable def FOL : List Nat := 32 :: 34 :: SGN.flatten
noncomputable def Fol (y : List Nat) : Prop := ∀ c, y.head? = some c → c ∈ FOL
theorem fol_gs : ∀ c ∈ FOL, gs c = c := by decide +kernel
theorem Fol.great {y : List Nat} (h : Fol y) : Fol (great y) := by
  intro c hc
  cases y with
  | nil => cases hc
  | cons a r =>
    have e : gs a = c := by
      have : (gs a :: Mine.great r).head? = some c := hc
      exact Option.some.inj this
    have := h a rfl
    rw [fol_gs a this] at e
    exact e ▸ this
theorem wrd_fol : ∀ x ∈ WRD, ∀ c ∈ x, c ∉ FOL := by decide +kernel
theorem slc_fol {x y w : List Nat} {i : Nat} (hy : ∀ c, y.head? = some c → c ∉ w) (hi : i ≤ x.length) : slc (x ++ y) i (i + w.length) = w ↔ slc x i (i + w.length) = w := by
  by_cases h : i + w.length ≤ x.length
  · unfold slc
    rw [List.take_append_of_le_length h]
  · cases y with
    | nil => rw [List.append_nil]
    | cons c r =>
      have hc := hy c rfl
      constructor
      · intro e
        refine absurd ?_ hc
        rw [← e]
        unfold slc
        rw [List.take_append, List.take_of_length_le (by (first | lia | omega))]
        obtain ⟨k, hk⟩ : ∃ k, i + w.length - x.length = k + 1 := ⟨i + w.length - x.length - 1, by (first | lia | omega)⟩
        rw [hk, List.take_succ_cons, List.drop_append_of_le_length hi]
        exact List.mem_append_right _ (.head _)
      · intro e
        have := congrArg List.length e
        unfold slc at this
        rw [List.length_drop, List.length_take] at this
        (first | lia | omega)
theorem wordAt_fol {x y : List Nat} {i : Nat} (hy : Fol y) (hi : i ≤ x.length) : wordAt (x ++ y) i = wordAt x i := by
  unfold wordAt
  have key : ∀ (l : List (List Nat)) (f : List Nat), (∀ w ∈ l, w ∈ WRD) → l.foldl (wordStep (x ++ y) i) f = l.foldl (wordStep x i) f := by
    intro l
    induction l with
    | nil => intro f _; rfl
    | cons w l ih =>
      intro f h
      have e : wordStep (x ++ y) i f w = wordStep x i f w := by
        unfold wordStep
        have := slc_fol (x := x) (y := y) (w := w) (i := i) (fun c hc hm => wrd_fol w (h w (.head _)) c hm (hy c hc)) hi
        simp only [this]
      rw [List.foldl_cons, List.foldl_cons, e]
      exact ih _ fun v m => h v (.tail _ m)
  exact key WRD [] fun _ m => m
theorem adv_fol {x y : List Nat} {P P' : Nat → Bool} {a : Nat} (h : ∀ i < x.length, P i = P' i) (hy : y = [] ∨ P x.length = false) (ha : a ≤ x.length) : adv (x ++ y) P a = adv x P' a := by
  by_cases q : a < x.length
  · cases hp : P' a with
    | false => rw [adv_stop (.inr (by rw [h a q, hp])), adv_stop (.inr hp)]
    | true =>
      rw [adv_go (by rw [List.length_append]; (first | lia | omega)) (by rw [h a q, hp]), adv_go q hp]
      exact adv_fol h hy q
  · have : a = x.length := by (first | lia | omega)
    subst this
    rw [adv_stop (t := x) (.inl (Nat.le_refl _))]
    rcases hy with rfl | hy
    · rw [List.append_nil, adv_stop (.inl (Nat.le_refl _))]
    · exact adv_stop (.inr hy)
termination_by x.length - a
theorem nth_app {x y : List Nat} {i : Nat} (h : i < x.length) : nth (x ++ y) i = nth x i := by
  unfold nth; rw [List.getD_eq_getElem?_getD, List.getD_eq_getElem?_getD, List.getElem?_append_left h]
theorem nth_at (x y : List Nat) : nth (x ++ y) x.length = nth y 0 := nth_sh x y 0
theorem slc_in {x y : List Nat} {i j : Nat} (h : j ≤ x.length) : slc (x ++ y) i j = slc x i j := by
  unfold slc; rw [List.take_append_of_le_length h]
theorem fol_cases {y : List Nat} (h : Fol y) : y = [] ∨ nth y 0 ∈ FOL := by
  cases y with
  | nil => exact .inl rfl
  | cons c r => exact .inr (h c rfl)
theorem dol_fol : ∀ c ∈ cs "$", c ∉ FOL := by decide
theorem ltdg_fol : ∀ c ∈ FOL, c ∉ LT ++ DG := by decide +kernel
theorem dg_fol : ∀ c ∈ FOL, c ∉ DG := by decide +kernel
theorem readName_fol {x y : List Nat} (hy : Fol y) (hx : 0 < x.length) : readName (x ++ y) 0 = readName x 0 := by
  unfold readName
  dsimp only
  rw [adv_fol (P' := fun i => decide (nth x i ∈ LT ++ DG) && wordAt x i == [])]
  · have hle := adv_le x (fun i => decide (nth x i ∈ LT ++ DG) && wordAt x i == []) (0 + 1) hx
    generalize adv x (fun i => decide (nth x i ∈ LT ++ DG) && wordAt x i == []) (0 + 1) = e at *
    have hd := slc_fol (x := x) (y := y) (w := cs "$") (i := e) (fun c hc hm => absurd (hy c hc) (dol_fol c hm)) hle.2
    rw [show (cs "$").length = 1 by decide] at hd
    simp only [hd]
    by_cases q : slc x e (e + 1) = cs "$"
    · have : e + 1 ≤ x.length := by
        have := (List.getElem?_eq_some_iff.mp (slc_one.mp (show slc x e (e + 1) = [36] from q))).1
        (first | lia | omega)
      rw [if_pos q, slc_in this]
    · rw [if_neg q, slc_in hle.2]
  · intro i hi
    rw [nth_app hi, wordAt_fol hy (Nat.le_of_lt (by assumption))]
  · rcases fol_cases hy with h | h
    · exact .inl h
    · refine .inr ?_
      rw [nth_at, decide_eq_false (ltdg_fol _ h)]; rfl
  · exact hx
theorem readNumber_fol {x y : List Nat} (hy : Fol y) : readNumber (x ++ y) 0 = readNumber x 0 := by
  have e : numEnd (x ++ y) 0 = numEnd x 0 := by
    unfold numEnd
    refine adv_fol ?_ ?_ (Nat.zero_le _)
    · intro i hi; simp only [nth_app hi]
    · rcases fol_cases hy with h | h
      · exact .inl h
      · refine .inr ?_
        show decide (nth (x ++ y) x.length ∈ DG) = false
        rw [nth_at, decide_eq_false (dg_fol _ h)]
  have hl : numEnd x 0 ≤ x.length := (adv_le x _ 0 (Nat.zero_le _)).2
  unfold readNumber
  rw [e]
  dsimp only
  rw [slc_in hl]
noncomputable def okIs {α : Type} [DecidableEq α] (r : Re α) (v : α) : Bool := match r with | .ok x => decide (x = v) | .error _ => false
theorem okIs_eq {α : Type} [DecidableEq α] {r : Re α} {v : α} (h : okIs r v = true) : r = .ok v := by
  unfold okIs at h
  split at h
  · rw [of_decide_eq_true h]
  · cases h
noncomputable def errIs {α : Type} (r : Re α) (e : Str) : Bool := match r with | .ok _ => false | .error x => x == e
theorem errIs_eq {α : Type} {r : Re α} {e : Str} (h : errIs r e = true) : r = .error e := by
  unfold errIs at h
  split at h
  · cases h
  · rw [eq_of_beq h]
theorem rq_text {x y : List Nat} (h : 34 ∉ x) : readQuoted (34 :: (x ++ 34 :: y)) 0 = (x, x.length + 2) := by
  have e : ixOf 34 (34 :: (x ++ 34 :: y)) (0 + 1) = (1 + x.length : Nat) := by
    unfold ixOf
    have : (List.drop (0 + 1) (34 :: (x ++ 34 :: y))).findIdx? (· == 34) = some x.length := by
      show (x ++ 34 :: y).findIdx? (· == 34) = _
      rw [List.findIdx?_append, List.findIdx?_eq_none_iff.mpr (by intro c hc; simp; rintro rfl; exact h hc)]
      rw [show (34 :: y).findIdx? (· == 34) = some 0 by rw [List.findIdx?_cons]; rfl]
      simp
    rw [this]
  unfold readQuoted
  rw [e]
  dsimp only
  rw [if_neg (by (first | lia | omega))]
  refine Prod.ext ?_ (by show ((1 + x.length : Nat) : Int).toNat + 1 = _; (first | lia | omega))
  show slc _ (0 + 1) ((1 + x.length : Nat) : Int).toNat = x
  rw [Int.toNat_natCast]
  unfold slc
  rw [Nat.add_comm 1, List.take_succ_cons, List.take_left']
  · rfl
  · rfl
theorem nth_great {s y : List Nat} (h : 0 < s.length) : nth (great (s ++ y)) 0 = nth (great s) 0 := by
  rw [great_app, nth_app (by rw [great_len]; exact h)]
theorem rt_text {x y : List Nat} (h : 34 ∉ x) : readToken (34 :: (x ++ [34]) ++ y) (great (34 :: (x ++ [34]) ++ y)) 0 = .ok ([.text x], (34 :: (x ++ [34])).length) := by
  rw [show 34 :: (x ++ [34]) ++ y = 34 :: (x ++ 34 :: y) by simp]
  unfold readToken
  dsimp only
  rw [if_pos (show nth (great (34 :: (x ++ 34 :: y))) 0 = 34 from rfl), rq_text h]
  simp
theorem rt_num {s y : List Nat} {n : Nat} (h0 : 0 < s.length) (hd : nth (great s) 0 ∈ DG) (hn : readNumber s 0 = .ok (n, s.length)) (hy : Fol y) : readToken (s ++ y) (great (s ++ y)) 0 = .ok ([.num n], s.length) := by
  unfold readToken
  dsimp only
  rw [nth_great h0, readNumber_fol hy, hn, if_pos hd]
  have : ∀ c ∈ DG, c ≠ 34 := by decide
  rw [if_neg (this _ hd)]
theorem rt_word {s x y : List Nat} (hs : great s = x) (h0 : 0 < s.length) (hx : nth x 0 ≠ 34 ∧ nth x 0 ∉ DG ∧ nth x 0 ∉ [63, 39]) (hw : wordAt x 0 = x) (hr : x ≠ wREM) (hd : x ≠ wDATA) (hy : Fol y) : readToken (s ++ y) (great (s ++ y)) 0 = .ok ([.word x], s.length) := by
  have hl : x.length = s.length := by rw [← hs, great_len]
  unfold readToken
  dsimp only
  rw [nth_great h0, great_app, hs, wordAt_fol hy.great (Nat.zero_le _), hw, if_neg hx.1, if_neg hx.2.1, if_neg hx.2.2, if_neg hr, if_neg hd, if_pos (by intro e; have e' : x = [] := e; rw [e'] at hl; simp at hl; (first | lia | omega))]
  simp [hl]
theorem rt_ask {y : List Nat} : readToken ([63] ++ y) (great ([63] ++ y)) 0 = .ok ([.word wPRINT], 1) := by
  unfold readToken
  rw [show nth (great ([63] ++ y)) 0 = 63 from rfl]
  dsimp only
  rw [if_pos (show (63 : Nat) ∈ [63, 39] by decide), if_pos (show (63 : Nat) = 63 from rfl)]
  dsimp only
  rw [if_neg (show ¬ (63 : Nat) = 34 by decide), if_neg (show (63 : Nat) ∉ DG by decide), if_neg (show wPRINT ≠ wREM by decide), if_neg (show wPRINT ≠ wDATA by decide), if_pos (show wPRINT ≠ [] by decide)]
theorem rt_name {s x y : List Nat} (hs : great s = x) (h0 : 0 < s.length) (hx : nth x 0 ≠ 34 ∧ nth x 0 ∉ DG ∧ nth x 0 ∉ [63, 39] ∧ nth x 0 ∈ LT) (hw : wordAt x 0 = []) (hn : readName x 0 = (x, x.length)) (hy : Fol y) : readToken (s ++ y) (great (s ++ y)) 0 = .ok ([.name x], s.length) := by
  have hl : x.length = s.length := by rw [← hs, great_len]
  unfold readToken
  dsimp only
  rw [nth_great h0, great_app, hs, wordAt_fol hy.great (Nat.zero_le _), hw, if_neg hx.1, if_neg hx.2.1, if_neg hx.2.2.1, if_neg (by decide), if_neg (by decide), if_neg (by simp), if_pos hx.2.2.2, readName_fol hy.great (by (first | lia | omega)), hn]
  simp [hl]
theorem wordAt_none {c : Nat} {t : List Nat} (h : ∀ w ∈ WRD, w.head? ≠ some c) : wordAt (c :: t) 0 = [] := by
  unfold wordAt
  have h0 : ∀ w ∈ WRD, w ≠ [] := by decide
  have key : ∀ (l : List (List Nat)), (∀ w ∈ l, w ∈ WRD) → l.foldl (wordStep (c :: t) 0) [] = [] := by
    intro l
    induction l with
    | nil => intro _; rfl
    | cons w l ih =>
      intro hl
      have hw := hl w (.head _)
      have e : wordStep (c :: t) 0 [] w = [] := by
        unfold wordStep
        rw [if_neg]
        rintro ⟨_, q⟩
        refine h w hw ?_
        cases w with
        | nil => exact absurd rfl (h0 [] hw)
        | cons a r =>
          unfold slc at q
          rw [List.drop_zero, Nat.zero_add, List.length_cons, List.take_succ_cons] at q
          rw [← q]; rfl
      rw [List.foldl_cons, e]
      exact ih fun v m => hl v (.tail _ m)
  exact key WRD fun _ m => m
/-- what may follow a sign -/
noncomputable def SFol (x y : List Nat) : Prop := ∀ c, y.head? = some c → c < 128 ∧ (x ∈ [cs "<", cs ">"] → c ∉ [61, 62])
theorem gs_lt {c : Nat} (h : c < 128) : gs c < 128 := by unfold gs; split <;> (first | lia | omega)
theorem SFol.great {x y : List Nat} (h : SFol x y) : SFol x (great y) := by
  intro c hc
  cases y with
  | nil => cases hc
  | cons a r =>
    have e : gs a = c := by
      have : (gs a :: Mine.great r).head? = some c := hc
      exact Option.some.inj this
    obtain ⟨h1, h2⟩ := h a rfl
    refine ⟨e ▸ gs_lt h1, fun hx hm => h2 hx ?_⟩
    have : ∀ a < 128, gs a ∈ [61, 62] → a ∈ [61, 62] := by decide +kernel
    exact this a h1 (e ▸ hm)
theorem signAt_one {x y : List Nat} (hx : x ∈ SGN) : signAt (x ++ y) 0 = signAt (x ++ y.take 1) 0 := by
  have h1 : ∀ x ∈ SGN, 0 < x.length := by decide
  have h2 : ∀ x ∈ SGN, x.length ≤ 2 := by decide
  unfold signAt
  have key : ∀ l : List (List Nat), (∀ s ∈ l, s ∈ SGN) → (l.find? fun s => slc (x ++ y) 0 (0 + s.length) == s) = (l.find? fun s => slc (x ++ y.take 1) 0 (0 + s.length) == s) := by
    intro l
    induction l with
    | nil => intro _; rfl
    | cons s l ih =>
      intro hl
      have e : slc (x ++ y) 0 (0 + s.length) = slc (x ++ y.take 1) 0 (0 + s.length) := by
        have := h1 x hx
        have := h2 s (hl s (.head _))
        unfold slc
        rw [List.take_append, List.take_append, List.take_take]
        rw [Nat.min_eq_left (by (first | lia | omega))]
      rw [List.find?_cons, List.find?_cons, e, ih fun v m => hl v (.tail _ m)]
  rw [key SGN fun _ m => m]
theorem sign_tab : ∀ x ∈ SGN, signAt (x ++ []) 0 = x ∧ ∀ c < 128, (x ∈ [cs "<", cs ">"] → c ∉ [61, 62]) → signAt (x ++ [c]) 0 = x := by decide +kernel
theorem signAt_fol {x y : List Nat} (hx : x ∈ SGN) (hy : SFol x y) : signAt (x ++ y) 0 = x := by
  rw [signAt_one hx]
  cases y with
  | nil => exact (sign_tab x hx).1
  | cons c r => exact (sign_tab x hx).2 c (hy c rfl).1 (hy c rfl).2
theorem sign_first : ∀ x ∈ SGN, nth x 0 ≠ 34 ∧ nth x 0 ∉ DG ∧ nth x 0 ∉ [63, 39] ∧ nth x 0 ∉ LT ∧ x ≠ [] ∧ ∀ w ∈ WRD, w.head? ≠ some (nth x 0) := by decide +kernel
theorem rt_sign {s x y : List Nat} (hs : great s = x) (hx : x ∈ SGN) (hy : SFol x y) : readToken (s ++ y) (great (s ++ y)) 0 = .ok ([.sign x], s.length) := by
  have hl : x.length = s.length := by rw [← hs, great_len]
  refine nn fun nG => ?_
  obtain ⟨h1, h2, h3, h4, h5, h6⟩ := sign_first x hx
  refine nG ?_
  clear nG
  have h0 : 0 < s.length := by
    rw [← hl]; exact Nat.pos_of_ne_zero fun q => h5 (List.eq_nil_of_length_eq_zero q)
  have hw : wordAt (x ++ great y) 0 = [] := by
    cases x with
    | nil => exact absurd rfl h5
    | cons c r => exact wordAt_none h6
  unfold readToken
  dsimp only
  rw [nth_great h0, great_app, hs, hw, signAt_fol hx hy.great, if_neg h1, if_neg h2, if_neg h3, if_neg (by decide), if_neg (by decide), if_neg (by simp), if_neg h4, if_neg h5, hl]
  simp
theorem rem_tab : wordAt wREM 0 = wREM ∧ wordAt wDATA 0 = wDATA := by decide
theorem rt_rem {s y : List Nat} (hs : great s = wREM) (hy : Fol y) : readToken (s ++ y) (great (s ++ y)) 0 = .ok ([.word wREM, .raw (y.drop (bb y 0))], (s ++ y).length) := by
  have hl : wREM.length = s.length := by rw [← hs, great_len]
  have h0 : 0 < s.length := by rw [← hl]; decide
  unfold readToken
  dsimp only
  rw [nth_great h0, great_app, hs, wordAt_fol hy.great (Nat.zero_le _), rem_tab.1, if_neg (show nth wREM 0 ∉ [63, 39] by decide), if_neg (show nth wREM 0 ≠ 34 by decide), if_neg (show nth wREM 0 ∉ DG by decide)]
  dsimp only
  rw [if_pos rfl]
  rw [hl, Nat.zero_add]
  have e := bb_sh s y 0
  rw [Nat.add_zero] at e
  rw [e, drop_sh]
theorem rt_rem1 {y : List Nat} : readToken ([39] ++ y) (great ([39] ++ y)) 0 = .ok ([.word wREM, .raw (y.drop (bb y 0))], ([39] ++ y).length) := by
  unfold readToken
  rw [show nth (great ([39] ++ y)) 0 = 39 from rfl]
  dsimp only
  rw [if_pos (show (39 : Nat) ∈ [63, 39] by decide), if_neg (show ¬ (39 : Nat) = 63 by decide)]
  dsimp only
  rw [if_neg (show ¬ (39 : Nat) = 34 by decide), if_neg (show (39 : Nat) ∉ DG by decide), if_pos rfl]
  rw [show bb ([39] ++ y) (0 + 1) = ([39] : List Nat).length + bb y 0 from bb_sh [39] y 0, drop_sh]
theorem rt_data {s y : List Nat} {its : List TK} (hs : great s = wDATA) (hy : Fol y) (hi : readItems y 0 = .ok (its, y.length)) : readToken (s ++ y) (great (s ++ y)) 0 = .ok (.word wDATA :: its, (s ++ y).length) := by
  have hl : wDATA.length = s.length := by rw [← hs, great_len]
  have h0 : 0 < s.length := by rw [← hl]; decide
  unfold readToken
  dsimp only
  rw [nth_great h0, great_app, hs, wordAt_fol hy.great (Nat.zero_le _), rem_tab.2, if_neg (show nth wDATA 0 ∉ [63, 39] by decide), if_neg (show nth wDATA 0 ≠ 34 by decide), if_neg (show nth wDATA 0 ∉ DG by decide)]
  dsimp only
  rw [if_neg (show wDATA ≠ wREM by decide), if_pos rfl]
  rw [hl, Nat.zero_add]
  have e := readItems_sh s y 0 (Nat.zero_le _)
  rw [Nat.add_zero] at e
  rw [e, hi]
  simp [sh]
end Mine
end

section
set_option maxHeartbeats 1000000
open PySem PySem.W PyProof.Rows PySem.Spec PySem.Calls PySem.SeqAt
set_option Elab.async false
set_option linter.unusedVariables false
set_option linter.unusedSimpArgs false
set_option maxRecDepth 100000
namespace Mine
/-! ## the items behind DATA -/
noncomputable def F44 (y : List Nat) : Prop := ∀ c, y.head? = some c → c = 44
theorem f44_cases {y : List Nat} (h : F44 y) : y = [] ∨ nth y 0 = 44 := by
  cases y with
  | nil => exact .inl rfl
  | cons c r => exact .inr (h c rfl)
theorem bb_f44 {z y : List Nat} {a : Nat} (hy : F44 y) (ha : a ≤ z.length) : bb (z ++ y) a = bb z a := by
  unfold bb
  refine adv_fol ?_ ?_ ha
  · intro i hi; simp only [nth_app hi]
  · rcases f44_cases hy with h | h
    · exact .inl h
    · refine .inr ?_
      show decide (nth (z ++ y) z.length ∈ BL) = false
      rw [nth_at, h]; decide
theorem dropBack_app {z y : List Nat} {b : Nat} : ∀ e, e ≤ z.length → dropBack (z ++ y) b e = dropBack z b e
  | 0, _ => rfl
  | e + 1, h => by
    unfold dropBack
    rw [nth_app (by assumption), dropBack_app e (Nat.le_of_lt (by assumption))]
theorem ixOf_app {c k : Nat} {z y : List Nat} (h : ¬ ixOf c z k < 0) : ixOf c (z ++ y) k = ixOf c z k := by
  unfold ixOf at h ⊢
  cases q : (z.drop k).findIdx? (· == c) with
  | none => rw [q] at h; exact absurd (show (-1 : Int) < 0 by decide) h
  | some j =>
    have hk : k ≤ z.length := by
      have := (List.findIdx?_eq_some_iff_getElem.mp q).1
      rw [List.length_drop] at this
      (first | lia | omega)
    rw [List.drop_append_of_le_length hk, List.findIdx?_append, q]; rfl
theorem readItem_f44 {z y : List Nat} (hy : F44 y) (hq : slc z (bb z 0) (bb z 0 + 1) = [34] → ¬ ixOf 34 z (bb z 0 + 1) < 0) : readItem (z ++ y) 0 = readItem z 0 := by
  unfold readItem
  dsimp only
  rw [bb_f44 hy (Nat.zero_le _)]
  have hb := bb_le (t := z) (Nat.zero_le _)
  generalize bb z 0 = k at *
  have hs := slc_fol (x := z) (y := y) (w := [34]) (i := k) (fun c hc hm => by have := hy c hc; subst this; revert hm; decide) hb
  rw [show k + [34].length = k + 1 from rfl] at hs
  by_cases h : slc z k (k + 1) = [34]
  · rw [if_pos (hs.mpr h), if_pos h]
    have hix := hq h
    have e : readQuoted (z ++ y) k = readQuoted z k := by
      unfold readQuoted
      dsimp only
      rw [ixOf_app hix, if_neg hix, if_neg hix]
      obtain ⟨n, hn⟩ := Int.eq_ofNat_of_zero_le (show 0 ≤ ixOf 34 z (k + 1) by (first | lia | omega))
      have := ixOf_bound hn
      rw [hn]
      rw [slc_in (show (n : Int).toNat ≤ z.length by (first | lia | omega))]
    have hle := readQuoted_le (t := z) (a := k) (List.getElem?_eq_some_iff.mp (slc_one.mp h)).1
    rw [e, bb_f44 hy hle.2]
    have hb2 := bb_le hle.2
    generalize readQuoted z k = r at *
    generalize bb z r.2 = e at *
    by_cases q : e < z.length
    · rw [nth_app q, List.length_append]
      by_cases q2 : nth z e ∉ [44, 58]
      · rw [if_pos ⟨by (first | lia | omega), q2⟩, if_pos ⟨q, q2⟩]
      · rw [if_neg (fun z => q2 z.2), if_neg (fun z => q2 z.2)]
    · have : e = z.length := by (first | lia | omega)
      subst this
      rw [if_neg (c := z.length < z.length ∧ _) (fun q => by (first | lia | omega))]
      rw [if_neg]
      rintro ⟨h1, h2⟩
      rcases f44_cases hy with h | h
      · subst h; simp at h1
      · rw [nth_at, h] at h2; exact absurd (by decide) h2
  · rw [if_neg (fun z => h (hs.mp z)), if_neg h]
    have e : adv (z ++ y) (fun i => !decide (nth (z ++ y) i ∈ [44, 58])) k = adv z (fun i => !decide (nth z i ∈ [44, 58])) k := by
      refine adv_fol ?_ ?_ hb
      · intro i hi; simp only [nth_app hi]
      · rcases f44_cases hy with h | h
        · exact .inl h
        · refine .inr ?_
          show (!decide (nth (z ++ y) z.length ∈ [44, 58])) = false
          rw [nth_at, h]; decide
    rw [e]
    have hle := (adv_le z (fun i => !decide (nth z i ∈ [44, 58])) k hb).2
    clear e
    generalize adv z (fun i => !decide (nth z i ∈ [44, 58])) k = e at *
    rw [dropBack_app e hle, slc_in (Nat.le_trans (dropBack_le z k e) hle)]
noncomputable def ItemZ (r z : List Nat) : Prop := ∀ y, F44 y → readItem (z ++ y) 0 = .ok (r, z.length)
noncomputable def formsOf (r : List Nat) : List (List Nat) := (34 :: (r ++ [34])) :: (if isPl r = true then [r] else [])
theorem pl_tab : LIT.map isPl = [true, true, true, true, false, false, true] := by decide +kernel
noncomputable def LFM : List (List Nat × List Nat) := (LIT.map fun r => (r, 34 :: (r ++ [34]))) ++ ((LIT.zip [true, true, true, true, false, false, true]).filter (·.2)).map fun p => (p.1, p.1)
theorem forms_mem : ∀ r ∈ LIT, ∀ f ∈ formsOf r, (r, f) ∈ LFM := by
  intro r hr f hf
  unfold formsOf at hf
  rcases List.mem_cons.mp hf with rfl | hf
  · exact List.mem_append_left _ (List.mem_map.mpr ⟨r, hr, rfl⟩)
  · split at hf
    · rename_i hp
      have : f = r := List.mem_singleton.mp hf
      subst this
      refine List.mem_append_right _ (List.mem_map.mpr ⟨(f, true), List.mem_filter.mpr ⟨?_, rfl⟩, rfl⟩)
      rw [← pl_tab, List.mem_iff_getElem?]
      obtain ⟨i, hi⟩ := List.mem_iff_getElem?.mp hr
      refine ⟨i, ?_⟩
      rw [List.getElem?_zip_eq_some]
      refine ⟨hi, ?_⟩
      rw [List.getElem?_map, hi]
      exact congrArg some hp
    · cases hf
theorem item_tab : ∀ p ∈ LFM, ∀ l ∈ [[], [32]], ∀ q ∈ [[], [32]], okIs (readItem (l ++ p.2 ++ q) 0) (p.1, (l ++ p.2 ++ q).length) = true ∧ (slc (l ++ p.2 ++ q) (bb (l ++ p.2 ++ q) 0) (bb (l ++ p.2 ++ q) 0 + 1) = [34] → ¬ ixOf 34 (l ++ p.2 ++ q) (bb (l ++ p.2 ++ q) 0 + 1) < 0) := by decide +kernel
theorem item_z {r f l q : List Nat} (hr : r ∈ LIT) (hf : f ∈ formsOf r) (hl : l ∈ [[], [32]]) (hq : q ∈ [[], [32]]) : ItemZ r (l ++ f ++ q) := by
  intro y hy
  obtain ⟨h1, h2⟩ := item_tab _ (forms_mem r hr f hf) l hl q hq
  rw [readItem_f44 hy h2]
  exact okIs_eq h1
noncomputable def itemsY : List (List Nat × List Nat) → List Nat
  | [] => []
  | p :: ps => 44 :: (p.2 ++ itemsY ps)
noncomputable def itemsT : List (List Nat × List Nat) → List TK
  | [] => []
  | p :: ps => .sign [44] :: .raw p.1 :: itemsT ps
theorem itemsY_f44 : ∀ ps, F44 (itemsY ps)
  | [], c, h => by cases h
  | p :: ps, c, h => (Option.some.inj h).symm
theorem moreItems_Y : ∀ ps : List (List Nat × List Nat), (∀ p ∈ ps, ItemZ p.1 p.2) → ∀ n acc, (itemsY ps).length ≤ n → moreItems (itemsY ps) n acc 0 = .ok (acc ++ itemsT ps, (itemsY ps).length)
  | [], _, n, acc, _ => by
    cases n <;> simp [moreItems, itemsY, itemsT, slc]
  | p :: ps, h, n, acc, hn => by
    unfold itemsY at hn
    rw [List.length_cons, List.length_append] at hn
    cases n with
    | zero => (first | lia | omega)
    | succ n =>
      have ih := moreItems_Y ps (fun x m => h x (.tail _ m)) n (acc ++ [.sign [44], .raw p.1]) (by (first | lia | omega))
      have e1 := h p (.head _) (itemsY ps) (itemsY_f44 ps)
      have e2 : readItem (44 :: (p.2 ++ itemsY ps)) (0 + 1) = .ok (p.1, 1 + p.2.length) := by
        have := readItem_sh [44] (p.2 ++ itemsY ps) 0
        rw [e1] at this
        exact this
      unfold itemsY moreItems
      rw [if_pos (slc_one.mpr rfl), e2]
      dsimp only
      have e3 := moreItems_sh (44 :: p.2) (itemsY ps) n (acc ++ [.sign [44], .raw p.1]) 0
      rw [ih] at e3
      rw [show (44 :: p.2).length + 0 = 1 + p.2.length by simp; (first | lia | omega)] at e3
      refine Eq.trans e3 ?_
      unfold sh
      simp only [itemsT, List.append_assoc, List.cons_append, List.nil_append, List.length_cons, List.length_append]
      congr 2
      (first | lia | omega)
theorem readItems_Y {r z : List Nat} {ps : List (List Nat × List Nat)} (h0 : ItemZ r z) (h : ∀ p ∈ ps, ItemZ p.1 p.2) : readItems (z ++ itemsY ps) 0 = .ok (.raw r :: itemsT ps, (z ++ itemsY ps).length) := by
  unfold readItems
  rw [h0 _ (itemsY_f44 ps)]
  dsimp only
  have e := moreItems_sh z (itemsY ps) (z ++ itemsY ps).length [.raw r] 0
  rw [Nat.add_zero, moreItems_Y ps h _ _ (by rw [List.length_append]; (first | lia | omega))] at e
  rw [e]
  unfold sh
  rw [List.length_append]
  rfl
theorem itemText_form : ∀ r ∈ LIT, itemText r ∈ formsOf r := by decide +kernel
end Mine
end

section
set_option maxHeartbeats 1000000
open PySem PySem.W PyProof.Rows PySem.Spec PySem.Calls PySem.SeqAt
set_option Elab.async false
set_option linter.unusedVariables false
set_option linter.unusedSimpArgs false
set_option maxRecDepth 100000
namespace Mine
/-! ## the tokens that are drawn, and how they may be spelled -/
noncomputable def N : TK → Prop
  | .num n => n ∈ NMS
  | .word x => x ∈ LWD
  | .name x => x ∈ LNM
  | .text x => x ∈ LTX
  | .sign x => x ∈ SGN
  | .raw _ => False
noncomputable def Sp : TK → List Nat → Prop
  | .num n, s => s = dec n ∨ s = 48 :: dec n
  | .word x, s => great s = x ∨ (x = wPRINT ∧ s = [63])
  | .name x, s => great s = x
  | .text x, s => s = 34 :: (x ++ [34])
  | .sign x, s => great s = x
  | .raw _, _ => False
noncomputable def folOk (q : TK) (y : List Nat) : Prop := match q with
  | .text _ => True
  | .sign x => SFol x y
  | .raw _ => True
  | _ => Fol y
theorem folOk_nil (q : TK) : folOk q [] := by
  cases q <;> simp [folOk, SFol, Fol]
theorem folOk_blank (q : TK) (y : List Nat) : folOk q (32 :: y) := by
  have h1 : Fol (32 :: y) := fun c hc => by cases hc; decide
  have h2 : ∀ x, SFol x (32 :: y) := fun x c hc => by cases hc; exact ⟨by decide, fun _ => by decide⟩
  cases q
  · exact h1
  · exact h1
  · exact h1
  · exact trivial
  · exact trivial
  · exact h2 _
theorem num_tab : ∀ n ∈ NMS, ∀ s ∈ [dec n, 48 :: dec n], 0 < s.length ∧ nth (great s) 0 ∈ DG ∧ nth s 0 ∉ BL ∧ okIs (readNumber s 0) (n, s.length) = true ∧ nth s 0 < 128 ∧ nth s 0 ∉ [61, 62] := by decide +kernel
theorem word_tab : ∀ x ∈ LWD, 0 < x.length ∧ (nth x 0 ≠ 34 ∧ nth x 0 ∉ DG ∧ nth x 0 ∉ [63, 39]) ∧ nth x 0 ∈ LT ∧ wordAt x 0 = x ∧ x ≠ wREM ∧ x ≠ wDATA := by decide +kernel
theorem name_tab : ∀ x ∈ LNM, 0 < x.length ∧ (nth x 0 ≠ 34 ∧ nth x 0 ∉ DG ∧ nth x 0 ∉ [63, 39] ∧ nth x 0 ∈ LT) ∧ wordAt x 0 = [] ∧ readName x 0 = (x, x.length) := by decide +kernel
theorem text_tab : ∀ x ∈ LTX, 34 ∉ x := by decide +kernel
theorem lt_gs (c : Nat) (h : gs c ∈ LT) : c ∉ BL ∧ c < 128 ∧ c ∉ [61, 62] := by
  have h1 : ∀ c ∈ LT, c < 91 ∧ 65 ≤ c := by decide
  have h2 := h1 _ h
  unfold gs at h2
  have : 65 ≤ c ∧ c < 123 := by split at h2 <;> (first | lia | omega)
  refine ⟨fun q => ?_, by (first | lia | omega), fun q => ?_⟩
  · have : ∀ c ∈ BL, c < 65 := by decide
    have := this c q; (first | lia | omega)
  · have : ∀ c ∈ [61, 62], c < 65 := by decide
    have := this c q; (first | lia | omega)
theorem sg_gs (c : Nat) (h : gs c ∈ SGN.flatten) : c ∉ BL ∧ c ∈ SGN.flatten := by
  have h1 : ∀ c ∈ SGN.flatten, c < 65 ∨ 90 < c := by decide
  have h2 := h1 _ h
  have h3 : gs c = c := by unfold gs at h2 ⊢; split at h2 <;> split <;> (first | lia | omega)
  rw [h3] at h
  refine ⟨fun q => ?_, h⟩
  have : ∀ c ∈ BL, c ∉ SGN.flatten := by decide
  exact this c q h
theorem great_nth {s x : List Nat} (h : great s = x) (h0 : 0 < x.length) : gs (nth s 0) = nth x 0 ∧ 0 < s.length := by
  subst h
  cases s with
  | nil => cases h0
  | cons a r => exact ⟨rfl, by simp⟩
theorem sgn_pos : ∀ x ∈ SGN, 0 < x.length ∧ nth x 0 ∈ SGN.flatten := by decide
/-- how a spelling begins -/
noncomputable def Hd (t : TK) (s : List Nat) : Prop := 0 < s.length ∧ match t with
  | .sign _ => nth s 0 ∈ SGN.flatten
  | .text _ => nth s 0 = 34
  | _ => nth s 0 < 128 ∧ nth s 0 ∉ [61, 62]
theorem sp_read {t : TK} {s y : List Nat} (hn : N t) (hs : Sp t s) (hy : folOk t y) : (nth s 0 ∉ BL ∧ 0 < s.length ∧ readToken (s ++ y) (great (s ++ y)) 0 = .ok ([t], s.length)) ∧ Hd t s := by
  cases t with
  | num n =>
    have hm : s ∈ [dec n, 48 :: dec n] := by
      rcases hs with rfl | rfl
      · exact .head _
      · exact .tail _ (.head _)
    refine nn fun nG => ?_
    obtain ⟨h0, hd, hb, hr, hh⟩ := num_tab n hn s hm
    refine nG ?_
    clear nG
    exact ⟨⟨hb, h0, rt_num h0 hd (okIs_eq hr) hy⟩, h0, hh⟩
  | word x =>
    refine nn fun nG => ?_
    obtain ⟨h0, hx, hl, hw, hr, hd⟩ := word_tab x hn
    refine nG ?_
    clear nG
    rcases hs with hs | ⟨rfl, rfl⟩
    · obtain ⟨hg, hp⟩ := great_nth hs h0
      have := lt_gs _ (hg ▸ hl)
      exact ⟨⟨this.1, hp, rt_word hs hp hx hw hr hd hy⟩, hp, this.2⟩
    · exact ⟨⟨by decide, by decide, rt_ask⟩, by decide, by decide⟩
  | name x =>
    refine nn fun nG => ?_
    obtain ⟨h0, hx, hw, hr⟩ := name_tab x hn
    obtain ⟨hg, hp⟩ := great_nth hs h0
    refine nG ?_
    clear nG
    have := lt_gs _ (hg ▸ hx.2.2.2)
    exact ⟨⟨this.1, hp, rt_name hs hp hx hw hr hy⟩, hp, this.2⟩
  | text x =>
    have hs : s = 34 :: (x ++ [34]) := hs
    subst hs
    exact ⟨⟨by show (34 : Nat) ∉ BL; decide, by simp, rt_text (text_tab x hn)⟩, by simp, rfl⟩
  | sign x =>
    refine nn fun nG => ?_
    obtain ⟨h0, hf⟩ := sgn_pos x hn
    obtain ⟨hg, hp⟩ := great_nth hs h0
    refine nG ?_
    clear nG
    have := sg_gs _ (hg ▸ hf)
    exact ⟨⟨this.1, hp, rt_sign hs hn hy⟩, hp, this.2⟩
  | raw x => exact hn.elim
theorem bb_first {s y : List Nat} (h : nth s 0 ∉ BL) (h0 : 0 < s.length) : bb (s ++ y) 0 = 0 := by
  unfold bb
  refine adv_stop (.inr ?_)
  rw [nth_app h0]; exact decide_eq_false h
theorem sgn_fol : ∀ c ∈ SGN.flatten, c ∈ FOL := fun c h => .tail _ (.tail _ h)
theorem sgn_lt : ∀ c ∈ SGN.flatten, c < 128 := by decide
theorem head_nth {s y : List Nat} {c : Nat} (h0 : 0 < s.length) (h : (s ++ y).head? = some c) : c = nth s 0 := by
  cases s with
  | nil => cases h0
  | cons a r => exact (Option.some.inj h).symm
/-- nothing but a sign and no sign may touch -/
theorem folOk_touch {q t : TK} {s y : List Nat} (hh : Hd t s) (hp : sure (some q) t = false) : folOk q (s ++ y) := by
  have hf : ∀ t', Hd t' s → t'.kind = cs "text" → Fol (s ++ y) ∧ ∀ x, SFol x (s ++ y) := by
    intro t' h ht
    cases t' <;> simp only [TK.kind] at ht <;> try exact absurd ht (by decide)
    have h2 : nth s 0 = 34 := h.2
    refine ⟨fun c hc => ?_, fun x c hc => ?_⟩
    · rw [head_nth h.1 hc, h2]; decide
    · rw [head_nth h.1 hc, h2]; exact ⟨by decide, fun _ => by decide⟩
  have hg : ∀ t', Hd t' s → t'.kind = cs "sign" → Fol (s ++ y) := by
    intro t' h ht
    cases t' <;> simp only [TK.kind] at ht <;> try exact absurd ht (by decide)
    intro c hc
    rw [head_nth h.1 hc]; exact sgn_fol _ h.2
  cases t with
  | text x =>
    obtain ⟨h1, h2⟩ := hf _ hh rfl
    cases q <;> first | exact h1 | exact trivial | exact h2 _
  | sign x =>
    have h1 := hg _ hh rfl
    cases q with
    | sign z => exact absurd hp (by revert hp; simp only [sure, TK.kind]; decide)
    | text z => trivial
    | raw z => trivial
    | _ => exact h1
  | _ =>
    cases q with
    | text z => trivial
    | raw z => trivial
    | sign z =>
      intro c hc
      rw [head_nth hh.1 hc]
      exact ⟨hh.2.1, fun _ => hh.2.2⟩
    | _ => exact absurd hp (by revert hp; simp only [sure, TK.kind]; decide)
/-! ## the text that is typed, from the left -/
noncomputable def TS.p (s : TS) (t : TK) : Bool × Bx := if sure s.ahead t = true then (true, s.b) else (decide ((s.b.take 3).1 = 0), (s.b.take 3).2)
noncomputable def TS.add (s : TS) (t : TK) : List Nat := (if (s.p t).1 = true then [32] else []) ++ (typed (s.p t).2 t (s.isData || decide (t = .word (cs "DATA")))).1
theorem step_found (s : TS) (t : TK) : (s.step t).found = s.found ++ s.add t := by
  unfold TS.step TS.add
  show (if (s.p t).1 = true then s.found ++ [32] else s.found) ++ (typed (s.p t).2 t (s.isData || decide (t = .word (cs "DATA")))).1 = _
  split <;> simp
noncomputable def fin (a : Option TK) : List Nat := match a with | some (.raw _) => [] | _ => [32]
noncomputable def sd : TS → List TK → List Nat
  | s, [] => fin s.ahead
  | s, t :: ts => s.add t ++ sd (s.step t) ts
theorem done_sd : ∀ (ts : List TK) (s : TS), (ts.foldl TS.step s).done = s.found ++ sd s ts
  | [], s => rfl
  | t :: ts, s => by
    rw [List.foldl_cons, done_sd ts, step_found]
    show _ = _ ++ (_ ++ _)
    rw [List.append_assoc]
theorem lowAll_map {x : List Nat} (g : Nat → Nat) (h : ∀ c ∈ x, (low c).map g = [c] ∧ g c = c) (b : Bx) : (lowAll x b).1.flatten.map g = x := by
  have key : ∀ (x : List Nat) (p : List (List Nat) × Bx), (∀ c ∈ x, (low c).map g = [c] ∧ g c = c) → (x.foldl lowStep p).1.flatten.map g = p.1.flatten.map g ++ x := by
    intro x
    induction x with
    | nil => intro p _; simp
    | cons c r ih =>
      intro p h
      rw [List.foldl_cons, ih _ fun d m => h d (.tail _ m)]
      obtain ⟨h1, h2⟩ := h c (.head _)
      unfold lowStep
      dsimp only
      rw [List.flatten_append, List.map_append, List.append_assoc]
      congr 1
      split
      · simp [h1]
      · simp [h2]
  have := key x ([], b) h
  exact this
noncomputable def UPC : List Nat := LT ++ DG ++ 36 :: SGN.flatten
theorem low_gs : ∀ c ∈ UPC, (low c).map gs = [c] ∧ gs c = c := by decide +kernel
theorem upc_tab : (∀ x ∈ WRD, ∀ c ∈ x, c ∈ UPC) ∧ (∀ x ∈ LNM, ∀ c ∈ x, c ∈ UPC) ∧ (∀ x ∈ SGN, ∀ c ∈ x, c ∈ UPC) ∧ (∀ x ∈ LWD, x ∈ WRD) := by decide +kernel
theorem typedStr_sp {x : List Nat} (b : Bx) (h : ∀ c ∈ x, c ∈ UPC) : great (typedStr x b).1 = x ∨ (x = wPRINT ∧ (typedStr x b).1 = [63]) ∨ (x = wREM ∧ (typedStr x b).1 = [39]) := by
  have hl : ∀ b, great (lowAll x b).1.flatten = x := fun b => lowAll_map gs (fun c m => low_gs c (h c m)) b
  unfold typedStr
  by_cases h1 : x = cs "PRINT"
  · rw [if_pos h1]
    split
    · exact .inr (.inl ⟨h1, by show cs "?" = _; decide⟩)
    · exact .inl (hl _)
  · rw [if_neg h1]
    by_cases h2 : x = cs "REM"
    · rw [if_pos h2]
      split
      · exact .inr (.inr ⟨h2, by show cs "'" = _; decide⟩)
      · exact .inl (hl _)
    · rw [if_neg h2]; exact .inl (hl _)
theorem name_np : ∀ x ∈ LNM, x ≠ wPRINT ∧ x ≠ wREM := by decide
theorem sgn_np : ∀ x ∈ SGN, x ≠ wPRINT ∧ x ≠ wREM := by decide
theorem lwd_nr : ∀ x ∈ LWD, x ≠ wREM := by decide
theorem zero_cs : cs "0" = [48] := by decide
theorem typed_sp {t : TK} (hn : N t) (b : Bx) (d : Bool) : Sp t (typed b t d).1 := by
  refine nn fun nG => ?_
  obtain ⟨u1, u2, u3, u4⟩ := upc_tab
  refine nG ?_
  clear nG
  cases t with
  | num n =>
    unfold typed Sp
    dsimp only
    rw [zero_cs]
    generalize hk : (b.take 2).1 = k
    have := b.take_lt (m := 2) (nb rfl)
    rw [hk] at this
    match k with
    | 0 => exact .inl rfl
    | 1 => exact .inr rfl
    | n + 2 => (first | lia | omega)
  | word x =>
    rcases typedStr_sp (x := x) b (u1 x (u4 x hn)) with h | h | h
    · exact .inl h
    · exact .inr h
    · exact absurd h.1 (lwd_nr x hn)
  | name x =>
    rcases typedStr_sp (x := x) b (u2 x hn) with h | h | h
    · exact h
    · exact absurd h.1 (name_np x hn).1
    · exact absurd h.1 (name_np x hn).2
  | sign x =>
    rcases typedStr_sp (x := x) b (u3 x hn) with h | h | h
    · exact h
    · exact absurd h.1 (sgn_np x hn).1
    · exact absurd h.1 (sgn_np x hn).2
  | text x => exact rfl
  | raw x => exact hn.elim
theorem N_nd {t : TK} (h : N t) : t ≠ .word (cs "DATA") := by
  rintro rfl
  exact absurd h (by show ¬ cs "DATA" ∈ LWD; decide)
/-- what the end of the text must give -/
noncomputable def Ends (es : List TK) (z : List Nat) (f : List TK → Re (List TK)) : Prop := ∀ s : TS, s.isData = false → (∀ q, s.ahead = some q → N q) →
  Lexes (sd s es ++ z) f ∧ ∀ q, s.ahead = some q → folOk q (sd s es ++ z)
theorem lex_bl {u y : List Nat} {f} (h : Lexes y f) (hu : u = [] ∨ u = [32]) : Lexes (u ++ y) f := by
  rcases hu with rfl | rfl
  · exact h
  · exact lex_blank h
theorem p_sure {s : TS} {t : TK} (h : (s.p t).1 = false) : sure s.ahead t = false := by
  unfold TS.p at h
  split at h
  · cases h
  · simpa using ‹¬ sure s.ahead t = true›
theorem ends_go {es : List TK} {z : List Nat} {f} (H : Ends es z f) : ∀ ts : List TK, (∀ t ∈ ts, N t) → Ends (ts ++ es) z (fun acc => f (acc ++ ts))
  | [], _ => fun s h1 h2 => by
    have := H s h1 h2
    simpa using this
  | t :: ts, hN => fun s h1 h2 => by
    have hn := hN t (.head _)
    have ih := ends_go H ts (fun x m => hN x (.tail _ m)) (s.step t) (by show (s.isData || decide (t = .word (cs "DATA"))) = false; rw [h1, decide_eq_false (N_nd hn)]; rfl) (fun q e => by cases e; exact hn)
    obtain ⟨ih1, ih2⟩ := ih
    have e : sd s (t :: ts ++ es) ++ z = (if (s.p t).1 = true then [32] else []) ++ ((typed (s.p t).2 t (s.isData || decide (t = .word (cs "DATA")))).1 ++ (sd (s.step t) (ts ++ es) ++ z)) := by
      show s.add t ++ sd (s.step t) (ts ++ es) ++ z = _
      unfold TS.add
      simp only [List.append_assoc]
    have hsp := typed_sp hn (s.p t).2 (s.isData || decide (t = .word (cs "DATA")))
    rw [e]
    generalize (typed (s.p t).2 t (s.isData || decide (t = .word (cs "DATA")))).1 = sp at *
    refine nn fun nG => ?_
    obtain ⟨⟨r1, r2, r3⟩, hh⟩ := sp_read hn hsp (ih2 t rfl)
    refine nG ?_
    clear nG
    have hx := lex_tok (bb_first r1 r2) r2 r3 ih1
    refine ⟨?_, fun q hq => ?_⟩
    · have e2 : (fun acc => f (acc ++ [t] ++ ts)) = (fun acc => f (acc ++ t :: ts)) := by funext acc; simp
      rw [← e2]
      refine lex_bl hx ?_
      split
      · exact .inr rfl
      · exact .inl rfl
    · cases hp : (s.p t).1 with
      | true => exact folOk_blank _ _
      | false =>
        have := p_sure hp
        rw [hq] at this
        rw [if_neg (by decide), List.nil_append]
        exact folOk_touch hh this
theorem fin_N {a : Option TK} (h : ∀ q, a = some q → N q) : fin a = [32] := by
  cases a with
  | none => rfl
  | some q => cases q <;> first | rfl | exact (h _ rfl).elim
theorem ends_nil {z : List Nat} {f} (h : Lexes z f) : Ends [] z f := fun s _ h2 => by
  rw [show sd s [] = [32] from fin_N h2]
  exact ⟨lex_blank h, fun q _ => folOk_blank _ _⟩
end Mine
end

section
set_option maxHeartbeats 1000000
open PySem PySem.W PyProof.Rows PySem.Spec PySem.Calls PySem.SeqAt
set_option Elab.async false
set_option linter.unusedVariables false
set_option linter.unusedSimpArgs false
set_option maxRecDepth 100000
namespace Mine
/-! ## the ends: REM and DATA -/
theorem rem_hd {s : List Nat} (h : great s = wREM ∨ s = [39]) : nth s 0 ∉ BL ∧ Hd (.word wREM) s := by
  rcases h with h | rfl
  · obtain ⟨hg, hp⟩ := great_nth h (by decide)
    have := lt_gs (nth s 0) (by rw [hg]; decide)
    exact ⟨this.1, hp, this.2⟩
  · exact ⟨by decide, by decide, by decide⟩
theorem data_hd {s : List Nat} (h : great s = wDATA) : nth s 0 ∉ BL ∧ Hd (.word wDATA) s := by
  obtain ⟨hg, hp⟩ := great_nth h (by decide)
  have := lt_gs (nth s 0) (by rw [hg]; decide)
  exact ⟨this.1, hp, this.2⟩
/-- a last word, REM or DATA, ahead of what it takes -/
theorem ends_word {s : TS} {t : TK} {sp rest : List Nat} {es : List TK} (hb : nth sp 0 ∉ BL) (hh : Hd t sp)
    (hr : readToken (sp ++ rest) (great (sp ++ rest)) 0 = .ok (es, (sp ++ rest).length)) :
    Lexes ((if (s.p t).1 = true then [32] else []) ++ (sp ++ rest)) (fun acc => .ok (acc ++ es)) ∧ ∀ q, s.ahead = some q → folOk q ((if (s.p t).1 = true then [32] else []) ++ (sp ++ rest)) := by
  refine ⟨lex_bl (lex_last (bb_first hb hh.1) (by rw [List.length_append]; have := hh.1; (first | lia | omega)) hr) ?_, fun q hq => ?_⟩
  · split
    · exact .inr rfl
    · exact .inl rfl
  · cases hp : (s.p t).1 with
    | true => exact folOk_blank _ _
    | false =>
      have := p_sure hp
      rw [hq] at this
      rw [if_neg (by decide), List.nil_append]
      exact folOk_touch hh this
theorem rem_up : (∀ c ∈ wREM, c ∈ UPC) ∧ (∀ c ∈ wDATA, c ∈ UPC) := by decide
theorem lrm_tab : ∀ r ∈ LRM, (32 :: r).drop (bb (32 :: r) 0) = r ∧ r.drop (bb r 0) = r := by decide +kernel
theorem fol_32 (y : List Nat) : Fol (32 :: y) := fun c hc => by cases hc; decide
theorem ends_rem {r : List Nat} (hr : r ∈ LRM) : Ends [.word wREM, .raw r] [] (fun acc => .ok (acc ++ [.word wREM, .raw r])) := fun s h1 h2 => by
  have hsp : great (typedStr wREM (s.p (.word wREM)).2).1 = wREM ∨ (typedStr wREM (s.p (.word wREM)).2).1 = [39] := by
    rcases typedStr_sp (s.p (.word wREM)).2 rem_up.1 with h | h | h
    · exact .inl h
    · exact absurd h.1 (by decide)
    · exact .inr h.2
  have e : sd s [.word wREM, .raw r] ++ [] = (if (s.p (.word wREM)).1 = true then [32] else []) ++ ((typedStr wREM (s.p (.word wREM)).2).1 ++ 32 :: r) := by
    have e1 : (s.step (.word wREM)).add (.raw r) = 32 :: r := by
      have hd : (s.step (.word wREM)).isData = false := by show (s.isData || decide ((TK.word wREM) = .word (cs "DATA"))) = false; rw [h1]; decide
      have hp : (s.step (.word wREM)).p (.raw r) = (true, (s.step (.word wREM)).b) := by
        unfold TS.p
        rw [if_pos (show sure (s.step (.word wREM)).ahead (.raw r) = true by show sure (some (.word wREM)) (.raw r) = true; simp only [sure, TK.kind]; decide)]
      unfold TS.add
      rw [hp, hd]
      have : (decide ((TK.raw r) = .word (cs "DATA"))) = false := by simp
      rw [this]
      unfold typed
      rfl
    show s.add (.word wREM) ++ ((s.step (.word wREM)).add (.raw r) ++ []) ++ [] = _
    rw [e1]
    unfold TS.add typed
    simp
  rw [e]
  generalize (typedStr wREM (s.p (.word wREM)).2).1 = sp at *
  obtain ⟨hb, hh⟩ := rem_hd hsp
  refine ends_word hb hh ?_
  rcases hsp with h | rfl
  · rw [rt_rem h (fol_32 r), (lrm_tab r hr).1]
  · rw [rt_rem1, (lrm_tab r hr).1]
noncomputable def dataTail : List (List Nat) → List TK
  | [] => []
  | r :: rs => .sign [44] :: .raw r :: dataTail rs
theorem typed_form {r : List Nat} (b : Bx) : (typed b (.raw r) true).1 ∈ formsOf r := by
  unfold typed formsOf
  dsimp only
  rw [if_neg (show ¬ (true = false) by decide)]
  by_cases h : isPl r = true
  · rw [if_pos h, if_pos h]
    split
    · exact .tail _ (.head _)
    · exact .head _
  · rw [if_neg h, if_neg h]; exact .head _
theorem if_bl (c : Bool) : (if c = true then [32] else []) ∈ [([] : List Nat), [32]] := by cases c <;> decide
theorem comma_typed (b : Bx) (d : Bool) : (typed b (.sign [44]) d).1 = [44] := by
  have h : great (lowAll [44] b).1.flatten = [44] := lowAll_map gs (fun c m => low_gs c (by revert m c; decide)) b
  have h1 : (lowAll [44] b).1.flatten = [44] := by
    have : (lowAll [44] b).1.flatten.map id = [44] := lowAll_map id (fun c m => by have : c = 44 := List.mem_singleton.mp m
                                                                                   subst this; exact by decide +kernel) b
    rw [List.map_id] at this
    exact this
  show (typedStr [44] b).1 = _
  unfold typedStr
  rw [if_neg (by decide), if_neg (by decide)]
  exact h1
theorem tail_go : ∀ (rs : List (List Nat)), (∀ r ∈ rs, r ∈ LIT) → ∀ s : TS, s.isData = true → (∃ r, s.ahead = some (.raw r)) →
    ∃ tr ∈ [([] : List Nat), [32]], ∃ ps, sd s (dataTail rs) = tr ++ itemsY ps ∧ itemsT ps = dataTail rs ∧ ∀ p ∈ ps, ItemZ p.1 p.2
  | [], _, s, _, ⟨r, hr⟩ => ⟨[], .head _, [], by show fin s.ahead = _; rw [hr]; rfl, rfl, fun _ m => by cases m⟩
  | r :: rs, h, s, hd, ⟨r', hr⟩ => by
    have hd1 : (s.step (.sign [44])).isData = true := by show (s.isData || _) = true; rw [hd]; rfl
    have hd2 : ((s.step (.sign [44])).step (.raw r)).isData = true := by show ((s.step (.sign [44])).isData || _) = true; rw [hd1]; rfl
    refine nn fun nG => ?_
    obtain ⟨tr, htr, ps, e1, e2, e3⟩ := tail_go rs (fun x m => h x (.tail _ m)) ((s.step (.sign [44])).step (.raw r)) hd2 ⟨r, rfl⟩
    refine nG ?_
    clear nG
    refine ⟨if (s.p (.sign [44])).1 = true then [32] else [], if_bl _, (r, (if ((s.step (.sign [44])).p (.raw r)).1 = true then [32] else []) ++ (typed ((s.step (.sign [44])).p (.raw r)).2 (.raw r) true).1 ++ tr) :: ps, ?_, ?_, ?_⟩
    · show s.add (.sign [44]) ++ ((s.step (.sign [44])).add (.raw r) ++ sd _ (dataTail rs)) = _
      rw [e1]
      rw [show ∀ p ps, itemsY (p :: ps) = 44 :: (p.2 ++ itemsY ps) from fun _ _ => rfl]
      unfold TS.add
      rw [comma_typed, hd1]
      simp
    · show TK.sign [44] :: .raw r :: itemsT ps = _
      rw [e2]; rfl
    · intro p hp
      rcases List.mem_cons.mp hp with rfl | hp
      · exact item_z (h r (.head _)) (typed_form _) (if_bl _) htr
      · exact e3 p hp
theorem ends_data {r : List Nat} {rs : List (List Nat)} (hr : r ∈ LIT) (hrs : ∀ r ∈ rs, r ∈ LIT) : Ends (.word wDATA :: .raw r :: dataTail rs) [] (fun acc => .ok (acc ++ .word wDATA :: .raw r :: dataTail rs)) := fun s h1 h2 => by
  have hsp : great (typedStr wDATA (s.p (.word wDATA)).2).1 = wDATA := by
    rcases typedStr_sp (s.p (.word wDATA)).2 rem_up.2 with h | h | h
    · exact h
    · exact absurd h.1 (by decide)
    · exact absurd h.1 (by decide)
  have hd1 : (s.step (.word wDATA)).isData = true := by show (s.isData || decide ((TK.word wDATA) = .word (cs "DATA"))) = true; rw [h1]; decide
  have hd2 : ((s.step (.word wDATA)).step (.raw r)).isData = true := by show ((s.step (.word wDATA)).isData || _) = true; rw [hd1]; rfl
  refine nn fun nG => ?_
  obtain ⟨tr, htr, ps, e1, e2, e3⟩ := tail_go rs hrs ((s.step (.word wDATA)).step (.raw r)) hd2 ⟨r, rfl⟩
  refine nG ?_
  clear nG
  have hp : (s.step (.word wDATA)).p (.raw r) = (true, (s.step (.word wDATA)).b) := by
    unfold TS.p
    rw [if_pos (show sure (s.step (.word wDATA)).ahead (.raw r) = true by show sure (some (.word wDATA)) (.raw r) = true; simp only [sure, TK.kind]; decide)]
  have hf := typed_form (r := r) (s.step (.word wDATA)).b
  have e : sd s (.word wDATA :: .raw r :: dataTail rs) ++ [] = (if (s.p (.word wDATA)).1 = true then [32] else []) ++ ((typedStr wDATA (s.p (.word wDATA)).2).1 ++ ([32] ++ (typed (s.step (.word wDATA)).b (.raw r) true).1 ++ tr ++ itemsY ps)) := by
    show s.add (.word wDATA) ++ ((s.step (.word wDATA)).add (.raw r) ++ sd _ (dataTail rs)) ++ [] = _
    rw [e1]
    have : (s.step (.word wDATA)).add (.raw r) = [32] ++ (typed (s.step (.word wDATA)).b (.raw r) true).1 := by
      unfold TS.add
      rw [hp, hd1]; rfl
    rw [this]
    have h3 : s.add (.word wDATA) = (if (s.p (.word wDATA)).1 = true then [32] else []) ++ (typedStr wDATA (s.p (.word wDATA)).2).1 := rfl
    rw [h3]
    simp only [List.append_assoc, List.append_nil]
  rw [e]
  generalize (typedStr wDATA (s.p (.word wDATA)).2).1 = sp at *
  generalize (typed (s.step (.word wDATA)).b (.raw r) true).1 = fm at *
  obtain ⟨hb, hh⟩ := data_hd hsp
  refine ends_word hb hh ?_
  have hi := readItems_Y (item_z hr hf (.tail _ (.head _)) htr) e3
  refine (rt_data hsp (show Fol ([32] ++ fm ++ tr ++ itemsY ps) from fol_32 _) hi).trans ?_
  rw [e2]
/-! ## what is drawn -/
theorem getD_mem {α : Type} {l : List α} {k : Nat} {d : α} (h : k < l.length) : l.getD k d ∈ l := by
  rw [List.getD_eq_getElem?_getD, List.getElem?_eq_getElem h]; exact List.getElem_mem h
theorem drawToken_N (b : Bx) : N (drawToken b).1 := by
  unfold drawToken
  dsimp only
  repeat' split
  · exact getD_mem (by rw [show NMS.length = 7 from rfl]; exact Bx.take_lt _ (nb rfl))
  · exact getD_mem (by rw [show LWD.length = 26 by decide]; exact Bx.take_lt _ (nb rfl))
  · exact getD_mem (by rw [show LNM.length = 6 by decide]; exact Bx.take_lt _ (nb rfl))
  · exact getD_mem (by rw [show LTX.length = 5 by decide]; exact Bx.take_lt _ (nb rfl))
  · exact getD_mem (by rw [show SGN.length = 17 by decide]; exact Bx.take_lt _ (nb rfl))
/-- the three ends -/
inductive IsEnd : List TK → Prop
  | none : IsEnd []
  | rem {r} (h : r ∈ LRM) : IsEnd [.word wREM, .raw r]
  | data {r rs} (h : r ∈ LIT) (hs : ∀ r ∈ rs, r ∈ LIT) (hl : rs.length ≤ 2) : IsEnd (.word wDATA :: .raw r :: dataTail rs)
theorem dataTail_snoc : ∀ rs r, dataTail (rs ++ [r]) = dataTail rs ++ [.sign [44], .raw r]
  | [], r => rfl
  | a :: rs, r => by
    show TK.sign [44] :: .raw a :: dataTail (rs ++ [r]) = _
    rw [dataTail_snoc rs r]; rfl
theorem comma_cs : cs "," = [44] := by decide
theorem drawItems_end (p : Bx) : ∀ m, ∃ r rs, r ∈ LIT ∧ (∀ r ∈ rs, r ∈ LIT) ∧ rs.length = m ∧ (drawItems ([.word (cs "DATA")], p) (m + 1)).1 = .word wDATA :: .raw r :: dataTail rs
  | 0 => by
    refine ⟨LIT.getD (p.take 7).1 [], [], getD_mem (by rw [show LIT.length = 7 by decide]; exact Bx.take_lt _ (nb rfl)), fun _ m => (by cases m), rfl, ?_⟩
    simp [drawItems, drawItem, dataTail]
  | m + 1 => by
    refine nn fun nG => ?_
    obtain ⟨r, rs, h1, h2, h3, h4⟩ := drawItems_end p m
    refine nG ?_
    clear nG
    have e : drawItems ([.word (cs "DATA")], p) (m + 1 + 1) = drawItem (m + 1) (drawItems ([.word (cs "DATA")], p) (m + 1)) := rfl
    rw [e]
    generalize drawItems ([.word (cs "DATA")], p) (m + 1) = q at *
    have hm : LIT.getD (q.2.take 7).1 [] ∈ LIT := getD_mem (by rw [show LIT.length = 7 by decide]; exact Bx.take_lt _ (nb rfl))
    refine ⟨r, rs ++ [LIT.getD (q.2.take 7).1 []], h1, fun x hx => ?_, by simp [h3], ?_⟩
    · rcases List.mem_append.mp hx with hx | hx
      · exact h2 x hx
      · rw [List.mem_singleton.mp hx]; exact hm
    · rw [dataTail_snoc]
      unfold drawItem
      dsimp only
      rw [h4, if_pos (by exact nb rfl), comma_cs]
      simp
theorem drawEnd_end (b : Bx) : IsEnd (drawEnd b).1 := by
  unfold drawEnd
  dsimp only
  split
  · exact .rem (getD_mem (by rw [show LRM.length = 3 by decide]; exact Bx.take_lt _ (nb rfl)))
  split
  · exact .none
  · refine nn fun nG => ?_
    obtain ⟨r, rs, h1, h2, h3, h4⟩ := drawItems_end ((b.take 4).2.take 3).2 ((b.take 4).2.take 3).1
    refine nG ?_
    clear nG
    rw [Nat.add_comm 1, h4]
    refine .data h1 h2 ?_
    have := (b.take 4).2.take_lt (m := 3) (nb rfl)
    (first | lia | omega)
theorem ends_of {es : List TK} (h : IsEnd es) : Ends es [] (fun acc => .ok (acc ++ es)) := by
  cases h with
  | none =>
    have := ends_nil (z := []) (f := .ok) (lex_nil fun _ => rfl)
    simpa using this
  | rem h => exact ends_rem h
  | data h hs _ => exact ends_data h hs
/-- the law's first question -/
theorem typed_back {ts es : List TK} (b : Bx) (hN : ∀ t ∈ ts, N t) (he : IsEnd es) : tokensOf (textOfTyped (ts ++ es) b).done = .ok (ts ++ es) := by
  unfold textOfTyped
  rw [done_sd]
  have h := (ends_go (ends_of he) ts hN ⟨List.replicate (b.take 2).1 32, false, none, (b.take 2).2⟩ rfl (fun q e => by cases e)).1
  rw [List.append_nil] at h
  refine (lex_of (f := fun acc => .ok (acc ++ ts ++ es)) ?_).trans (by simp)
  have := b.take_lt (m := 2) (nb rfl)
  refine lex_bl h ?_
  match hk : (b.take 2).1 with
  | 0 => exact .inl rfl
  | 1 => exact .inr rfl
  | n + 2 => (first | lia | omega)
/-- and with a number too great behind it -/
theorem typed_ov {ts : List TK} (b : Bx) (hN : ∀ t ∈ ts, N t) : tokensOf ((textOfTyped ts b).done ++ cs " 65536") = .error OVk := by
  unfold textOfTyped
  rw [done_sd]
  have hz : Lexes (cs " 65536") (fun _ => .error OVk) := by
    have e : cs " 65536" = 32 :: cs "65536" := by decide
    rw [e]
    exact lex_blank (lex_err (e := OVk) (by decide +kernel) (by decide) (errIs_eq (by decide +kernel)) fun _ => rfl)
  have h := (ends_go (ends_nil hz) ts hN ⟨List.replicate (b.take 2).1 32, false, none, (b.take 2).2⟩ rfl (fun q e => by cases e)).1
  rw [List.append_nil] at h
  refine (lex_of (f := fun _ => .error OVk) ?_)
  have := b.take_lt (m := 2) (nb rfl)
  rw [List.append_assoc]
  refine lex_bl h ?_
  match hk : (b.take 2).1 with
  | 0 => exact .inl rfl
  | 1 => exact .inr rfl
  | n + 2 => (first | lia | omega)
end Mine
end

section
set_option maxHeartbeats 1000000
open PySem PySem.W PyProof.Rows PySem.Spec PySem.Calls PySem.SeqAt
set_option Elab.async false
set_option linter.unusedVariables false
set_option linter.unusedSimpArgs false
set_option maxRecDepth 100000
namespace Mine
/-! ## the text that is listed gives the tokens back -/
noncomputable def gd : Option TK → List Nat → List TK → List Nat
  | _, _, [] => []
  | p, a, t :: r => (sepText p [] t ++ tokenText t (aheadOf t a)) ++ gd (some t) (aheadOf t a) r
theorem sepText_app (p : Option TK) (f : List Nat) (t : TK) : sepText p f t = f ++ sepText p [] t := by
  cases p with
  | none => simp [sepText]
  | some q => simp only [sepText]; split <;> simp
theorem textGo_gd : ∀ (ts : List TK) p f a, textGo p f a ts = f ++ gd p a ts
  | [], p, f, a => by simp [textGo, gd]
  | t :: ts, p, f, a => by
    unfold textGo
    rw [textGo_gd ts]
    unfold textStep
    dsimp only
    rw [sepText_app]
    conv => rhs; unfold gd
    simp only [List.append_assoc]
theorem textOf_gd (ts : List TK) : textOf ts = gd none [] ts := by
  unfold textOf; rw [textGo_gd]; rfl
theorem great_id {x : List Nat} (h : ∀ c ∈ x, c ∈ UPC) : great x = x := by
  unfold great
  have : x.map gs = x.map id := List.map_congr_left fun c m => (low_gs c (h c m)).2
  rw [this, List.map_id]
theorem text_sp {t : TK} (hn : N t) (a : List Nat) : Sp t (tokenText t a) := by
  refine nn fun nG => ?_
  obtain ⟨u1, u2, u3, u4⟩ := upc_tab
  refine nG ?_
  clear nG
  cases t with
  | num n => exact .inl rfl
  | word x => exact .inl (great_id (u1 x (u4 x hn)))
  | name x => exact great_id (u2 x hn)
  | sign x => exact great_id (u3 x hn)
  | text x => exact rfl
  | raw x => exact hn.elim
theorem no_open : cs "(" ∉ LWD ∧ cs "(" ∉ LNM ∧ cs "(" ∉ LTX := by decide
theorem sep_mem (p : Option TK) (t : TK) : sepText p [] t = [] ∨ sepText p [] t = [32] := by
  cases p with
  | none => exact .inl rfl
  | some q => simp only [sepText]; split
              · exact .inr rfl
              · exact .inl rfl
theorem flq_str (x y : List Nat) : flq (.str x) (.str y) = (x == y) := by simp [flq]
theorem open_cs : cs "(" = [40] := by decide
/-- what touches without a blank may touch -/
theorem folOk_need {q t : TK} {s y : List Nat} (hq : N q) (hsgn : ∀ x, t = .sign x → s = x) (hh : Hd t s) (hp : needBlank q t = false) : folOk q (s ++ y) := by
  have h128 : ∀ c, (s ++ y).head? = some c → c < 128 := by
    intro c hc
    rw [head_nth hh.1 hc]
    cases t with
    | sign x => exact sgn_lt _ hh.2
    | text x => rw [show nth s 0 = 34 from hh.2]; decide
    | _ => exact hh.2.1
  unfold needBlank at hp
  rw [Bool.and_eq_false_iff] at hp
  rcases hp with hp | hp
  · -- an open bracket
    have hp : flq q.val (.str (cs "(")) = true := by simpa using hp
    cases q with
    | sign x =>
      have hx : x = cs "(" := by
        have : flq (.str x) (.str (cs "(")) = true := hp
        rw [flq_str] at this
        exact eq_of_beq this
      subst hx
      intro c hc
      exact ⟨h128 c hc, fun hm => absurd hm (by decide)⟩
    | num n => exact absurd hp (by show ¬ flq (.int n) (.str (cs "(")) = true; simp [flq])
    | text x => trivial
    | raw x => trivial
    | word x =>
      have : flq (.str x) (.str (cs "(")) = true := hp
      rw [flq_str] at this
      exact absurd (eq_of_beq this ▸ hq) no_open.1
    | name x =>
      have : flq (.str x) (.str (cs "(")) = true := hp
      rw [flq_str] at this
      exact absurd (eq_of_beq this ▸ hq) no_open.2.1
  · rw [Bool.not_eq_false', Bool.and_eq_true] at hp
    obtain ⟨hk, hv⟩ := hp
    cases t <;> simp only [TK.kind] at hk <;> try exact absurd hk (by decide)
    rename_i x
    have hx : x ∈ [cs "(", cs ")", cs ",", cs ";", cs ":"] := by
      simp only [List.any_cons, List.any_nil, Bool.or_false, TK.val, flq_str, Bool.or_eq_true, beq_iff_eq] at hv
      simp only [List.mem_cons, List.not_mem_nil, or_false]
      rcases hv with h | h | h | h | h
      · exact .inl h.symm
      · exact .inr (.inl h.symm)
      · exact .inr (.inr (.inl h.symm))
      · exact .inr (.inr (.inr (.inl h.symm)))
      · exact .inr (.inr (.inr (.inr h.symm)))
    have hs := hsgn x rfl
    subst hs
    have ht : ∀ x ∈ [cs "(", cs ")", cs ",", cs ";", cs ":"], nth x 0 ∈ FOL ∧ nth x 0 ∉ [61, 62] := by decide
    obtain ⟨f1, f2⟩ := ht s hx
    have hF : Fol (s ++ y) := fun c hc => by rw [head_nth hh.1 hc]; exact f1
    cases q with
    | sign z => exact fun c hc => ⟨h128 c hc, fun _ => by rw [head_nth hh.1 hc]; exact f2⟩
    | text z => trivial
    | raw z => trivial
    | num z => exact hF
    | word z => exact hF
    | name z => exact hF
noncomputable def EndB (es : List TK) : Prop := ∀ p a, (∀ q, p = some q → N q) → Lexes (gd p a es) (fun acc => .ok (acc ++ es)) ∧ ∀ q, p = some q → folOk q (gd p a es)
theorem sep_false {q t : TK} (h : sepText (some q) [] t = []) : needBlank q t = false ∨ t = .raw [] := by
  simp only [sepText] at h
  split at h
  · cases h
  · rename_i h2
    by_cases h3 : t = .raw []
    · exact .inr h3
    · refine .inl ?_
      cases h4 : needBlank q t with
      | false => rfl
      | true => exact absurd ⟨h4, h3⟩ h2
theorem endB_go {es : List TK} (H : EndB es) : ∀ ts : List TK, (∀ t ∈ ts, N t) → EndB (ts ++ es)
  | [], _ => H
  | t :: ts, hN => fun p a hp => by
    have hn := hN t (.head _)
    obtain ⟨ih1, ih2⟩ := endB_go H ts (fun x m => hN x (.tail _ m)) (some t) (aheadOf t a) (fun q e => by cases e; exact hn)
    have hsp := text_sp hn (aheadOf t a)
    have e : gd p a (t :: ts ++ es) = sepText p [] t ++ (tokenText t (aheadOf t a) ++ gd (some t) (aheadOf t a) (ts ++ es)) := by
      show (sepText p [] t ++ _) ++ gd (some t) (aheadOf t a) (ts ++ es) = _
      rw [List.append_assoc]
    have hs : ∀ x, t = .sign x → tokenText t (aheadOf t a) = x := fun x e => by subst e; rfl
    rw [e]
    generalize tokenText t (aheadOf t a) = sp at *
    refine nn fun nG => ?_
    obtain ⟨⟨r1, r2, r3⟩, hh⟩ := sp_read hn hsp (ih2 t rfl)
    refine nG ?_
    clear nG
    have hx := lex_tok (bb_first r1 r2) r2 r3 ih1
    refine ⟨?_, fun q hq => ?_⟩
    · have e2 : (fun acc : List TK => (.ok (acc ++ [t] ++ (ts ++ es)) : Re (List TK))) = (fun acc => .ok (acc ++ (t :: ts ++ es))) := by funext acc; simp
      rw [← e2]
      exact lex_bl hx (sep_mem p t)
    · subst hq
      rcases sep_mem (some q) t with h | h
      · rw [h, List.nil_append]
        rcases sep_false h with h | h
        · exact folOk_need (hp q rfl) hs hh h
        · subst h; exact hn.elim
      · rw [h]; exact folOk_blank _ _
theorem endB_word {p : Option TK} {t : TK} {sp rest : List Nat} {es : List TK} (ht : ∀ x, t ≠ .sign x) (ht2 : t ≠ .raw []) (hp : ∀ q, p = some q → N q) (hb : nth sp 0 ∉ BL) (hh : Hd t sp)
    (hr : readToken (sp ++ rest) (great (sp ++ rest)) 0 = .ok (es, (sp ++ rest).length)) :
    Lexes (sepText p [] t ++ (sp ++ rest)) (fun acc => .ok (acc ++ es)) ∧ ∀ q, p = some q → folOk q (sepText p [] t ++ (sp ++ rest)) := by
  refine ⟨lex_bl (lex_last (bb_first hb hh.1) (by rw [List.length_append]; have := hh.1; (first | lia | omega)) hr) (sep_mem p t), fun q hq => ?_⟩
  subst hq
  rcases sep_mem (some q) t with h | h
  · rw [h, List.nil_append]
    rcases sep_false h with h | h
    · exact folOk_need (hp q rfl) (fun x e => absurd e (ht x)) hh h
    · exact absurd h ht2
  · rw [h]; exact folOk_blank _ _
theorem sep_raw {q : TK} {r : List Nat} (h : needBlank q (.raw r) = true) : sepText (some q) [] (.raw r) = if r = [] then [] else [32] := by
  by_cases hr : r = []
  · subst hr
    rw [if_pos rfl, sepText_no]
    exact fun z => z.2 rfl
  · rw [if_neg hr, sepText_yes _ h]
    · rfl
    · intro e; cases e; exact hr rfl
theorem nb_word {x r : List Nat} (h : x ≠ cs "(") : needBlank (.word x) (.raw r) = true := by
  unfold needBlank
  rw [show (TK.raw r).kind = cs "raw" from rfl, show (cs "raw" == cs "sign") = false by decide, Bool.false_and]
  show (!(flq (.str x) (.str (cs "("))) && !false) = true
  rw [flq_str]; simp [h]
theorem nb_comma (r : List Nat) : needBlank (.sign [44]) (.raw r) = true := by
  unfold needBlank
  rw [show (TK.raw r).kind = cs "raw" from rfl, show (cs "raw" == cs "sign") = false by decide, Bool.false_and]
  show (!(flq (.str [44]) (.str (cs "("))) && !false) = true
  rw [flq_str]; decide
theorem raw_comma (r : List Nat) : sepText (some (.raw r)) [] (.sign [44]) = [] := by
  refine sepText_no [] (fun z => ?_)
  have := z.1
  unfold needBlank at this
  rw [Bool.and_eq_true] at this
  have := this.2
  rw [show (TK.sign [44]).kind = cs "sign" from rfl, show (TK.sign [44]).val = .str [44] from rfl] at this
  revert this
  simp only [List.any_cons, List.any_nil, flq_str]
  decide
theorem endB_rem {r : List Nat} (hr : r ∈ LRM) : EndB [.word wREM, .raw r] := fun p a hp => by
  have e : gd p a [.word wREM, .raw r] = sepText p [] (.word wREM) ++ (wREM ++ ((if r = [] then [] else [32]) ++ r)) := by
    show (sepText p [] (.word wREM) ++ wREM) ++ ((sepText (some (.word wREM)) [] (.raw r) ++ (if wREM = cs "DATA" then itemText r else r)) ++ []) = _
    rw [sep_raw (nb_word (by decide)), if_neg (show ¬ wREM = cs "DATA" by decide)]
    simp only [List.append_assoc, List.append_nil]
  rw [e]
  obtain ⟨hb, hh⟩ := rem_hd (s := wREM) (.inl (by decide))
  refine endB_word (fun x => by simp) (by simp) hp hb hh ?_
  by_cases h : r = []
  · rw [if_pos h]
    subst h
    refine (rt_rem (s := wREM) (y := []) (by decide) (fun c hc => by cases hc)).trans ?_
    rfl
  · rw [if_neg h]
    refine (rt_rem (s := wREM) (by decide) (show Fol ([32] ++ r) from fol_32 r)).trans ?_
    rw [show [32] ++ r = 32 :: r from rfl, (lrm_tab r hr).1]
theorem if_r (r : List Nat) : (if r = [] then [] else [32]) ∈ [([] : List Nat), [32]] := by
  split
  · exact .head _
  · exact .tail _ (.head _)
theorem tailB_go : ∀ (rs : List (List Nat)) (r0 : List Nat), (∀ r ∈ rs, r ∈ LIT) → ∃ ps, gd (some (.raw r0)) wDATA (dataTail rs) = itemsY ps ∧ itemsT ps = dataTail rs ∧ ∀ p ∈ ps, ItemZ p.1 p.2
  | [], _, _ => ⟨[], rfl, rfl, fun _ m => by cases m⟩
  | r :: rs, r0, h => by
    refine nn fun nG => ?_
    obtain ⟨ps, e1, e2, e3⟩ := tailB_go rs r (fun x m => h x (.tail _ m))
    refine nG ?_
    clear nG
    refine ⟨(r, (if r = [] then [] else [32]) ++ itemText r ++ []) :: ps, ?_, ?_, ?_⟩
    · show (sepText (some (.raw r0)) [] (.sign [44]) ++ [44]) ++ ((sepText (some (.sign [44])) [] (.raw r) ++ (if wDATA = cs "DATA" then itemText r else r)) ++ gd (some (.raw r)) wDATA (dataTail rs)) = _
      rw [e1, raw_comma, sep_raw (nb_comma r), if_pos rfl]
      show _ = 44 :: (_ ++ itemsY ps)
      simp only [List.append_assoc, List.append_nil, List.nil_append, List.cons_append]
    · show TK.sign [44] :: .raw r :: itemsT ps = _
      rw [e2]; rfl
    · intro p hp
      rcases List.mem_cons.mp hp with rfl | hp
      · exact item_z (h r (.head _)) (itemText_form r (h r (.head _))) (if_r r) (.head _)
      · exact e3 p hp
theorem endB_data {r : List Nat} {rs : List (List Nat)} (hr : r ∈ LIT) (hrs : ∀ r ∈ rs, r ∈ LIT) : EndB (.word wDATA :: .raw r :: dataTail rs) := fun p a hp => by
  refine nn fun nG => ?_
  obtain ⟨ps, e1, e2, e3⟩ := tailB_go rs r hrs
  refine nG ?_
  clear nG
  have e : gd p a (.word wDATA :: .raw r :: dataTail rs) = sepText p [] (.word wDATA) ++ (wDATA ++ ((if r = [] then [] else [32]) ++ itemText r ++ [] ++ itemsY ps)) := by
    show (sepText p [] (.word wDATA) ++ wDATA) ++ ((sepText (some (.word wDATA)) [] (.raw r) ++ (if wDATA = cs "DATA" then itemText r else r)) ++ gd (some (.raw r)) wDATA (dataTail rs)) = _
    rw [sep_raw (nb_word (by decide)), if_pos rfl, e1]
    simp only [List.append_assoc, List.append_nil]
  rw [e]
  obtain ⟨hb, hh⟩ := data_hd (s := wDATA) (by decide)
  refine endB_word (fun x => by simp) (by simp) hp hb hh ?_
  have hi := readItems_Y (item_z hr (itemText_form r hr) (if_r r) (.head _)) e3
  have hF : Fol ((if r = [] then [] else [32]) ++ itemText r ++ [] ++ itemsY ps) := by
    by_cases h : r = []
    · subst h
      rw [if_pos rfl, show itemText [] = [] by decide]
      intro c hc
      have := itemsY_f44 ps c hc
      subst this; decide
    · rw [if_neg h]; exact fol_32 _
  refine (rt_data (by decide) hF hi).trans ?_
  rw [e2]
theorem endB_of {es : List TK} (h : IsEnd es) : EndB es := by
  cases h with
  | none => exact fun p a _ => ⟨lex_nil fun acc => by simp, fun q _ => folOk_nil q⟩
  | rem h => exact endB_rem h
  | data h hs _ => exact endB_data h hs
/-- the law's second question -/
theorem listed_back {ts es : List TK} (hN : ∀ t ∈ ts, N t) (he : IsEnd es) : tokensOf (textOf (ts ++ es)) = .ok (ts ++ es) := by
  rw [textOf_gd]
  exact lex_of (endB_go (endB_of he) ts hN none [] (fun q e => by cases e)).1
/-! ## the fixed texts -/
noncomputable def BADS : List (List Nat) := (["x = 5 & 3", "DATA \"a\" b", "x = 5 & 3"].map Str.ofString).map cs
theorem bads_sn : ∀ t ∈ BADS, errIs (tokensOf t) SNk = true := by decide +kernel
noncomputable def TYP : List (List Nat) := (["scoretop", "FORI=1TO9STEP2", "ifa1then?b$", "xandy", "gotoon"].map Str.ofString).map cs
noncomputable def DUE : List (List TK) := [
  [.name (cs "SC"), .word (cs "OR"), .name (cs "E"), .word (cs "TO"), .name (cs "P")],
  [.word (cs "FOR"), .name (cs "I"), .sign (cs "="), .num 1, .word (cs "TO"), .num 9, .word (cs "STEP"), .num 2],
  [.word (cs "IF"), .name (cs "A1"), .word (cs "THEN"), .word (cs "PRINT"), .name (cs "B$")],
  [.name (cs "X"), .word (cs "AND"), .name (cs "Y")],
  [.word (cs "GOTO"), .word (cs "ON")]]
theorem typ_due : ∀ p ∈ TYP.zip DUE, okIs (tokensOf p.1) p.2 = true := by decide +kernel
end Mine
end

section
set_option maxHeartbeats 1000000
open PySem PySem.W PyProof.Rows PySem.Spec PySem.Calls PySem.SeqAt
set_option Elab.async false
set_option linter.unusedVariables false
set_option linter.unusedSimpArgs false
set_option maxRecDepth 100000
namespace Mine
/-! ## bounds on what is drawn -/
noncomputable def TK.x : TK → List Nat
  | .num _ => [] | .word x => x | .name x => x | .text x => x | .raw x => x | .sign x => x
/-- what each drawn token is -/
structure Dr (t : TK) : Prop where
  good2 : t.good2
  small : t.small
  asc : ∀ c ∈ tokenText t [], c < 128
  len : t.x.length ≤ 11
  num : ∀ n, t = .num n → n < 65536
theorem nms_tab : ∀ n ∈ NMS, n < 65536 ∧ ∀ c ∈ dec n, c < 128 := by decide +kernel
theorem txt_tab : (∀ x ∈ LNM, x.length ≤ 11 ∧ ∀ c ∈ x, c < 128) ∧ (∀ x ∈ LTX, x.length ≤ 11 ∧ ∀ c ∈ x, c < 128) ∧ (∀ x ∈ LRM, x.length ≤ 11 ∧ ∀ c ∈ x, c < 128) ∧ (∀ x ∈ LIT, x.length ≤ 11 ∧ ∀ c ∈ x, c < 128) ∧ (∀ x ∈ SGN, x.length ≤ 11 ∧ ∀ c ∈ x, c < 128) ∧ (∀ x ∈ WRD, x.length ≤ 11 ∧ ∀ c ∈ x, c < 128) ∧ (∀ x ∈ LWD, x ∈ LWN) := by decide +kernel
theorem dr_raw {x : List Nat} (h1 : x.length ≤ 11) (h2 : ∀ c ∈ x, c < 128) : Dr (.raw x) :=
  ⟨⟨⟨by exact Nat.le_trans (by assumption) (nb rfl), fun c m => by have := h2 c m; (first | lia | omega)⟩, fun y e => by cases e⟩, by show x.length < 2 ^ 12; (first | lia | omega), fun c m => by
    have : tokenText (.raw x) [] = x := by show (if [] = cs "DATA" then itemText x else x) = x; rw [if_neg (by decide)]
    rw [this] at m; exact h2 c m, h1, fun n e => by cases e⟩
theorem dr_word {x : List Nat} (h1 : x ∈ LWN) : Dr (.word x) := by
  refine nn fun nG => ?_
  obtain ⟨_, _, _, _, _, t6, _⟩ := txt_tab
  refine nG ?_
  clear nG
  have hw := LWN_WRD x h1
  exact ⟨⟨hw, fun y e => by cases e; exact h1⟩, by show x.length < 2 ^ 12; have := (t6 x hw).1; (first | lia | omega), (t6 x hw).2, (t6 x hw).1, fun n e => by cases e⟩
theorem dr_sign {x : List Nat} (h1 : x ∈ SGN) : Dr (.sign x) := by
  refine nn fun nG => ?_
  obtain ⟨_, _, _, _, t5, _, _⟩ := txt_tab
  refine nG ?_
  clear nG
  exact ⟨⟨h1, fun y e => by cases e⟩, by show x.length < 2 ^ 12; have := (t5 x h1).1; (first | lia | omega), (t5 x h1).2, (t5 x h1).1, fun n e => by cases e⟩
theorem N.dr {t : TK} (h : N t) : Dr t := by
  refine nn fun nG => ?_
  obtain ⟨t1, t2, t3, t4, t5, t6, t7⟩ := txt_tab
  refine nG ?_
  clear nG
  cases t with
  | num n =>
    obtain ⟨h1, h2⟩ := nms_tab n h
    exact ⟨⟨h1, fun y e => by cases e⟩, h1, h2, by show ([] : List Nat).length ≤ 11; decide, fun m e => by cases e; exact h1⟩
  | word x => exact dr_word (t7 x h)
  | sign x => exact dr_sign h
  | name x =>
    obtain ⟨h1, h2⟩ := t1 x h
    exact ⟨⟨⟨by exact Nat.le_trans (by assumption) (nb rfl), fun c m => by have := h2 c m; (first | lia | omega)⟩, fun y e => by cases e⟩, by show x.length < 2 ^ 12; (first | lia | omega), h2, h1, fun m e => by cases e⟩
  | text x =>
    obtain ⟨h1, h2⟩ := t2 x h
    refine ⟨⟨⟨by exact Nat.le_trans (by assumption) (nb rfl), fun c m => by have := h2 c m; (first | lia | omega)⟩, fun y e => by cases e⟩, by show x.length < 2 ^ 12; (first | lia | omega), fun c m => ?_, h1, fun m e => by cases e⟩
    have m : c ∈ 34 :: (x ++ [34]) := m
    rcases List.mem_cons.mp m with rfl | m
    · decide
    · rcases List.mem_append.mp m with m | m
      · exact h2 c m
      · rw [List.mem_singleton.mp m]; decide
  | raw x => exact h.elim
theorem dataTail_dr : ∀ rs : List (List Nat), (∀ r ∈ rs, r ∈ LIT) → ∀ t ∈ dataTail rs, Dr t
  | [], _, t, m => by cases m
  | r :: rs, h, t, m => by
    refine nn fun nG => ?_
    obtain ⟨_, _, _, t4, _, _, _⟩ := txt_tab
    refine nG ?_
    clear nG
    rcases List.mem_cons.mp m with rfl | m
    · exact dr_sign (by decide)
    rcases List.mem_cons.mp m with rfl | m
    · exact dr_raw (t4 r (h r (.head _))).1 (t4 r (h r (.head _))).2
    · exact dataTail_dr rs (fun x m => h x (.tail _ m)) t m
theorem dataTail_len : ∀ rs : List (List Nat), (dataTail rs).length = 2 * rs.length
  | [] => rfl
  | r :: rs => by
    show (dataTail rs).length + 1 + 1 = 2 * (rs.length + 1)
    rw [dataTail_len rs]; (first | lia | omega)
theorem IsEnd.dr {es : List TK} (h : IsEnd es) : (∀ t ∈ es, Dr t) ∧ es.length ≤ 6 := by
  refine nn fun nG => ?_
  obtain ⟨_, _, t3, t4, _, _, _⟩ := txt_tab
  refine nG ?_
  clear nG
  cases h with
  | none => exact ⟨fun t m => (by cases m), by simp⟩
  | @rem r h =>
    refine ⟨fun t m => ?_, by simp⟩
    rcases List.mem_cons.mp m with rfl | m
    · exact dr_word (by decide)
    · rw [List.mem_singleton.mp m]; exact dr_raw (t3 r h).1 (t3 r h).2
  | @data r rs h hs hl =>
    refine ⟨fun t m => ?_, by simp [dataTail_len]; (first | lia | omega)⟩
    rcases List.mem_cons.mp m with rfl | m
    · exact dr_word (by decide)
    rcases List.mem_cons.mp m with rfl | m
    · exact dr_raw (t4 r h).1 (t4 r h).2
    · exact dataTail_dr rs hs t m
theorem typed_len13 {t : TK} (h : Dr t) (b : Bx) (d : Bool) : (typed b t d).1.length ≤ 13 := by
  have ts : ∀ x : List Nat, x.length ≤ 11 → (∀ c ∈ x, c < 128) → (typedStr x b).1.length ≤ 13 := by
    intro x hx hc
    have h2 : ∀ b, (lowAll x b).1.flatten.length = x.length := fun b => by rw [List.length_flatten]; exact lowAll_sum hc b
    unfold typedStr
    repeat' split
    all_goals first
      | (dsimp only; rw [h2]; (first | lia | omega))
      | (show (cs _).length ≤ 13; decide)
  cases t with
  | num n =>
    have := dec_len (h.num n rfl)
    have h2 : ([[], cs "0"].getD (b.take 2).1 []).length ≤ 1 := by
      generalize (b.take 2).1 = k
      match k with
      | 0 => decide
      | 1 => decide
      | n + 2 => show ([] : List Nat).length ≤ 1; decide
    simp only [typed, List.length_append]; (first | lia | omega)
  | word x => exact ts x h.len h.asc
  | name x => exact ts x h.len h.asc
  | sign x => exact ts x h.len h.asc
  | text x =>
    have : x.length ≤ 11 := h.len
    simp only [typed, List.length_cons, List.length_append, List.length_nil]; (first | lia | omega)
  | raw x =>
    have : x.length ≤ 11 := h.len
    simp only [typed]
    repeat' split
    all_goals (simp; (first | lia | omega))
theorem tokenText_len13 {t : TK} (h : Dr t) (a : List Nat) : (tokenText t a).length ≤ 13 := by
  have hl := h.len
  cases t <;> simp only [TK.x] at hl <;> simp only [tokenText] <;> try (simp; (first | lia | omega))
  · rename_i n
    have := dec_len (h.num n rfl); (first | lia | omega)
  · split
    · unfold itemText; split <;> simp <;> (first | lia | omega)
    · (first | lia | omega)
theorem found_len : ∀ (ts : List TK) (s : TS), (∀ t ∈ ts, Dr t) → (ts.foldl TS.step s).found.length ≤ s.found.length + 14 * ts.length
  | [], s, _ => by simp
  | t :: ts, s, h => by
    have ih := found_len ts (s.step t) fun x m => h x (.tail _ m)
    rw [step_found, List.length_append] at ih
    have : (s.add t).length ≤ 14 := by
      unfold TS.add
      rw [List.length_append]
      have := typed_len13 (h t (.head _)) (s.p t).2 (s.isData || decide (t = .word (cs "DATA")))
      have : (if (s.p t).1 = true then [32] else [] : List Nat).length ≤ 1 := by split <;> simp
      (first | lia | omega)
    rw [List.foldl_cons, List.length_cons]
    (first | lia | omega)
theorem done_len {ts : List TK} (b : Bx) (h : ∀ t ∈ ts, Dr t) : (textOfTyped ts b).done.length ≤ 2 + 14 * ts.length := by
  have h1 := found_len ts ⟨List.replicate (b.take 2).1 32, false, none, (b.take 2).2⟩ h
  have h2 := b.take_lt (m := 2) (nb rfl)
  unfold textOfTyped
  generalize ts.foldl TS.step _ = st at *
  rw [show st.done = st.found ++ fin st.ahead from rfl, List.length_append]
  have h3 : (fin st.ahead).length ≤ 1 := by
    unfold fin
    split <;> simp
  have h4 : (List.replicate (b.take 2).1 32).length = (b.take 2).1 := List.length_replicate
  dsimp only at h1
  (first | lia | omega)
theorem gd_len : ∀ (ts : List TK) p a, (∀ t ∈ ts, Dr t) → (gd p a ts).length ≤ 14 * ts.length
  | [], p, a, _ => by simp [gd]
  | t :: ts, p, a, h => by
    have ih := gd_len ts (some t) (aheadOf t a) fun x m => h x (.tail _ m)
    have h1 := tokenText_len13 (h t (.head _)) (aheadOf t a)
    have h2 := sepText_len p [] t
    unfold gd
    simp only [List.length_append, List.length_cons, List.length_nil] at *
    (first | lia | omega)
theorem textOf_len {ts : List TK} (h : ∀ t ∈ ts, Dr t) : (textOf ts).length ≤ 14 * ts.length := by
  rw [textOf_gd]; exact gd_len ts none [] h
/-- the tokens of the law -/
noncomputable def drawAll (b : Bx) : Nat → List TK × Bx
  | 0 => ([], b)
  | n + 1 => ((drawAll b n).1 ++ [(drawToken (drawAll b n).2).1], (drawToken (drawAll b n).2).2)
theorem drawAll_N (b : Bx) : ∀ n, (∀ t ∈ (drawAll b n).1, N t) ∧ (drawAll b n).1.length = n
  | 0 => ⟨fun t m => (by cases m), rfl⟩
  | n + 1 => by
    obtain ⟨h1, h2⟩ := drawAll_N b n
    refine ⟨fun t m => ?_, by show (_ ++ [_]).length = _; rw [List.length_append, h2]; rfl⟩
    rcases List.mem_append.mp m with m | m
    · exact h1 t m
    · rw [List.mem_singleton.mp m]; exact drawToken_N _
theorem drawToken_okL {b : Bx} (h : b.ok) : (drawToken b).2.ok := by
  unfold drawToken
  dsimp only
  repeat' split
  all_goals exact Bx.take_ok (Bx.take_ok h _) _
theorem drawAll_ok {b : Bx} (h : b.ok) : ∀ n, (drawAll b n).2.ok
  | 0 => h
  | n + 1 => drawToken_okL (drawAll_ok h n)
theorem drawItems_okL {l : List TK} {b : Bx} (h : b.ok) : ∀ n, (drawItems (l, b) n).2.ok
  | 0 => h
  | n + 1 => Bx.take_ok (drawItems_okL h n) 7
theorem drawEnd_okL {b : Bx} (h : b.ok) : (drawEnd b).2.ok := by
  unfold drawEnd
  dsimp only
  repeat' split
  · exact Bx.take_ok (Bx.take_ok h _) _
  · exact Bx.take_ok h _
  · exact drawItems_okL (Bx.take_ok (Bx.take_ok h _) _) _
end Mine
end

section
set_option maxHeartbeats 1000000
open PySem PySem.W PyProof.Rows PySem.Spec PySem.Calls PySem.SeqAt
set_option Elab.async false
set_option linter.unusedVariables false
set_option linter.unusedSimpArgs false
set_option maxRecDepth 100000
namespace Mine
/-! ## what the law's walk asks of the tokens -/
noncomputable def rtB (t : TK) : Bool := [V.str (cs "raw"), .str (cs "text")].any fun d => flq d (.str t.kind)
theorem no_rt {es : List TK} (h : IsEnd es) (hq : ∀ t ∈ es, rtB t = false) : es = [] := by
  have hr : ∀ r, rtB (.raw r) = true := fun r => by unfold rtB; rw [show (TK.raw r).kind = cs "raw" from rfl]; decide
  cases h with
  | none => rfl
  | @rem r h =>
    have := hq (.raw r) (.tail _ (.head _))
    rw [hr] at this; cases this
  | @data r rs h hs hl =>
    have := hq (.raw r) (.tail _ (.head _))
    rw [hr] at this; cases this
theorem all_dat (l : List TK) : (l.map TK.v).all IsDat = true := by
  rw [List.all_eq_true]
  intro v hv
  refine nn fun nG => ?_
  obtain ⟨t, _, rfl⟩ := List.mem_map.mp hv
  refine nG ?_
  clear nG
  show (true && (IsFl t.val && true)) = true
  rw [val_fl]; rfl
theorem row_dat (l : List Nat) : (rowV l).all IsDat = true := by
  rw [List.all_eq_true]
  intro v hv
  refine nn fun nG => ?_
  obtain ⟨t, _, rfl⟩ := List.mem_map.mp hv
  refine nG ?_
  clear nG
  rfl
theorem good_octs {t : TK} (h : t.good) : ∀ c ∈ enc t, c < 256 := by
  cases t with
  | num n =>
    have h : n < 65536 := h
    intro c hc
    simp only [enc, List.mem_cons, List.not_mem_nil, or_false] at hc
    (first | lia | omega)
  | word x =>
    refine nn fun nG => ?_
    obtain ⟨_, _, h3⟩ := idx_at (show x ∈ WRD from h)
    refine nG ?_
    clear nG
    have h4 : WRD.length = 44 := by decide
    intro c hc
    simp only [enc, List.mem_cons, List.not_mem_nil, or_false] at hc
    (first | lia | omega)
  | sign x =>
    refine nn fun nG => ?_
    obtain ⟨_, _, h3⟩ := idx_at (show x ∈ SGN from h)
    refine nG ?_
    clear nG
    have h4 : SGN.length = 17 := by decide
    intro c hc
    simp only [enc, List.mem_cons, List.not_mem_nil, or_false] at hc
    (first | lia | omega)
  | name x =>
    intro c hc
    simp only [enc, List.mem_cons] at hc
    have := h.1
    rcases hc with rfl | rfl | hc
    · (first | lia | omega)
    · (first | lia | omega)
    · exact h.2 c hc
  | text x =>
    intro c hc
    simp only [enc, List.mem_cons] at hc
    have := h.1
    rcases hc with rfl | rfl | hc
    · (first | lia | omega)
    · (first | lia | omega)
    · exact h.2 c hc
  | raw x =>
    intro c hc
    simp only [enc, List.mem_cons] at hc
    have := h.1
    rcases hc with rfl | rfl | hc
    · (first | lia | omega)
    · (first | lia | omega)
    · exact h.2 c hc
theorem octs_lt {ts : List TK} (h : ∀ t ∈ ts, t.good) : ∀ c ∈ octs ts, c < 256 := by
  intro c hc
  refine nn fun nG => ?_
  obtain ⟨x, hx, hc⟩ := List.mem_flatten.mp hc
  obtain ⟨t, ht, rfl⟩ := List.mem_map.mp hx
  refine nG ?_
  clear nG
  exact good_octs (h t ht) c hc
/-- all that the walk must know of the tokens drawn -/
structure Drawn (tk : List TK) (b : Bx) : Prop where
  dr : ∀ t ∈ tk, Dr t
  len : tk.length ≤ 15
  typed : tokensOf (textOfTyped tk b).done = .ok tk
  listed : tokensOf (textOf tk) = .ok tk
  ov : (∀ t ∈ tk, rtB t = false) → tokensOf ((textOfTyped tk b).done ++ cs " 65536") = .error OVk
theorem drawn_of {ts es : List TK} {m : Nat} (b : Bx) (hN : ∀ t ∈ ts, N t) (hm : ts.length = m) (hm1 : m < 10) (he : IsEnd es) : Drawn (ts ++ es) b := by
  obtain ⟨h1, h2⟩ := he.dr
  refine ⟨fun t ht => ?_, by rw [List.length_append]; (first | lia | omega), typed_back b hN he, listed_back hN he, fun h => ?_⟩
  · rcases List.mem_append.mp ht with ht | ht
    · exact (hN t ht).dr
    · exact h1 t ht
  · have := no_rt he fun t ht => h t (List.mem_append_right _ ht)
    subst this
    rw [List.append_nil]
    exact typed_ov b hN
end Mine
end

section
set_option maxHeartbeats 1000000

open PySem PySem.W PyProof.Rows PySem.Spec PySem.Calls PySem.SeqAt
set_option Elab.async false
set_option linter.unusedVariables false
set_option maxRecDepth 100000
set_option maxHeartbeats 2000000
namespace Mine
theorem fillK (w : World) : PySem.Challenge.rw_nz0571_01 = PySem.Challenge.rw_nz0571_01 ∧ KH w.params = KH w.params := by
  k_fill
  exact ⟨rfl, rfl⟩
section
variable {w : World} {C : Ctx} {X : Str → St → Prop} {Q : V → St → Prop} {μ : St}
theorem c_read_quoted (hK : C.K = KH w.params) (hn : 1 ≤ C.n) {t : List Nat} {k : Nat} (ht : t.length < 2 ^ 20) (h : Q (.tup [.str (readQuoted t k).1, .int (readQuoted t k).2]) μ) :
    Op PR w C RV (fun us => call (.ref 90) us) X Q [.str t, .int k] μ := by
  refine' op_defl [("text", .str t), ("at", .int k)] ?k1 ?k2 ?k3 ?k4 ?k5 ?k6 ?k7 ?k8 ?k9 ?k10 ?k11 ?_
  case k1 => (rw [(by assumption : Ctx.K _ = KH _)]; k_is)
  case k2 => (rw [(by assumption : Ctx.K _ = KH _)]; k_is)
  case k3 => (first | lia | omega)
  case k5 => intro us h; rcases us with _ | ⟨a, _ | ⟨b, _ | ⟨c, _ | ⟨d, r⟩⟩⟩⟩ <;> first | rfl | (simp at h)
  case k4 => rfl
  case k6 => dsimp only [List.map]; decide
  case k7 => decide
  case k8 => dsimp only [List.map]; decide
  case k9 => rfl
  case k10 => rfl
  case k11 => rfl
  intro L C' hK' hn' hh' hf'
  unfold fB90
  replace hK' := hK'.trans hK
  with_reducible refine ex_cons ?_
  refine ex_assign ?_ rfl rfl
  with_reducible refine' ev_mstr F.slot_str_find F.type_str_find ?x0 ?x1 ?x2 ?_
  case x0 => rfl
  case x1 => rfl
  case x2 => rfl
  refine ev_sv rfl ?_
  with_reducible refine Exists.intro _ (And.intro rfl ?_)
  with_reducible refine' args_cons' ?_ ?x3
  case x3 => rfl
  refine ev_sv rfl ?_
  with_reducible refine' args_cons' ?_ ?x4
  case x4 => rfl
  refine ev_binop_r rfl ?_
  refine ev_sv rfl ?_
  with_reducible refine o_add_n1 ?_
  refine args_sv rfl ?_
  dsimp only
  have e1 : cs ("\"" : Str) = [34] := by decide
  refine m_find' e1 ?_
  unfold readQuoted at h
  generalize ixOf 34 t (k + 1) = e at h ⊢
  with_reducible refine ex_cons ?_
  with_reducible refine ex_if ?_
  refine et_cmp_r rfl ?_ rfl
  refine ev_sv rfl ?_
  with_reducible refine o_lt_ii ?_
  with_reducible refine bool_ex ?_
  refine ite_dec (fun hc => ?_) (fun hc => ?_)
  · with_reducible refine ex_cons ?_
    with_reducible refine ex_ret ?_
    with_reducible refine ev_tuple ?_
    with_reducible refine' args_cons' ?_ ?x5
    case x5 => rfl
    with_reducible refine ev_slice_n ?_
    refine ev_sv rfl ?_
    refine ev_binop_r rfl ?_
    refine ev_sv rfl ?_
    with_reducible refine o_add_n1 ?_
    with_reducible refine ⟨_, _, rfl, rfl, ?_⟩
    refine ⟨by exact Nat.le_trans (Nat.le_of_lt (by assumption)) (nb rfl), ?_⟩
    with_reducible refine' args_cons' ?_ ?x6
    case x6 => rfl
    refine ev_call_builtin (by rw [hK']; k_is) (by boot_fast) (by decide) rfl (by decide) rfl rfl ?_
    refine args_sv rfl ?_
    refine b_len_str' (Nat.lt_of_lt_of_le (by assumption) (nb rfl)) ?_
    refine args_sv rfl ?_
    refine ⟨by exact nb rfl, ?_⟩
    dsimp only
    rw [if_pos hc] at h
    exact h
  · obtain ⟨n, rfl⟩ := Int.eq_ofNat_of_zero_le (show 0 ≤ e by (first | lia | omega))
    with_reducible refine ex_nil ?_
    with_reducible refine ex_cons ?_
    with_reducible refine ex_ret ?_
    with_reducible refine ev_tuple ?_
    with_reducible refine' args_cons' ?_ ?x7
    case x7 => rfl
    with_reducible refine ev_slice_nn ?_
    refine ev_sv rfl ?_
    refine ev_binop_r rfl ?_
    refine ev_sv rfl ?_
    with_reducible refine o_add_n1 ?_
    refine ev_sv rfl ?_
    with_reducible refine ⟨_, _, _, rfl, rfl, rfl, ?_⟩
    refine ⟨by exact Nat.le_trans (Nat.le_of_lt (by assumption)) (nb rfl), ?_⟩
    with_reducible refine' args_cons' ?_ ?x8
    case x8 => rfl
    refine ev_binop_r rfl ?_
    refine ev_sv rfl ?_
    with_reducible refine o_add_n1 ?_
    refine args_sv rfl ?_
    refine ⟨by exact nb rfl, ?_⟩
    dsimp only
    rw [if_neg hc] at h
    exact h
theorem c_great_sign (hK : C.K = KH w.params) (hn : 1 ≤ C.n) {c : Nat} (h : Q (.str [gs c]) μ) :
    Op PR w C RV (fun us => call (.ref 43) us) X Q [.str [c]] μ := by
  refine' op_defl [("sign", .str [c])] ?k1 ?k2 ?k3 ?k4 ?k5 ?k6 ?k7 ?k8 ?k9 ?k10 ?k11 ?_
  case k1 => (rw [(by assumption : Ctx.K _ = KH _)]; k_is)
  case k2 => (rw [(by assumption : Ctx.K _ = KH _)]; k_is)
  case k3 => (first | lia | omega)
  case k5 => intro us h; rcases us with _ | ⟨a, _ | ⟨b, _ | ⟨c, _ | ⟨d, r⟩⟩⟩⟩ <;> first | rfl | (simp at h)
  case k4 => rfl
  case k6 => dsimp only [List.map]; decide
  case k7 => decide
  case k8 => dsimp only [List.map]; decide
  case k9 => rfl
  case k10 => rfl
  case k11 => rfl
  intro L C' hK' hn' hh' hf'
  unfold fB43
  replace hK' := hK'.trans hK
  have ea : cs ("a" : Str) = [97] := by decide
  have ez : cs ("z" : Str) = [122] := by decide
  unfold gs at h
  with_reducible refine ex_cons ?_
  with_reducible refine ex_ret ?_
  with_reducible refine ev_ifexp ?_
  refine et_cmp2 ?_ rfl
  refine ev_sv rfl ?_
  refine ev_sv rfl ?_
  with_reducible refine o_le_ss ?_
  with_reducible refine bool_ex ?_
  dsimp only
  rw [ea]
  refine ite_ndec (fun hc => ?_) (fun hc => ?_)
  · refine ev_sv rfl ?_
    with_reducible refine o_le_ss ?_
    with_reducible refine bool_ex ?_
    rw [ez]
    refine ite_ndec (fun hc' => ?_) (fun hc' => ?_)
    · refine ev_call_builtin (by rw [hK']; k_is) (by boot_fast) (by decide) rfl (by decide) rfl rfl ?_
      with_reducible refine' args_cons' ?_ ?x9
      case x9 => rfl
      refine ev_binop_r rfl ?_
      refine ev_call_builtin (by rw [hK']; k_is) (by boot_fast) (by decide) rfl (by decide) rfl rfl ?_
      refine args_sv rfl ?_
      with_reducible refine b_ord ?_
      with_reducible refine o_sub_ii ?_
      refine args_sv rfl ?_
      rw [lt_one] at hc hc'
      rw [if_pos (by (first | lia | omega))] at h
      refine b_chr (by (first | lia | omega)) (by (first | lia | omega)) ?_
      rw [show ((c : Int) - 32).toNat = c - 32 by (first | lia | omega)]
      exact h
    · refine ev_sv rfl ?_
      rw [lt_one] at hc hc'
      rw [if_neg (by (first | lia | omega))] at h
      exact h
  · with_reducible refine ite_ff ?_
    refine ev_sv rfl ?_
    rw [lt_one] at hc
    rw [if_neg (by (first | lia | omega))] at h
    exact h
theorem sgl {α : Type} : ∀ (xs : List α) (k : Nat) (x : α), xs[k]? = some x → xs.take (k + 1) = xs.take k ++ [x]
  | [], k, x, h => by simp at h
  | a :: l, 0, x, h => by simp at h; simp [h]
  | a :: l, k + 1, x, h => by simp at h; simp [sgl l k x h]
theorem strsOf_map : ∀ (xs : List (List Nat)), strsOf (xs.map V.str) = some xs
  | [] => rfl
  | x :: l => by simp [strsOf, strsOf_map l]
theorem c_great_text (hK : C.K = KH w.params) (hn : 2 ≤ C.n) {t : List Nat} (ht : t.length < 2 ^ 18) (h : ∀ g, Q (.str (great t)) (μ ++ g)) :
    Op PR w C RV (fun us => call (.ref 48) us) X Q [.str t] μ := by
  refine' op_defl [("text", .str t)] ?k1 ?k2 ?k3 ?k4 ?k5 ?k6 ?k7 ?k8 ?k9 ?k10 ?k11 ?_
  case k1 => (rw [(by assumption : Ctx.K _ = KH _)]; k_is)
  case k2 => (rw [(by assumption : Ctx.K _ = KH _)]; k_is)
  case k3 => (first | lia | omega)
  case k5 => intro us h; rcases us with _ | ⟨a, _ | ⟨b, _ | ⟨c, _ | ⟨d, r⟩⟩⟩⟩ <;> first | rfl | (simp at h)
  case k4 => rfl
  case k6 => dsimp only [List.map]; decide
  case k7 => decide
  case k8 => dsimp only [List.map]; decide
  case k9 => rfl
  case k10 => rfl
  case k11 => rfl
  intro L C' hK' hn' hh' hf'
  unfold fB48
  replace hK' := hK'.trans hK
  with_reducible refine ex_cons ?_
  with_reducible refine ex_ret ?_
  with_reducible refine' ev_mstr F.slot_str_join F.type_str_join ?x10 ?x11 ?x12 ?_
  case x10 => rfl
  case x11 => rfl
  case x12 => rfl
  refine ev_sv rfl ?_
  with_reducible refine Exists.intro _ (And.intro rfl ?_)
  with_reducible refine' args_cons' ?_ ?x13
  case x13 => rfl
  dsimp only
  refine ev_map (mapS fun x => .str (x.map gs)) (by decide) (by decide) rfl (by decide) rfl (evi_str ?_) (fun _ => rfl)
  refine ev_sv rfl ?_
  with_reducible refine Exists.intro _ (And.intro rfl ?_)
  dsimp only
  refine ⟨by simp; (first | lia | omega), fun _ => trivial, fun k v μ' Cc hv => ?_, ?_⟩
  · obtain ⟨c, hc, rfl⟩ : ∃ c, t[k]? = some c ∧ V.str [c] = v := by simpa using hv
    refine ev_call_def (by rw [hK']; k_is) (by rw [hK']; k_is) rfl (by decide) rfl ?_
    refine args_sv rfl ?_
    exact c_great_sign hK' (nle hn' hn rfl) ⟨rfl, rfl⟩
  · refine args_sv rfl ?_
    refine m_join_L (xs := t.map fun c => [gs c]) (.lst (by simp; rfl)) ?_ ?_ (by decide) ?_
    · have := strsOf_map (t.map fun c => [gs c])
      rw [← this]; simp [mapS, Function.comp_def]
    · have : ((t.map fun c => [gs c]).map List.length).sum = t.length := by
        clear ht h
        induction t with
        | nil => rfl
        | cons a l ih => simp at ih ⊢; (first | lia | omega)
      rw [this]; simp; (first | lia | omega)
    · have := h [List.map (mapS fun x => .str (x.map gs)) (t.map fun c => V.str [c])]
      have e : great t = (t.map fun c => [gs c]).flatten := by
        unfold great
        clear ht h this
        induction t with
        | nil => rfl
        | cons a l ih => simp at ih ⊢; exact ih
      rw [← e]
      exact this
theorem c_word_at (hK : C.K = KH w.params) (hn : 1 ≤ C.n) {t : List Nat} {k : Nat} (ht : t.length < 2 ^ 20) (h : Q (.str (wordAt t k)) μ) :
    Op PR w C RV (fun us => call (.ref 55) us) X Q [.str t, .int k] μ := by
  refine' op_defl [("text", .str t), ("at", .int k)] ?k1 ?k2 ?k3 ?k4 ?k5 ?k6 ?k7 ?k8 ?k9 ?k10 ?k11 ?_
  case k1 => (rw [(by assumption : Ctx.K _ = KH _)]; k_is)
  case k2 => (rw [(by assumption : Ctx.K _ = KH _)]; k_is)
  case k3 => (first | lia | omega)
  case k5 => intro us h; rcases us with _ | ⟨a, _ | ⟨b, _ | ⟨c, _ | ⟨d, r⟩⟩⟩⟩ <;> first | rfl | (simp at h)
  case k4 => rfl
  case k6 => dsimp only [List.map]; decide
  case k7 => decide
  case k8 => dsimp only [List.map]; decide
  case k9 => rfl
  case k10 => rfl
  case k11 => rfl
  intro L C' hK' hn' hh' hf'
  unfold fB55
  replace hK' := hK'.trans hK
  with_reducible refine ex_cons ?_
  refine ex_assign ?_ rfl rfl
  refine ev_sv rfl ?_
  with_reducible refine ex_cons ?_
  refine ex_for (evi_list (.inl ⟨_, _, rfl⟩) ?_) hf' rfl (fun _ => rfl)
  refine ev_gfro (xs := WRD.map V.str) (by rw [hK']; k_is) (by rw [hK']; k_is) ?_ ?_ rfl (by decide)
  · intro h ρ
    repeat (first | exact RVs.nil | refine RVs.cons (.str _ _) ?_)
  refine ⟨_, .inl rfl, fun i loc μ' => μ' = μ ∧ loc = ([("text", .str t), ("at", .int k), ("found", .str ((WRD.take i).foldl (wordStep t k) []))] : Loc), ⟨rfl, rfl⟩, fun _ _ _ _ => .inl rfl, ?_, ?_⟩
  · rintro i v _ _ hv ⟨rfl, rfl⟩
    refine ⟨_, ast_name rfl, ?_⟩
    obtain ⟨x, hx, rfl⟩ : ∃ x, WRD[i]? = some x ∧ V.str x = v := by simpa using hv
    have hlx : x.length < 2 ^ 20 := by
      have := List.mem_of_getElem? hx
      exact (by decide : ∀ x ∈ WRD, x.length < 2 ^ 20) x this
    have hlf : (List.foldl (wordStep t k) [] (WRD.take i)).length < 2 ^ 20 := by
      have key : ∀ (l : List (List Nat)) (f : List Nat), (∀ x ∈ l, x.length < 2 ^ 20) → f.length < 2 ^ 20 → (List.foldl (wordStep t k) f l).length < 2 ^ 20 := by
        intro l
        induction l with
        | nil => intro f _ h; exact h
        | cons a l ih =>
          intro f h1 h2
          refine ih _ (fun x m => h1 x (.tail _ m)) ?_
          unfold wordStep; split
          · exact h1 a (.head _)
          · exact h2
      exact key _ _ (fun x m => (by decide : ∀ x ∈ WRD, x.length < 2 ^ 20) x (List.mem_of_mem_take m)) (by simp)
    have hstep : List.foldl (wordStep t k) [] (WRD.take (i + 1)) = wordStep t k (List.foldl (wordStep t k) [] (WRD.take i)) x := by
      rw [sgl _ _ _ hx, List.foldl_append]; rfl
    generalize List.foldl (wordStep t k) [] (WRD.take i) = f at *
    with_reducible refine ex_cons ?_
    with_reducible refine ex_if ?_
    with_reducible refine et_bool ?_
    with_reducible refine et_and_cons ?_
    refine et_cmp ?_ rfl
    refine ev_call_builtin (by rw [hK']; k_is) (by boot_fast) (by decide) rfl (by decide) rfl rfl ?_
    refine args_sv rfl ?_
    refine b_len_str' (Nat.lt_of_lt_of_le (by assumption) (nb rfl)) ?_
    refine ev_call_builtin (by rw [hK']; k_is) (by boot_fast) (by decide) rfl (by decide) rfl rfl ?_
    refine args_sv rfl ?_
    refine b_len_str' (Nat.lt_of_lt_of_le (by assumption) (nb rfl)) ?_
    with_reducible refine o_gt_nn ?_
    with_reducible refine bool_ex ?_
    dsimp only
    refine ite_dec (fun hc => ?_) (fun hc => ?_)
    · with_reducible refine et_and_cons ?_
      refine et_cmp_r rfl ?_ rfl
      with_reducible refine ev_slice_nn ?_
      refine ev_sv rfl ?_
      refine ev_sv rfl ?_
      with_reducible refine ev_binop ?_
      refine ev_sv rfl ?_
      refine ev_call_builtin (by rw [hK']; k_is) (by boot_fast) (by decide) rfl (by decide) rfl rfl ?_
      refine args_sv rfl ?_
      refine b_len_str' (Nat.lt_of_lt_of_le (by assumption) (nb rfl)) ?_
      with_reducible refine o_add_nn ?_
      with_reducible refine ⟨_, _, _, rfl, rfl, rfl, ?_⟩
      refine ⟨by exact Nat.le_trans (Nat.le_of_lt (by assumption)) (nb rfl), ?_⟩
      with_reducible refine o_eq_ss ?_
      with_reducible refine bool_ex ?_
      refine ite_b (fun hb => ?_) (fun hb => ?_)
      · with_reducible refine et_and_nil ?_
        with_reducible refine ite_tt ?_
        with_reducible refine ex_cons ?_
        refine ex_assign ?_ rfl rfl
        refine ev_sv rfl ?_
        with_reducible refine ex_nil ?_
        with_reducible refine ex_nil ?_
        dsimp only
        refine ⟨[("text", .str t), ("at", .int k), ("found", .str (wordStep t k f x))], ?_, rfl, ?_⟩
        · rw [show wordStep t k f x = x from if_pos ⟨hc, by simpa [slc] using hb⟩]
          exact sub_lk rfl rfl
        · rw [hstep]
      · with_reducible refine ite_ff ?_
        with_reducible refine ex_nil ?_
        with_reducible refine ex_nil ?_
        dsimp only
        refine ⟨[("text", .str t), ("at", .int k), ("found", .str (wordStep t k f x))], ?_, rfl, ?_⟩
        · rw [show wordStep t k f x = f from if_neg fun q => by simp [slc] at hb q; exact hb q.2]
          exact sub_lk rfl rfl
        · rw [hstep]
    · with_reducible refine ite_ff ?_
      with_reducible refine ex_nil ?_
      with_reducible refine ex_nil ?_
      dsimp only
      refine ⟨[("text", .str t), ("at", .int k), ("found", .str (wordStep t k f x))], ?_, rfl, ?_⟩
      · rw [show wordStep t k f x = f from if_neg fun q => hc q.1]
        exact sub_lk rfl rfl
      · rw [hstep]
  · rintro _ _ ⟨rfl, rfl⟩
    with_reducible refine ex_nil ?_
    with_reducible refine ex_cons ?_
    with_reducible refine ex_ret ?_
    refine ev_sv rfl ?_
    dsimp only
    rw [List.length_map, List.take_length]
    exact h
theorem c_behind_blanks (hK : C.K = KH w.params) (hn : 1 ≤ C.n) {t : List Nat} {k : Nat} (ht : t.length < 2 ^ 20) (h : Q (.int (bb t k : Nat)) μ) :
    Op PR w C RV (fun us => call (.ref 69) us) X Q [.str t, .int k] μ := by
  refine' op_defl [("text", .str t), ("at", .int k)] ?k1 ?k2 ?k3 ?k4 ?k5 ?k6 ?k7 ?k8 ?k9 ?k10 ?k11 ?_
  case k1 => (rw [(by assumption : Ctx.K _ = KH _)]; k_is)
  case k2 => (rw [(by assumption : Ctx.K _ = KH _)]; k_is)
  case k3 => (first | lia | omega)
  case k5 => intro us h; rcases us with _ | ⟨a, _ | ⟨b, _ | ⟨c, _ | ⟨d, r⟩⟩⟩⟩ <;> first | rfl | (simp at h)
  case k4 => rfl
  case k6 => dsimp only [List.map]; decide
  case k7 => decide
  case k8 => dsimp only [List.map]; decide
  case k9 => rfl
  case k10 => rfl
  case k11 => rfl
  intro L C' hK' hn' hh' hf'
  unfold fB69
  replace hK' := hK'.trans hK
  with_reducible refine ex_cons ?_
  refine ex_while (fun n loc μ' => μ' = μ ∧ ∃ a : Nat, n = t.length - a ∧ loc = ([("text", .str t), ("at", .int a)] : Loc) ∧ bb t a = bb t k) (t.length - k) ⟨rfl, k, rfl, rfl, rfl⟩ ?_ hf' rfl
  rintro n _ _ ⟨rfl, a, rfl, rfl, ha⟩
  with_reducible refine et_bool ?_
  with_reducible refine et_and_cons ?_
  refine et_cmp ?_ rfl
  refine ev_sv rfl ?_
  refine ev_call_builtin (by rw [hK']; k_is) (by boot_fast) (by decide) rfl (by decide) rfl rfl ?_
  refine args_sv rfl ?_
  refine b_len_str' (Nat.lt_of_lt_of_le (by assumption) (nb rfl)) ?_
  with_reducible refine o_lt_nn ?_
  with_reducible refine bool_ex ?_
  dsimp only
  refine ite_dec (fun hc => ?_) (fun hc => ?_)
  · with_reducible refine et_and_cons ?_
    refine et_cmp ?_ rfl
    refine ev_sub_r rfl ?_
    refine ev_sv rfl ?_
    refine o_item_str a rfl (by (first | lia | omega)) (nth_get hc) ?_ (fun _ _ => rfl)
    refine ev_gstr (by rw [hK']; k_is) ?_ rfl (by decide)
    with_reducible refine o_in_ss ?_
    with_reducible refine bool_ex ?_
    refine ite_dec (fun hb => ?_) (fun hb => ?_)
    · with_reducible refine et_and_nil ?_
      with_reducible refine ite_tt ?_
      with_reducible refine ex_cons ?_
      refine ex_aug (lk_mem rfl) ?_ rfl
      refine ev_sv rfl ?_
      with_reducible refine o_iadd_n1 ?_
      with_reducible refine ex_nil ?_
      dsimp only
      refine ⟨t.length - (a + 1), _, by (first | lia | omega), ?_, rfl, a + 1, rfl, rfl, ?_⟩
      · exact sub_lk rfl rfl
      · rw [← ha]; exact (adv_go hc (by simpa [BL] using hb)).symm
    · with_reducible refine ite_ff ?_
      with_reducible refine ex_nil ?_
      with_reducible refine ex_cons ?_
      with_reducible refine ex_ret ?_
      refine ev_sv rfl ?_
      dsimp only
      rw [← ha] at h
      rw [show bb t a = a from adv_stop (.inr (by simpa [BL] using hb))] at h
      exact h
  · with_reducible refine ite_ff ?_
    with_reducible refine ex_nil ?_
    with_reducible refine ex_cons ?_
    with_reducible refine ex_ret ?_
    refine ev_sv rfl ?_
    dsimp only
    rw [← ha] at h
    rw [show bb t a = a from adv_stop (.inl (Nat.not_lt.mp (by assumption)))] at h
    exact h
end
theorem fillK2 (w : World) : PySem.Challenge.rw_nz0571_01 = PySem.Challenge.rw_nz0571_01 ∧ KH w.params = KH w.params := by
  k_fill
  exact ⟨rfl, rfl⟩
section
variable {w : World} {C : Ctx} {X : Str → St → Prop} {Q : V → St → Prop} {μ : St}
theorem c_sign_at (hK : C.K = KH w.params) (hn : 1 ≤ C.n) {t : List Nat} {k : Nat} (ht : t.length < 2 ^ 20) (h : Q (.str (signAt t k)) μ) :
    Op PR w C RV (fun us => call (.ref 62) us) X Q [.str t, .int k] μ := by
  refine' op_defl [("text", .str t), ("at", .int k)] ?k1 ?k2 ?k3 ?k4 ?k5 ?k6 ?k7 ?k8 ?k9 ?k10 ?k11 ?_
  case k1 => (rw [(by assumption : Ctx.K _ = KH _)]; k_is)
  case k2 => (rw [(by assumption : Ctx.K _ = KH _)]; k_is)
  case k3 => (first | lia | omega)
  case k5 => intro us h; rcases us with _ | ⟨a, _ | ⟨b, _ | ⟨c, _ | ⟨d, r⟩⟩⟩⟩ <;> first | rfl | (simp at h)
  case k4 => rfl
  case k6 => dsimp only [List.map]; decide
  case k7 => decide
  case k8 => dsimp only [List.map]; decide
  case k9 => rfl
  case k10 => rfl
  case k11 => rfl
  intro L C' hK' hn' hh' hf'
  unfold fB62
  replace hK' := hK'.trans hK
  with_reducible refine ex_cons ?_
  refine ex_for (evi_list (.inl ⟨_, _, rfl⟩) ?_) hf' rfl (fun _ => rfl)
  refine ev_gfro (xs := SGN.map V.str) (by rw [hK']; k_is) (by rw [hK']; k_is) ?_ ?_ rfl (by decide)
  · intro h ρ
    repeat (first | exact RVs.nil | refine RVs.cons (.str _ _) ?_)
  refine ⟨_, .inl rfl, fun i loc μ' => μ' = μ ∧ loc = ([("text", .str t), ("at", .int k)] : Loc) ∧ signAt t k = ((SGN.drop i).find? fun s => slc t k (k + s.length) == s).getD [], ⟨rfl, rfl, rfl⟩, fun _ _ _ _ => .inl rfl, ?_, ?_⟩
  · rintro i v _ _ hv ⟨rfl, rfl, hs⟩
    refine ⟨_, ast_name rfl, ?_⟩
    obtain ⟨x, hx, rfl⟩ : ∃ x, SGN[i]? = some x ∧ V.str x = v := by simpa using hv
    have hlx : x.length < 2 ^ 20 := by
      have := List.mem_of_getElem? hx
      exact (by decide : ∀ x ∈ SGN, x.length < 2 ^ 20) x this
    have hd : SGN.drop i = x :: SGN.drop (i + 1) := by
      obtain ⟨h1, h2⟩ := List.getElem?_eq_some_iff.mp hx
      rw [← h2]; exact List.drop_eq_getElem_cons h1
    with_reducible refine ex_cons ?_
    with_reducible refine ex_if ?_
    refine et_cmp_r rfl ?_ rfl
    with_reducible refine ev_slice_nn ?_
    refine ev_sv rfl ?_
    refine ev_sv rfl ?_
    with_reducible refine ev_binop ?_
    refine ev_sv rfl ?_
    refine ev_call_builtin (by rw [hK']; k_is) (by boot_fast) (by decide) rfl (by decide) rfl rfl ?_
    refine args_sv rfl ?_
    refine b_len_str' (Nat.lt_of_lt_of_le (by assumption) (nb rfl)) ?_
    with_reducible refine o_add_nn ?_
    with_reducible refine ⟨_, _, _, rfl, rfl, rfl, ?_⟩
    refine ⟨by exact Nat.le_trans (Nat.le_of_lt (by assumption)) (nb rfl), ?_⟩
    with_reducible refine o_eq_ss ?_
    with_reducible refine bool_ex ?_
    dsimp only
    refine ite_b (fun hb => ?_) (fun hb => ?_)
    · with_reducible refine ex_cons ?_
      with_reducible refine ex_ret ?_
      refine ev_sv rfl ?_
      dsimp only
      rw [hs, hd, List.find?_cons_of_pos (by simpa [slc] using hb)] at h
      exact h
    · with_reducible refine ex_nil ?_
      with_reducible refine ex_nil ?_
      dsimp only
      refine ⟨[("text", .str t), ("at", .int k)], ?_, rfl, rfl, ?_⟩
      · exact sub_lk rfl rfl
      · rw [hs, hd, List.find?_cons_of_neg (by simp [slc]; simpa using hb)]
  · rintro _ _ ⟨rfl, rfl, hs⟩
    with_reducible refine ex_nil ?_
    with_reducible refine ex_cons ?_
    with_reducible refine ex_ret ?_
    refine ev_sv rfl ?_
    dsimp only
    rw [hs, List.length_map, List.drop_length] at h
    exact h
theorem nsOk_of {K : Frag} {N : Addr} {c : Value} {d : Option Addr} {es : Array DictEntry} {n : Nat} {sl : Array (Option Value)} (h : K.lookup N = some ⟨c, d, .dict es n, sl⟩) (e : (es.toList.all fun e => match e.key with | .str _ _ => true | _ => false) = true) : nsOkIn K N = true := by
  unfold nsOkIn
  rw [h]
  rw [Array.all_toList] at e
  exact e
theorem be39 (w : World) : BE (KH w.params) where
  cls := ⟨_, _, _, _, _, _, _, _, _, _, _, _, _, by k_is⟩
  ok := nsOk_of (by k_is) (by rfl)
  init := by k_is
  kind := by k_is
  sa := by k_is
  ga := by k_is
  gh := by k_is
  fn := ⟨_, _, _, _, _, _, _, _, _, _, _, _, _, _, [], by k_is, fun a b => rfl, rfl⟩
  code := by k_is
  name := by k_is
theorem c_read_name (hK : C.K = KH w.params) (hn : 2 ≤ C.n) {t : List Nat} {k : Nat} (ht : t.length < 2 ^ 20) (hk : k < t.length) (h : Q (.tup [.str (readName t k).1, .int (readName t k).2]) μ) :
    Op PR w C RV (fun us => call (.ref 83) us) X Q [.str t, .int k] μ := by
  refine' op_defl [("whole", .str t), ("at", .int k)] ?k1 ?k2 ?k3 ?k4 ?k5 ?k6 ?k7 ?k8 ?k9 ?k10 ?k11 ?_
  case k1 => (rw [(by assumption : Ctx.K _ = KH _)]; k_is)
  case k2 => (rw [(by assumption : Ctx.K _ = KH _)]; k_is)
  case k3 => (first | lia | omega)
  case k5 => intro us h; rcases us with _ | ⟨a, _ | ⟨b, _ | ⟨c, _ | ⟨d, r⟩⟩⟩⟩ <;> first | rfl | (simp at h)
  case k4 => rfl
  case k6 => dsimp only [List.map]; decide
  case k7 => decide
  case k8 => dsimp only [List.map]; decide
  case k9 => rfl
  case k10 => rfl
  case k11 => rfl
  intro L C' hK' hn' hh' hf'
  unfold fB83
  replace hK' := hK'.trans hK
  with_reducible refine ex_cons ?_
  refine ex_assign ?_ rfl rfl
  refine ev_sv rfl ?_
  with_reducible refine ex_cons ?_
  refine ex_aug (lk_mem rfl) ?_ rfl
  refine ev_sv rfl ?_
  with_reducible refine o_iadd_n1 ?_
  with_reducible refine ex_cons ?_
  refine ex_while (fun n loc μ' => μ' = μ ∧ ∃ a : Nat, n = t.length - a ∧ loc = ([("whole", .str t), ("at", .int a), ("begin", .int k)] : Loc) ∧ adv t (fun i => decide (nth t i ∈ LT ++ DG) && wordAt t i == []) a = adv t (fun i => decide (nth t i ∈ LT ++ DG) && wordAt t i == []) (k + 1)) (t.length - (k + 1)) ⟨rfl, k + 1, rfl, by rfl, rfl⟩ ?_ hf' rfl
  rintro n _ _ ⟨rfl, a, rfl, rfl, ha⟩
  have e0 : cs ("" : Str) = [] := by decide
  refine Ev.isB (decide (a < t.length) && (decide (nth t a ∈ LT ++ DG) && wordAt t a == [])) ?_ ?_
  · with_reducible refine et_bool ?_
    with_reducible refine et_and_cons ?_
    refine et_cmp ?_ rfl
    refine ev_sv rfl ?_
    refine ev_call_builtin (by rw [hK']; k_is) (by boot_fast) (by decide) rfl (by decide) rfl rfl ?_
    refine args_sv rfl ?_
    refine b_len_str' (Nat.lt_of_lt_of_le (by assumption) (nb rfl)) ?_
    with_reducible refine o_lt_nn ?_
    with_reducible refine bool_ex ?_
    refine ite_dec (fun hc => ?_) (fun hc => ?_)
    · with_reducible refine et_and_cons ?_
      refine et_cmp ?_ rfl
      refine ev_sub_r rfl ?_
      refine ev_sv rfl ?_
      refine o_item_str a rfl (by (first | lia | omega)) (nth_get hc) ?_ (fun _ _ => rfl)
      with_reducible refine ev_binop ?_
      refine ev_gstr (by rw [hK']; k_is) ?_ rfl (by decide)
      refine ev_gstr (by rw [hK']; k_is) ?_ rfl (by decide)
      refine o_add_ss (by decide) ?_
      with_reducible refine o_in_ss ?_
      with_reducible refine bool_ex ?_
      refine ite_dec (fun hb => ?_) (fun hb => ?_)
      · have hb : nth t a ∈ LT ++ DG := hb
        with_reducible refine et_and_cons ?_
        refine et_cmp_r rfl ?_ rfl
        refine ev_call_def (by rw [hK']; k_is) (by rw [hK']; k_is) rfl (by decide) rfl ?_
        refine args_sv rfl ?_
        refine c_word_at hK' (nle hn' hn rfl) ht ?_
        generalize wordAt t a = wa
        with_reducible refine o_eq_ss ?_
        with_reducible refine bool_ex ?_
        rw [e0, decide_eq_true hc, decide_eq_true hb]
        refine ite_b (fun hw => ?_) (fun hw => ?_)
        · with_reducible refine et_and_nil ?_
          exact ⟨hw.symm, rfl⟩
        · exact ⟨hw.symm, rfl⟩
      · have hb : ¬ nth t a ∈ LT ++ DG := hb
        exact ⟨by rw [decide_eq_false hb, Bool.false_and, Bool.and_false], rfl⟩
    · exact ⟨by rw [decide_eq_false hc, Bool.false_and], rfl⟩
  · generalize hwa : wordAt t a = wa
    refine ite_b (fun hb => ?_) (fun hb => ?_)
    · simp only [Bool.and_eq_true, decide_eq_true_eq] at hb
      with_reducible refine ex_cons ?_
      refine ex_aug (lk_mem rfl) ?_ rfl
      refine ev_sv rfl ?_
      with_reducible refine o_iadd_n1 ?_
      with_reducible refine ex_nil ?_
      dsimp only
      refine ⟨t.length - (a + 1), _, by (first | lia | omega), ?_, rfl, a + 1, rfl, rfl, ?_⟩
      · exact sub_lk rfl rfl
      · rw [← ha]; exact (adv_go hb.1 (by rw [hwa, decide_eq_true hb.2.1, hb.2.2]; rfl)).symm
    · have hstop : adv t (fun i => decide (nth t i ∈ LT ++ DG) && wordAt t i == []) a = a := by
        by_cases hc : a < t.length
        · refine adv_stop (.inr ?_)
          rw [decide_eq_true hc, Bool.true_and] at hb
          rw [hwa]; exact hb
        · exact adv_stop (.inl (Nat.not_lt.mp (by assumption)))
      have hd : cs ("$" : Str) = [36] := by decide
      unfold readName at h
      dsimp only at h
      rw [← ha, hstop, hd] at h
      with_reducible refine ex_nil ?_
      with_reducible refine ex_cons ?_
      with_reducible refine ex_if ?_
      refine et_cmp_r rfl ?_ rfl
      with_reducible refine ev_slice_nn ?_
      refine ev_sv rfl ?_
      refine ev_sv rfl ?_
      refine ev_binop_r rfl ?_
      refine ev_sv rfl ?_
      with_reducible refine o_add_n1 ?_
      with_reducible refine ⟨_, _, _, rfl, rfl, rfl, ?_⟩
      refine ⟨by exact Nat.le_trans (Nat.le_of_lt (by assumption)) (nb rfl), ?_⟩
      with_reducible refine o_eq_ss ?_
      with_reducible refine bool_ex ?_
      rw [hd]
      refine ite_b (fun hq => ?_) (fun hq => ?_)
      · rw [if_pos (show slc t a (a + 1) = [36] from eq_of_beq hq)] at h
        with_reducible refine ex_cons ?_
        refine ex_aug (lk_mem rfl) ?_ rfl
        refine ev_sv rfl ?_
        with_reducible refine o_iadd_n1 ?_
        with_reducible refine ex_nil ?_
        with_reducible refine ex_cons ?_
        with_reducible refine ex_ret ?_
        with_reducible refine ev_tuple ?_
        with_reducible refine' args_cons' ?_ ?x0
        case x0 => rfl
        with_reducible refine ev_slice_nn ?_
        refine ev_sv rfl ?_
        refine ev_sv rfl ?_
        refine ev_sv rfl ?_
        with_reducible refine ⟨_, _, _, rfl, rfl, rfl, ?_⟩
        refine ⟨by exact Nat.le_trans (Nat.le_of_lt (by assumption)) (nb rfl), ?_⟩
        refine args_sv rfl ?_
        refine ⟨by exact nb rfl, ?_⟩
        dsimp only
        exact h
      · rw [if_neg (show ¬ slc t a (a + 1) = [36] from fun q => by rw [show List.drop a (List.take (a + 1) t) = [36] from q] at hq; simp at hq)] at h
        with_reducible refine ex_nil ?_
        with_reducible refine ex_cons ?_
        with_reducible refine ex_ret ?_
        with_reducible refine ev_tuple ?_
        with_reducible refine' args_cons' ?_ ?x1
        case x1 => rfl
        with_reducible refine ev_slice_nn ?_
        refine ev_sv rfl ?_
        refine ev_sv rfl ?_
        refine ev_sv rfl ?_
        with_reducible refine ⟨_, _, _, rfl, rfl, rfl, ?_⟩
        refine ⟨by exact Nat.le_trans (Nat.le_of_lt (by assumption)) (nb rfl), ?_⟩
        refine args_sv rfl ?_
        refine ⟨by exact nb rfl, ?_⟩
        dsimp only
        exact h
theorem dg_mem {c : Nat} (h : c ∈ DG) : 48 ≤ c ∧ c ≤ 57 := (by decide : ∀ c ∈ DG, 48 ≤ c ∧ c ≤ 57) c h
theorem c_read_number (hK : C.K = KH w.params) (hn : 2 ≤ C.n) {t : List Nat} {k : Nat} (ht : t.length ≤ 600) (hk : k < t.length) (hd : nth t k ∈ DG)
    (h : match readNumber t k with | .error e => X e μ | .ok r => Q (.tup [.int r.1, .int r.2]) μ) :
    Op PR w C RV (fun us => call (.ref 76) us) X Q [.str t, .int k] μ := by
  refine' op_defl [("text", .str t), ("at", .int k)] ?k1 ?k2 ?k3 ?k4 ?k5 ?k6 ?k7 ?k8 ?k9 ?k10 ?k11 ?_
  case k1 => (rw [(by assumption : Ctx.K _ = KH _)]; k_is)
  case k2 => (rw [(by assumption : Ctx.K _ = KH _)]; k_is)
  case k3 => (first | lia | omega)
  case k5 => intro us h; rcases us with _ | ⟨a, _ | ⟨b, _ | ⟨c, _ | ⟨d, r⟩⟩⟩⟩ <;> first | rfl | (simp at h)
  case k4 => rfl
  case k6 => dsimp only [List.map]; decide
  case k7 => decide
  case k8 => dsimp only [List.map]; decide
  case k9 => rfl
  case k10 => rfl
  case k11 => rfl
  intro L C' hK' hn' hh' hf'
  unfold fB76
  replace hK' := hK'.trans hK
  have hB : BE C'.K := hK' ▸ be39 w
  with_reducible refine ex_cons ?_
  refine ex_assign ?_ rfl rfl
  refine ev_sv rfl ?_
  with_reducible refine ex_cons ?_
  refine ex_while (fun n loc μ' => μ' = μ ∧ ∃ a : Nat, n = t.length - a ∧ loc = ([("text", .str t), ("at", .int a), ("begin", .int k)] : Loc) ∧ numEnd t a = numEnd t k) (t.length - k) ⟨rfl, k, rfl, by rfl, rfl⟩ ?_ hf' rfl
  rintro n _ _ ⟨rfl, a, rfl, rfl, ha⟩
  refine Ev.isB (decide (a < t.length) && decide (nth t a ∈ DG)) ?_ ?_
  · with_reducible refine et_bool ?_
    with_reducible refine et_and_cons ?_
    refine et_cmp ?_ rfl
    refine ev_sv rfl ?_
    refine ev_call_builtin (by rw [hK']; k_is) (by boot_fast) (by decide) rfl (by decide) rfl rfl ?_
    refine args_sv rfl ?_
    refine b_len_str' (by (first | lia | omega)) ?_
    with_reducible refine o_lt_nn ?_
    with_reducible refine bool_ex ?_
    refine ite_dec (fun hc => ?_) (fun hc => ?_)
    · with_reducible refine et_and_cons ?_
      refine et_cmp ?_ rfl
      refine ev_sub_r rfl ?_
      refine ev_sv rfl ?_
      refine o_item_str a rfl (by (first | lia | omega)) (nth_get hc) ?_ (fun _ _ => rfl)
      refine ev_gstr (by rw [hK']; k_is) ?_ rfl (by decide)
      with_reducible refine o_in_ss ?_
      with_reducible refine bool_ex ?_
      refine ite_dec (fun hb => ?_) (fun hb => ?_)
      · have hb : nth t a ∈ DG := hb
        with_reducible refine et_and_nil ?_
        exact ⟨by rw [decide_eq_true hc, decide_eq_true hb]; rfl, rfl⟩
      · have hb : ¬ nth t a ∈ DG := hb
        exact ⟨by rw [decide_eq_false hb, Bool.and_false], rfl⟩
    · exact ⟨by rw [decide_eq_false hc, Bool.false_and], rfl⟩
  · refine ite_b (fun hb => ?_) (fun hb => ?_)
    · simp only [Bool.and_eq_true, decide_eq_true_eq] at hb
      with_reducible refine ex_cons ?_
      refine ex_aug (lk_mem rfl) ?_ rfl
      refine ev_sv rfl ?_
      with_reducible refine o_iadd_n1 ?_
      with_reducible refine ex_nil ?_
      dsimp only
      refine ⟨t.length - (a + 1), _, by (first | lia | omega), ?_, rfl, a + 1, rfl, rfl, ?_⟩
      · exact sub_lk rfl rfl
      · rw [← ha]; exact (adv_go hb.1 (decide_eq_true hb.2)).symm
    · have hstop : numEnd t a = a := by
        by_cases hc : a < t.length
        · refine adv_stop (.inr ?_)
          rw [decide_eq_true hc, Bool.true_and] at hb
          exact hb
        · exact adv_stop (.inl (Nat.not_lt.mp (by assumption)))
      rw [hstop] at ha
      have hgt := numEnd_gt hk hd
      rw [← ha] at hgt
      have hall : NumText.AllDigits (slc t k a) := by
        intro c hc
        unfold slc at hc
        obtain ⟨i, hi, rfl⟩ := List.getElem_of_mem hc
        rw [List.length_drop, List.length_take] at hi
        rw [List.getElem_drop, List.getElem_take]
        have h1 := adv_all (t := t) (p := fun i => decide (nth t i ∈ DG)) (a := k) (k + i) (by (first | lia | omega)) (by have : numEnd t k = a := ha.symm; unfold numEnd at this; rw [this]; (first | lia | omega))
        have h2 : nth t (k + i) ∈ DG := by simpa using h1
        have h3 : nth t (k + i) = t[k + i]'(by (first | lia | omega)) := by
          unfold nth; rw [List.getD_eq_getElem?_getD, List.getElem?_eq_getElem (by (first | lia | omega))]; rfl
        rw [← h3]; exact dg_mem h2
      have hlen : (slc t k a).length = a - k := by unfold slc; rw [List.length_drop, List.length_take]; (first | lia | omega)
      unfold readNumber at h
      dsimp only at h
      rw [← ha] at h
      with_reducible refine ex_nil ?_
      with_reducible refine ex_cons ?_
      refine ex_assign ?_ rfl rfl
      refine ev_call_type (by rw [hK']; k_is) (by boot_fast) (by decide) rfl (by decide) rfl rfl ?_
      with_reducible refine' args_cons' ?_ ?x2
      case x2 => rfl
      with_reducible refine ev_slice_nn ?_
      refine ev_sv rfl ?_
      refine ev_sv rfl ?_
      refine ev_sv rfl ?_
      with_reducible refine ⟨_, _, _, rfl, rfl, rfl, ?_⟩
      refine ⟨by exact Nat.le_trans (by assumption) (nb rfl), ?_⟩
      refine args_sv rfl ?_
      dsimp only
      refine b_int_str (k := (numVal (slc t k a) : Nat)) (by show (slc t k a).length ≤ 640; (first | lia | omega)) (fun y hy => ?_) ?_
      · have hy' : y.cps.toList = slc t k a := hy
        have := PySem.intText_digits (x := y) (by rw [hy']; exact hall) (by rw [hy']; intro q; rw [q] at hlen; simp at hlen; (first | lia | omega)) (by rw [cs_len, hy]; show (slc t k a).length ≤ 4300; (first | lia | omega))
        rw [this, hy']; rfl
      · generalize numVal (slc t k a) = v at h ⊢
        with_reducible refine ex_cons ?_
        with_reducible refine ex_if ?_
        refine et_cmp ?_ rfl
        refine ev_sv rfl ?_
        refine ev_gint (by rw [hK']; k_is) ?_ rfl (by decide)
        with_reducible refine o_gt_ii ?_
        with_reducible refine bool_ex ?_
        refine ite_dec (fun hc => ?_) (fun hc => ?_)
        · rw [if_pos (by (first | lia | omega))] at h
          with_reducible refine ex_cons ?_
          refine ex_raise (by assumption) (nle hn' hn rfl) ?_ rfl rfl
          exact h
        · rw [if_neg (by (first | lia | omega))] at h
          with_reducible refine ex_nil ?_
          with_reducible refine ex_cons ?_
          with_reducible refine ex_ret ?_
          with_reducible refine ev_tuple ?_
          refine args_sv rfl ?_
          refine ⟨by exact nb rfl, ?_⟩
          dsimp only
          exact h
end
theorem fillK3 (w : World) : PySem.Challenge.rw_nz0571_01 = PySem.Challenge.rw_nz0571_01 ∧ KH w.params = KH w.params := by
  k_fill
  exact ⟨rfl, rfl⟩
section
variable {w : World} {C : Ctx} {X : Str → St → Prop} {Q : V → St → Prop} {μ : St}
theorem beq_f {x y : List Nat} (h : (x == y) = false) : ¬ x = y := fun q => by rw [q] at h; simp at h
theorem bne_f {x y : List Nat} (h : (x != y) = false) : x = y := by simpa using h
theorem bne_t {x y : List Nat} (h : (x != y) = true) : ¬ x = y := by simpa using h
theorem c_read_item (hK : C.K = KH w.params) (hn : 3 ≤ C.n) {t : List Nat} {k : Nat} (ht : t.length < 2 ^ 18) (hk : k ≤ t.length)
    (h : match readItem t k with | .error e => X e μ | .ok r => Q (.tup [.str r.1, .int r.2]) μ) :
    Op PR w C RV (fun us => call (.ref 97) us) X Q [.str t, .int k] μ := by
  refine' op_defl [("text", .str t), ("at", .int k)] ?k1 ?k2 ?k3 ?k4 ?k5 ?k6 ?k7 ?k8 ?k9 ?k10 ?k11 ?_
  case k1 => (rw [(by assumption : Ctx.K _ = KH _)]; k_is)
  case k2 => (rw [(by assumption : Ctx.K _ = KH _)]; k_is)
  case k3 => (first | lia | omega)
  case k5 => intro us h; rcases us with _ | ⟨a, _ | ⟨b, _ | ⟨c, _ | ⟨d, r⟩⟩⟩⟩ <;> first | rfl | (simp at h)
  case k4 => rfl
  case k6 => dsimp only [List.map]; decide
  case k7 => decide
  case k8 => dsimp only [List.map]; decide
  case k9 => rfl
  case k10 => rfl
  case k11 => rfl
  intro L C' hK' hn' hh' hf'
  unfold fB97
  replace hK' := hK'.trans hK
  have hB : BE C'.K := hK' ▸ be39 w
  have e1 : cs ("\"" : Str) = [34] := by decide
  have e2 : cs (",:" : Str) = [44, 58] := by decide
  have hb1 := bb_ge t k
  have hb2 := bb_le hk
  unfold readItem at h
  dsimp only at h
  with_reducible refine ex_cons ?_
  refine ex_assign ?_ rfl rfl
  refine ev_call_def (by rw [hK']; k_is) (by rw [hK']; k_is) rfl (by decide) rfl ?_
  refine args_sv rfl ?_
  dsimp only
  refine c_behind_blanks hK' (nle hn' hn rfl) (Nat.lt_of_lt_of_le (by assumption) (nb rfl)) ?_
  generalize bb t k = a at *
  with_reducible refine ex_cons ?_
  with_reducible refine ex_if ?_
  refine et_cmp_r rfl ?_ rfl
  with_reducible refine ev_slice_nn ?_
  refine ev_sv rfl ?_
  refine ev_sv rfl ?_
  refine ev_binop_r rfl ?_
  refine ev_sv rfl ?_
  with_reducible refine o_add_n1 ?_
  with_reducible refine ⟨_, _, _, rfl, rfl, rfl, ?_⟩
  refine ⟨by exact Nat.le_trans (Nat.le_of_lt (by assumption)) (nb rfl), ?_⟩
  with_reducible refine o_eq_ss ?_
  with_reducible refine bool_ex ?_
  rw [e1]
  refine ite_b (fun hq => ?_) (fun hq => ?_)
  · have hq : slc t a (a + 1) = [34] := eq_of_beq hq
    rw [if_pos hq] at h
    have ha : a < t.length := (List.getElem?_eq_some_iff.mp (slc_one.mp hq)).1
    have hr := readQuoted_le (t := t) (a := a) ha
    with_reducible refine ex_cons ?_
    refine ex_asg2 ?_ rfl rfl rfl rfl
    refine ev_call_def (by rw [hK']; k_is) (by rw [hK']; k_is) rfl (by decide) rfl ?_
    refine args_sv rfl ?_
    dsimp only
    refine c_read_quoted hK' (nle hn' hn rfl) (Nat.lt_of_lt_of_le (by assumption) (nb rfl)) ?_
    generalize readQuoted t a = r at *
    obtain ⟨f, e⟩ := r
    dsimp only at h hr ⊢
    with_reducible refine ⟨_, _, rfl, ?_⟩
    with_reducible refine ex_cons ?_
    refine ex_assign ?_ rfl rfl
    refine ev_call_def (by rw [hK']; k_is) (by rw [hK']; k_is) rfl (by decide) rfl ?_
    refine args_sv rfl ?_
    dsimp only
    refine c_behind_blanks hK' (nle hn' hn rfl) (Nat.lt_of_lt_of_le (by assumption) (nb rfl)) ?_
    have hb3 := bb_ge t e
    have hb4 := bb_le hr.2
    generalize bb t e = e' at *
    with_reducible refine ex_cons ?_
    with_reducible refine ex_if ?_
    with_reducible refine et_bool ?_
    with_reducible refine et_and_cons ?_
    refine et_cmp ?_ rfl
    refine ev_sv rfl ?_
    refine ev_call_builtin (by rw [hK']; k_is) (by boot_fast) (by decide) rfl (by decide) rfl rfl ?_
    refine args_sv rfl ?_
    refine b_len_str' (Nat.lt_of_lt_of_le (by assumption) (nb rfl)) ?_
    with_reducible refine o_lt_nn ?_
    with_reducible refine bool_ex ?_
    refine ite_dec (fun hc => ?_) (fun hc => ?_)
    · with_reducible refine et_and_cons ?_
      refine et_cmp_r rfl ?_ rfl
      refine ev_sub_r rfl ?_
      refine ev_sv rfl ?_
      refine o_item_str e' rfl (by (first | lia | omega)) (nth_get hc) ?_ (fun _ _ => rfl)
      with_reducible refine o_notin_ss ?_
      with_reducible refine bool_ex ?_
      rw [e2]
      refine ite_ndec (fun hm => ?_) (fun hm => ?_)
      · with_reducible refine et_and_nil ?_
        with_reducible refine ite_tt ?_
        with_reducible refine ex_cons ?_
        refine ex_raise (by assumption) (nle hn' hn rfl) ?_ rfl rfl
        rw [if_pos ⟨hc, hm⟩] at h
        exact h
      · with_reducible refine ite_ff ?_
        with_reducible refine ex_nil ?_
        with_reducible refine ex_cons ?_
        with_reducible refine ex_ret ?_
        with_reducible refine ev_tuple ?_
        refine args_sv rfl ?_
        refine ⟨by exact nb rfl, ?_⟩
        dsimp only
        rw [if_neg (fun q => q.2 hm)] at h
        exact h
    · with_reducible refine ite_ff ?_
      with_reducible refine ex_nil ?_
      with_reducible refine ex_cons ?_
      with_reducible refine ex_ret ?_
      with_reducible refine ev_tuple ?_
      refine args_sv rfl ?_
      refine ⟨by exact nb rfl, ?_⟩
      dsimp only
      rw [if_neg (fun q => hc q.1)] at h
      exact h
  · have hq : ¬ slc t a (a + 1) = [34] := beq_f hq
    rw [if_neg hq] at h
    with_reducible refine ex_nil ?_
    with_reducible refine ex_cons ?_
    refine ex_assign ?_ rfl rfl
    refine ev_sv rfl ?_
    with_reducible refine ex_cons ?_
    refine ex_while (fun n loc μ' => μ' = μ ∧ ∃ b : Nat, n = t.length - b ∧ b ≤ t.length ∧ a ≤ b ∧ loc = ([("text", .str t), ("at", .int b), ("begin", .int a)] : Loc) ∧ adv t (fun i => !decide (nth t i ∈ [44, 58])) b = adv t (fun i => !decide (nth t i ∈ [44, 58])) a) (t.length - a) ⟨rfl, a, rfl, hb2, Nat.le_refl _, by rfl, rfl⟩ ?_ hf' rfl
    rintro n _ μ₁ ⟨rfl, b, rfl, hbl, hab, rfl, ha⟩
    refine Ev.isB (decide (b < t.length) && !decide (nth t b ∈ [44, 58])) ?_ ?_
    · with_reducible refine et_bool ?_
      with_reducible refine et_and_cons ?_
      refine et_cmp ?_ rfl
      refine ev_sv rfl ?_
      refine ev_call_builtin (by rw [hK']; k_is) (by boot_fast) (by decide) rfl (by decide) rfl rfl ?_
      refine args_sv rfl ?_
      refine b_len_str' (Nat.lt_of_lt_of_le (by assumption) (nb rfl)) ?_
      with_reducible refine o_lt_nn ?_
      with_reducible refine bool_ex ?_
      refine ite_dec (fun hc => ?_) (fun hc => ?_)
      · with_reducible refine et_and_cons ?_
        refine et_cmp_r rfl ?_ rfl
        refine ev_sub_r rfl ?_
        refine ev_sv rfl ?_
        refine o_item_str b rfl (by (first | lia | omega)) (nth_get hc) ?_ (fun _ _ => rfl)
        with_reducible refine o_notin_ss ?_
        with_reducible refine bool_ex ?_
        rw [e2]
        refine ite_ndec (fun hb => ?_) (fun hb => ?_)
        · with_reducible refine et_and_nil ?_
          exact ⟨by rw [decide_eq_true hc, decide_eq_false hb]; rfl, rfl⟩
        · exact ⟨by rw [decide_eq_true hb, Bool.not_true, Bool.and_false], rfl⟩
      · exact ⟨by rw [decide_eq_false hc, Bool.false_and], rfl⟩
    · refine ite_b (fun hb => ?_) (fun hb => ?_)
      · simp only [Bool.and_eq_true, decide_eq_true_eq] at hb
        with_reducible refine ex_cons ?_
        refine ex_aug (lk_mem rfl) ?_ rfl
        refine ev_sv rfl ?_
        with_reducible refine o_iadd_n1 ?_
        with_reducible refine ex_nil ?_
        dsimp only
        refine ⟨t.length - (b + 1), _, by (first | lia | omega), ?_, rfl, b + 1, rfl, by (first | lia | omega), by (first | lia | omega), rfl, ?_⟩
        · exact sub_lk rfl rfl
        · rw [← ha]; exact (adv_go hb.1 hb.2).symm
      · have hstop : adv t (fun i => !decide (nth t i ∈ [44, 58])) b = b := by
          by_cases hc : b < t.length
          · refine adv_stop (.inr ?_)
            rw [decide_eq_true hc, Bool.true_and] at hb
            exact hb
          · exact adv_stop (.inl (Nat.not_lt.mp (by assumption)))
        rw [← ha, hstop] at h
        with_reducible refine ex_nil ?_
        with_reducible refine ex_cons ?_
        refine ex_assign ?_ rfl rfl
        refine ev_sv rfl ?_
        with_reducible refine ex_cons ?_
        refine ex_while (fun n loc μ' => μ' = μ₁ ∧ a ≤ n ∧ n ≤ b ∧ loc = ([("text", .str t), ("at", .int b), ("begin", .int a), ("end", .int n)] : Loc) ∧ dropBack t a n = dropBack t a b) b ⟨rfl, hab, Nat.le_refl _, by rfl, rfl⟩ ?_ hf' rfl
        rintro n _ _ ⟨rfl, han, hnb, rfl, hdb⟩
        refine Ev.isB (decide (a < n) && decide (nth t (n - 1) ∈ BL)) ?_ ?_
        · with_reducible refine et_bool ?_
          with_reducible refine et_and_cons ?_
          refine et_cmp_r rfl ?_ rfl
          refine ev_sv rfl ?_
          with_reducible refine o_gt_nn ?_
          with_reducible refine bool_ex ?_
          refine ite_dec (fun hc => ?_) (fun hc => ?_)
          · with_reducible refine et_and_cons ?_
            refine et_cmp ?_ rfl
            with_reducible refine ev_sub ?_
            refine ev_sv rfl ?_
            refine ev_binop_r rfl ?_
            refine ev_sv rfl ?_
            with_reducible refine o_sub_ii ?_
            refine o_item_str (n - 1) (by (first | lia | omega)) (by (first | lia | omega)) (nth_get (by (first | lia | omega))) ?_ (fun _ _ => rfl)
            refine ev_gstr (by rw [hK']; k_is) ?_ rfl (by decide)
            with_reducible refine o_in_ss ?_
            with_reducible refine bool_ex ?_
            refine ite_dec (fun hb => ?_) (fun hb => ?_)
            · have hb : nth t (n - 1) ∈ BL := hb
              with_reducible refine et_and_nil ?_
              exact ⟨by rw [decide_eq_true hc, decide_eq_true hb]; rfl, rfl⟩
            · have hb : ¬ nth t (n - 1) ∈ BL := hb
              exact ⟨by rw [decide_eq_false hb, Bool.and_false], rfl⟩
          · exact ⟨by rw [decide_eq_false hc, Bool.false_and], rfl⟩
        · refine ite_b (fun hb => ?_) (fun hb => ?_)
          · simp only [Bool.and_eq_true, decide_eq_true_eq] at hb
            with_reducible refine ex_cons ?_
            refine ex_aug (lk_mem rfl) ?_ rfl
            refine ev_sv rfl ?_
            with_reducible refine o_isub_ii ?_
            with_reducible refine ex_nil ?_
            dsimp only
            rw [show ((n : Int) - 1) = ((n - 1 : Nat) : Int) by (first | lia | omega)]
            refine ⟨n - 1, _, by (first | lia | omega), ?_, rfl, by (first | lia | omega), by (first | lia | omega), rfl, ?_⟩
            · exact sub_lk rfl rfl
            · rw [← hdb]
              obtain ⟨m, rfl⟩ : ∃ m, n = m + 1 := ⟨n - 1, by (first | lia | omega)⟩
              show dropBack t a m = dropBack t a (m + 1)
              conv => rhs; unfold dropBack
              rw [if_pos ⟨hb.1, hb.2⟩]
          · have hn : dropBack t a n = n := by
              cases n with
              | zero => rfl
              | succ m =>
                unfold dropBack
                rw [if_neg]
                rintro ⟨q1, q2⟩
                rw [decide_eq_true q1, decide_eq_true (show nth t (m + 1 - 1) ∈ BL from q2)] at hb
                cases hb
            rw [← hdb, hn] at h
            with_reducible refine ex_nil ?_
            with_reducible refine ex_cons ?_
            with_reducible refine ex_ret ?_
            with_reducible refine ev_tuple ?_
            with_reducible refine' args_cons' ?_ ?x0
            case x0 => rfl
            with_reducible refine ev_slice_nn ?_
            refine ev_sv rfl ?_
            refine ev_sv rfl ?_
            refine ev_sv rfl ?_
            with_reducible refine ⟨_, _, _, rfl, rfl, rfl, ?_⟩
            refine ⟨by exact Nat.le_trans (Nat.le_of_lt (by assumption)) (nb rfl), ?_⟩
            refine args_sv rfl ?_
            refine ⟨by exact nb rfl, ?_⟩
            dsimp only
            exact h
theorem set_mid {x y : List V} {μ g : St} : (μ ++ (x :: g)).set μ.length y = μ ++ (y :: g) := by
  rw [List.set_append_right _ _ (Nat.le_refl _)]; simp
theorem get_mid {x : List V} {μ g : St} : (μ ++ (x :: g))[μ.length]? = some x := by simp
theorem c_read_items (hK : C.K = KH w.params) (hn : 4 ≤ C.n) {t : List Nat} {k : Nat} (ht : t.length < 2 ^ 16) (hk : k ≤ t.length)
    (h : match readItems t k with | .error e => ∀ g, X e (μ ++ g) | .ok r => Q (.tup [.lst μ.length, .int r.2]) (μ ++ [r.1.map TK.v])) :
    Op PR w C RV (fun us => call (.ref 104) us) X Q [.str t, .int k] μ := by
  refine' op_defl [("text", .str t), ("at", .int k)] ?k1 ?k2 ?k3 ?k4 ?k5 ?k6 ?k7 ?k8 ?k9 ?k10 ?k11 ?_
  case k1 => (rw [(by assumption : Ctx.K _ = KH _)]; k_is)
  case k2 => (rw [(by assumption : Ctx.K _ = KH _)]; k_is)
  case k3 => (first | lia | omega)
  case k5 => intro us h; rcases us with _ | ⟨a, _ | ⟨b, _ | ⟨c, _ | ⟨d, r⟩⟩⟩⟩ <;> first | rfl | (simp at h)
  case k4 => rfl
  case k6 => dsimp only [List.map]; decide
  case k7 => decide
  case k8 => dsimp only [List.map]; decide
  case k9 => rfl
  case k10 => rfl
  case k11 => rfl
  intro L C' hK' hn' hh' hf'
  unfold fB104
  replace hK' := hK'.trans hK
  have e2 : cs ("," : Str) = [44] := by decide
  unfold readItems at h
  with_reducible refine ex_cons ?_
  refine ex_asg2 ?_ rfl rfl rfl rfl
  refine ev_call_def (by rw [hK']; k_is) (by rw [hK']; k_is) rfl (by decide) rfl ?_
  refine args_sv rfl ?_
  dsimp only
  refine c_read_item hK' (nle hn' hn rfl) (Nat.lt_of_lt_of_le (by assumption) (nb rfl)) hk ?_
  cases hr : readItem t k with
  | error e =>
    rw [hr] at h
    have := h []
    rw [List.append_nil] at this
    exact this
  | ok r =>
    rw [hr] at h
    have hrl := readItem_le hk hr
    dsimp only at h ⊢
    with_reducible refine ⟨_, _, rfl, ?_⟩
    with_reducible refine ex_cons ?_
    refine ex_assign ?_ rfl rfl
    dsimp only
    refine ev_list ?_
    with_reducible refine' args_cons' ?_ ?x1
    case x1 => rfl
    with_reducible refine ev_tuple ?_
    refine args_sv rfl ?_
    refine ⟨by exact nb rfl, ?_⟩
    refine args_sv rfl ?_
    refine ⟨by exact nb rfl, ?_⟩
    with_reducible refine ex_cons ?_
    refine ex_sub (loc' := ([("text", .str t), ("at", .int r.2), ("found", .lst μ.length)] : Loc)) ?_ (by exact sub_lk rfl rfl)
    refine ex_while (fun n loc μ' => ∃ acc, ∃ a : Nat, μ' = μ ++ [acc.map TK.v] ∧ loc = ([("text", .str t), ("at", .int a), ("found", .lst μ.length)] : Loc) ∧ a ≤ t.length ∧ t.length ≤ a + n ∧ acc.length + 2 * n ≤ 1 + 2 * t.length ∧ moreItems t n acc a = moreItems t t.length [.raw r.1] r.2) t.length ⟨[.raw r.1], r.2, rfl, rfl, hrl.2, by (first | lia | omega), by simp, rfl⟩ ?_ hf' rfl
    rintro n _ _ ⟨acc, a, rfl, rfl, hal, han, hacc, hm⟩
    refine et_cmp_r rfl ?_ rfl
    with_reducible refine ev_slice_nn ?_
    refine ev_sv rfl ?_
    refine ev_sv rfl ?_
    refine ev_binop_r rfl ?_
    refine ev_sv rfl ?_
    with_reducible refine o_add_n1 ?_
    with_reducible refine ⟨_, _, _, rfl, rfl, rfl, ?_⟩
    refine ⟨by exact Nat.le_trans (Nat.le_of_lt (by assumption)) (nb rfl), ?_⟩
    with_reducible refine o_eq_ss ?_
    with_reducible refine bool_ex ?_
    dsimp only
    rw [e2]
    refine ite_b (fun hq => ?_) (fun hq => ?_)
    · have hq : slc t a (a + 1) = [44] := eq_of_beq hq
      have ha : a < t.length := (List.getElem?_eq_some_iff.mp (slc_one.mp hq)).1
      obtain ⟨m, rfl⟩ : ∃ m, n = m + 1 := ⟨n - 1, by (first | lia | omega)⟩
      have hm' := hm
      conv at hm' => lhs; unfold moreItems
      rw [if_pos hq] at hm'
      with_reducible refine ex_cons ?_
      refine ex_asg2 ?_ rfl rfl rfl rfl
      refine ev_call_def (by rw [hK']; k_is) (by rw [hK']; k_is) rfl (by decide) rfl ?_
      with_reducible refine' args_cons' ?_ ?x2
      case x2 => rfl
      refine ev_sv rfl ?_
      with_reducible refine' args_cons' ?_ ?x3
      case x3 => rfl
      refine ev_binop_r rfl ?_
      refine ev_sv rfl ?_
      with_reducible refine o_add_n1 ?_
      refine args_sv rfl ?_
      dsimp only
      refine c_read_item hK' (nle hn' hn rfl) (Nat.lt_of_lt_of_le (by assumption) (nb rfl)) ha ?_
      cases hr2 : readItem t (a + 1) with
      | error e =>
        rw [hr2] at hm'
        rw [← hm'] at h
        exact h _
      | ok r2 =>
        rw [hr2] at hm'
        have hr2l := readItem_le ha hr2
        dsimp only at hm' ⊢
        with_reducible refine ⟨_, _, rfl, ?_⟩
        with_reducible refine ex_cons ?_
        refine ex_expr ?_ rfl rfl
        with_reducible refine' ev_mlist F.slot_list_extend F.type_list_extend ?x4 ?x5 ?x6 ?_
        case x4 => rfl
        case x5 => rfl
        case x6 => rfl
        refine ev_sv rfl ?_
        with_reducible refine' isl_lst ?x7 ?_
        case x7 => (simp; done)
        with_reducible refine' args_cons' ?_ ?x8
        case x8 => rfl
        dsimp only
        refine ev_lfro ?_
        with_reducible refine' args_cons' ?_ ?x9
        case x9 => rfl
        with_reducible refine ev_tuple ?_
        refine args_sv rfl ?_
        refine ⟨by exact nb rfl, ?_⟩
        with_reducible refine' args_cons' ?_ ?x10
        case x10 => rfl
        with_reducible refine ev_tuple ?_
        refine args_sv rfl ?_
        refine ⟨by exact nb rfl, ?_⟩
        refine args_sv rfl ?_
        refine ⟨by exact nb rfl, ?_⟩
        refine args_sv rfl ?_
        refine m_extend_L get_mid Lx.fro (by simp; (first | lia | omega)) ?_
        rw [set_mid]
        with_reducible refine And.intro rfl ?_
        with_reducible refine ex_nil ?_
        dsimp only
        refine ⟨m, _, by (first | lia | omega), ?_, acc ++ [.sign [44], .raw r2.1], r2.2, ?_, rfl, hr2l.2, by (first | lia | omega), by simp; (first | lia | omega), hm'⟩
        · exact sub_lk rfl rfl
        · rw [List.map_append]; rfl
    · have hq : ¬ slc t a (a + 1) = [44] := beq_f hq
      have hs : moreItems t n acc a = .ok (acc, a) := by
        cases n with
        | zero => rfl
        | succ m => unfold moreItems; rw [if_neg hq]
      rw [← hm, hs] at h
      with_reducible refine ex_nil ?_
      with_reducible refine ex_cons ?_
      with_reducible refine ex_ret ?_
      with_reducible refine ev_tuple ?_
      refine args_sv rfl ?_
      refine ⟨by exact nb rfl, ?_⟩
      dsimp only
      exact h
theorem c_read_token (hK : C.K = KH w.params) (hn : 5 ≤ C.n) {t : List Nat} {k : Nat} (ht : t.length ≤ 600) (hk : k < t.length)
    (h : match readToken t (great t) k with | .error e => ∀ g, X e (μ ++ g) | .ok r => ∀ g, Q (.tup [.fro (r.1.map TK.v), .int r.2]) (μ ++ g)) :
    Op PR w C RV (fun us => call (.ref 111) us) X Q [.str t, .str (great t), .int k] μ := by
  refine' op_defl [("text", .str t), ("whole", .str (great t)), ("at", .int k)] ?k1 ?k2 ?k3 ?k4 ?k5 ?k6 ?k7 ?k8 ?k9 ?k10 ?k11 ?_
  case k1 => (rw [(by assumption : Ctx.K _ = KH _)]; k_is)
  case k2 => (rw [(by assumption : Ctx.K _ = KH _)]; k_is)
  case k3 => (first | lia | omega)
  case k5 => intro us h; rcases us with _ | ⟨a, _ | ⟨b, _ | ⟨c, _ | ⟨d, r⟩⟩⟩⟩ <;> first | rfl | (simp at h)
  case k4 => rfl
  case k6 => dsimp only [List.map]; decide
  case k7 => decide
  case k8 => dsimp only [List.map]; decide
  case k9 => rfl
  case k10 => rfl
  case k11 => rfl
  intro L C' hK' hn' hh' hf'
  unfold fB111
  replace hK' := hK'.trans hK
  have hB : BE C'.K := hK' ▸ be39 w
  have gl := great_len t
  have e1 : cs ("\"" : Str) = [34] := by decide
  have e2 : cs ("?'" : Str) = [63, 39] := by decide
  have e3 : cs ("?" : Str) = [63] := by decide
  have e0 : cs ("" : Str) = [] := by decide
  have h0 : (∀ g, X SNk (μ ++ g)) → X SNk μ := fun q => by have := q []; rwa [List.append_nil] at this
  have q0 : ∀ {v : V}, (∀ g, Q v (μ ++ g)) → Q v μ := fun q => by have := q []; rwa [List.append_nil] at this
  have hdg := great_dg hk
  unfold readToken at h
  dsimp only at h
  with_reducible refine ex_cons ?_
  refine ex_assign ?_ rfl rfl
  refine ev_sub_r rfl ?_
  refine ev_sv rfl ?_
  dsimp only
  refine o_item_str k rfl (by (first | lia | omega)) (nth_get (t := great t) (by (first | lia | omega))) ?_ (fun _ _ => rfl)
  generalize nth (great t) k = c at *
  with_reducible refine ex_cons ?_
  with_reducible refine ex_if ?_
  refine et_cmp_r rfl ?_ rfl
  refine ev_sv rfl ?_
  with_reducible refine o_eq_ss ?_
  with_reducible refine bool_ex ?_
  rw [e1]
  refine ite_b (fun hq => ?_) (fun hq => ?_)
  · have hq : c = 34 := by simpa using hq
    rw [if_pos hq] at h
    with_reducible refine ex_cons ?_
    refine ex_asg2 ?_ rfl rfl rfl rfl
    refine ev_call_def (by rw [hK']; k_is) (by rw [hK']; k_is) rfl (by decide) rfl ?_
    refine args_sv rfl ?_
    dsimp only
    refine c_read_quoted hK' (nle hn' hn rfl) (by (first | lia | omega)) ?_
    generalize readQuoted t k = r at *
    with_reducible refine ⟨_, _, rfl, ?_⟩
    with_reducible refine ex_cons ?_
    with_reducible refine ex_ret ?_
    with_reducible refine ev_tuple ?_
    with_reducible refine' args_cons' ?_ ?x11
    case x11 => rfl
    dsimp only
    refine ev_lfro ?_
    with_reducible refine' args_cons' ?_ ?x12
    case x12 => rfl
    with_reducible refine ev_tuple ?_
    refine args_sv rfl ?_
    refine ⟨by exact nb rfl, ?_⟩
    refine args_sv rfl ?_
    refine ⟨by exact nb rfl, ?_⟩
    refine args_sv rfl ?_
    refine ⟨by exact nb rfl, ?_⟩
    exact q0 h
  · have hq : ¬ c = 34 := by simpa using hq
    rw [if_neg hq] at h
    with_reducible refine ex_nil ?_
    with_reducible refine ex_cons ?_
    with_reducible refine ex_if ?_
    refine et_cmp ?_ rfl
    refine ev_sv rfl ?_
    refine ev_gstr (by rw [hK']; k_is) ?_ rfl (by decide)
    with_reducible refine o_in_ss ?_
    with_reducible refine bool_ex ?_
    refine ite_dec (fun hd => ?_) (fun hd => ?_)
    · have hd : c ∈ DG := hd
      rw [if_pos hd] at h
      with_reducible refine ex_cons ?_
      refine ex_asg2 ?_ rfl rfl rfl rfl
      refine ev_call_def (by rw [hK']; k_is) (by rw [hK']; k_is) rfl (by decide) rfl ?_
      refine args_sv rfl ?_
      dsimp only
      refine c_read_number hK' (nle hn' hn rfl) ht hk (hdg hd) ?_
      cases hr : readNumber t k with
      | error e =>
        rw [hr] at h
        have := h []
        rw [List.append_nil] at this
        exact this
      | ok r =>
        rw [hr] at h
        dsimp only at h ⊢
        with_reducible refine ⟨_, _, rfl, ?_⟩
        with_reducible refine ex_cons ?_
        with_reducible refine ex_ret ?_
        with_reducible refine ev_tuple ?_
        with_reducible refine' args_cons' ?_ ?x13
        case x13 => rfl
        dsimp only
        refine ev_lfro ?_
        with_reducible refine' args_cons' ?_ ?x14
        case x14 => rfl
        with_reducible refine ev_tuple ?_
        refine args_sv rfl ?_
        refine ⟨by exact nb rfl, ?_⟩
        refine args_sv rfl ?_
        refine ⟨by exact nb rfl, ?_⟩
        refine args_sv rfl ?_
        refine ⟨by exact nb rfl, ?_⟩
        exact q0 h
    · have hd : ¬ c ∈ DG := hd
      rw [if_neg hd] at h
      generalize hws : (if c ∈ [63, 39] then (if c = 63 then wPRINT else wREM, 1) else (wordAt (great t) k, (wordAt (great t) k).length) : List Nat × Nat) = ws at h
      with_reducible refine ex_nil ?_
      dsimp only
      refine ex_cons ?_
      refine ex_cut ([("text", .str t), ("whole", .str (great t)), ("at", .int k), ("sign", .str [c]), ("word", .str ws.1), ("size", .int ws.2)] : Loc) μ ?_ ?_
      · with_reducible refine ex_if ?_
        refine et_cmp_r rfl ?_ rfl
        refine ev_sv rfl ?_
        with_reducible refine o_in_ss ?_
        with_reducible refine bool_ex ?_
        rw [e2]
        refine ite_dec (fun hs => ?_) (fun hs => ?_)
        · rw [if_pos hs] at hws
          with_reducible refine ex_cons ?_
          refine ex_asg2s ?_ rfl rfl rfl rfl
          with_reducible refine ev_tuple ?_
          with_reducible refine' args_cons' ?_ ?x15
          case x15 => rfl
          with_reducible refine ev_ifexp ?_
          refine et_cmp_r rfl ?_ rfl
          refine ev_sv rfl ?_
          with_reducible refine o_eq_ss ?_
          with_reducible refine bool_ex ?_
          dsimp only
          rw [e3]
          refine ite_b (fun hp => ?_) (fun hp => ?_)
          · have hp : c = 63 := by simpa using hp
            rw [if_pos hp] at hws
            subst hws
            refine ev_sv rfl ?_
            refine args_sv rfl ?_
            refine ⟨by exact nb rfl, ?_⟩
            with_reducible refine ⟨_, _, rfl, ?_⟩
            with_reducible refine ex_nil ?_
            with_reducible refine And.intro rfl ?_
            dsimp only
            rw [show ((1 : Nat) : Int) = 1 from rfl]
            exact ⟨by exact sub_lk rfl rfl, rfl⟩
          · have hp : ¬ c = 63 := by simpa using hp
            rw [if_neg hp] at hws
            subst hws
            refine ev_sv rfl ?_
            refine args_sv rfl ?_
            refine ⟨by exact nb rfl, ?_⟩
            with_reducible refine ⟨_, _, rfl, ?_⟩
            with_reducible refine ex_nil ?_
            with_reducible refine And.intro rfl ?_
            dsimp only
            rw [show ((1 : Nat) : Int) = 1 from rfl]
            exact ⟨by exact sub_lk rfl rfl, rfl⟩
        · rw [if_neg hs] at hws
          with_reducible refine ex_cons ?_
          refine ex_assign ?_ rfl rfl
          refine ev_call_def (by rw [hK']; k_is) (by rw [hK']; k_is) rfl (by decide) rfl ?_
          refine args_sv rfl ?_
          dsimp only
          refine c_word_at hK' (nle hn' hn rfl) (by (first | lia | omega)) ?_
          have hl := slc_le (wordAt_slc (great t) k)
          subst hws
          generalize wordAt (great t) k = wa at *
          with_reducible refine ex_cons ?_
          refine ex_assign ?_ rfl rfl
          refine ev_call_builtin (by rw [hK']; k_is) (by boot_fast) (by decide) rfl (by decide) rfl rfl ?_
          refine args_sv rfl ?_
          refine b_len_str' (by (first | lia | omega)) ?_
          with_reducible refine ex_nil ?_
          with_reducible refine And.intro rfl ?_
          dsimp only
          exact ⟨by exact sub_lk rfl rfl, rfl⟩
      · obtain ⟨hw, hw2⟩ := wsOk (t := great t) (by (first | lia | omega)) (wordAt_slc (great t) k) hws
        rw [gl] at hw hw2
        clear hws
        with_reducible refine ex_cons ?_
        with_reducible refine ex_if ?_
        refine et_cmp_r rfl ?_ rfl
        refine ev_sv rfl ?_
        with_reducible refine o_eq_ss ?_
        with_reducible refine bool_ex ?_
        refine ite_b (fun hr => ?_) (fun hr => ?_)
        · have hr : ws.1 = wREM := eq_of_beq hr
          rw [if_pos hr] at h
          with_reducible refine ex_cons ?_
          with_reducible refine ex_ret ?_
          with_reducible refine ev_tuple ?_
          with_reducible refine' args_cons' ?_ ?x16
          case x16 => rfl
          dsimp only
          refine ev_lfro ?_
          with_reducible refine' args_cons' ?_ ?x17
          case x17 => rfl
          with_reducible refine ev_tuple ?_
          refine args_sv rfl ?_
          refine ⟨by exact nb rfl, ?_⟩
          with_reducible refine' args_cons' ?_ ?x18
          case x18 => rfl
          with_reducible refine ev_tuple ?_
          with_reducible refine' args_cons' ?_ ?x19
          case x19 => rfl
          refine ev_sv rfl ?_
          with_reducible refine' args_cons' ?_ ?x20
          case x20 => rfl
          with_reducible refine ev_slice_n ?_
          refine ev_sv rfl ?_
          refine ev_call_def (by rw [hK']; k_is) (by rw [hK']; k_is) rfl (by decide) rfl ?_
          with_reducible refine' args_cons' ?_ ?x21
          case x21 => rfl
          refine ev_sv rfl ?_
          with_reducible refine' args_cons' ?_ ?x22
          case x22 => rfl
          refine ev_binop_r rfl ?_
          refine ev_sv rfl ?_
          with_reducible refine o_add_nn ?_
          refine args_sv rfl ?_
          refine c_behind_blanks hK' (nle hn' hn rfl) (by (first | lia | omega)) ?_
          with_reducible refine ⟨_, _, rfl, rfl, ?_⟩
          refine ⟨by exact Nat.le_trans (by assumption) (nb rfl), ?_⟩
          refine args_sv rfl ?_
          refine ⟨by exact nb rfl, ?_⟩
          refine args_sv rfl ?_
          refine ⟨by exact nb rfl, ?_⟩
          with_reducible refine' args_cons' ?_ ?x23
          case x23 => rfl
          refine ev_call_builtin (by rw [hK']; k_is) (by boot_fast) (by decide) rfl (by decide) rfl rfl ?_
          refine args_sv rfl ?_
          refine b_len_str' (by (first | lia | omega)) ?_
          refine args_sv rfl ?_
          refine ⟨by exact nb rfl, ?_⟩
          exact q0 h
        have hr : ¬ ws.1 = wREM := beq_f hr
        rw [if_neg hr] at h
        with_reducible refine ex_nil ?_
        with_reducible refine ex_cons ?_
        with_reducible refine ex_if ?_
        refine et_cmp_r rfl ?_ rfl
        refine ev_sv rfl ?_
        with_reducible refine o_eq_ss ?_
        with_reducible refine bool_ex ?_
        refine ite_b (fun hD => ?_) (fun hD => ?_)
        · have hD : ws.1 = wDATA := eq_of_beq hD
          rw [if_pos hD] at h
          have hle : k + ws.2 ≤ t.length := by
            rcases hw with q | q
            · exact absurd (hD.symm.trans q) wDATA_ne
            · exact q.2
          with_reducible refine ex_cons ?_
          refine ex_asg2 ?_ rfl rfl rfl rfl
          refine ev_call_def (by rw [hK']; k_is) (by rw [hK']; k_is) rfl (by decide) rfl ?_
          with_reducible refine' args_cons' ?_ ?x24
          case x24 => rfl
          refine ev_sv rfl ?_
          with_reducible refine' args_cons' ?_ ?x25
          case x25 => rfl
          refine ev_binop_r rfl ?_
          refine ev_sv rfl ?_
          with_reducible refine o_add_nn ?_
          refine args_sv rfl ?_
          dsimp only
          refine c_read_items hK' (nle hn' hn rfl) (by (first | lia | omega)) hle ?_
          cases hri : readItems t (k + ws.2) with
          | error e =>
            rw [hri] at h
            exact h
          | ok r =>
            rw [hri] at h
            have hrl : r.1.length ≤ 1300 := by
              unfold readItems at hri
              split at hri
              · cases hri
              · have := moreItems_len hri
                simp at this; (first | lia | omega)
            dsimp only at h ⊢
            with_reducible refine ⟨_, _, rfl, ?_⟩
            with_reducible refine ex_cons ?_
            with_reducible refine ex_ret ?_
            with_reducible refine ev_tuple ?_
            with_reducible refine' args_cons' ?_ ?x26
            case x26 => rfl
            refine ev_binop_r rfl ?_
            dsimp only
            refine ev_lfro ?_
            with_reducible refine' args_cons' ?_ ?x27
            case x27 => rfl
            with_reducible refine ev_tuple ?_
            refine args_sv rfl ?_
            refine ⟨by exact nb rfl, ?_⟩
            refine args_sv rfl ?_
            refine ⟨by exact nb rfl, ?_⟩
            refine o_add_L Lx.fro (Lx.lst get_mid) (by simp; (first | lia | omega)) ?_
            refine args_sv rfl ?_
            refine ⟨by exact nb rfl, ?_⟩
            exact h _
        have hD : ¬ ws.1 = wDATA := beq_f hD
        rw [if_neg hD] at h
        with_reducible refine ex_nil ?_
        with_reducible refine ex_cons ?_
        with_reducible refine ex_if ?_
        refine et_cmp_r rfl ?_ rfl
        refine ev_sv rfl ?_
        with_reducible refine o_ne_ss ?_
        with_reducible refine bool_ex ?_
        rw [e0]
        refine ite_b (fun hne => ?_) (fun hne => ?_)
        · have hne : ws.1 ≠ [] := bne_t hne
          rw [if_pos hne] at h
          with_reducible refine ex_cons ?_
          with_reducible refine ex_ret ?_
          with_reducible refine ev_tuple ?_
          with_reducible refine' args_cons' ?_ ?x28
          case x28 => rfl
          dsimp only
          refine ev_lfro ?_
          with_reducible refine' args_cons' ?_ ?x29
          case x29 => rfl
          with_reducible refine ev_tuple ?_
          refine args_sv rfl ?_
          refine ⟨by exact nb rfl, ?_⟩
          refine args_sv rfl ?_
          refine ⟨by exact nb rfl, ?_⟩
          with_reducible refine' args_cons' ?_ ?x30
          case x30 => rfl
          refine ev_binop_r rfl ?_
          refine ev_sv rfl ?_
          with_reducible refine o_add_nn ?_
          refine args_sv rfl ?_
          refine ⟨by exact nb rfl, ?_⟩
          exact q0 h
        have hne : ¬ ws.1 ≠ [] := fun q => q (bne_f hne)
        rw [if_neg hne] at h
        with_reducible refine ex_nil ?_
        with_reducible refine ex_cons ?_
        with_reducible refine ex_if ?_
        refine et_cmp ?_ rfl
        refine ev_sv rfl ?_
        refine ev_gstr (by rw [hK']; k_is) ?_ rfl (by decide)
        with_reducible refine o_in_ss ?_
        with_reducible refine bool_ex ?_
        refine ite_dec (fun hl => ?_) (fun hl => ?_)
        · have hl : c ∈ LT := hl
          rw [if_pos hl] at h
          with_reducible refine ex_cons ?_
          refine ex_asg2 ?_ rfl rfl rfl rfl
          refine ev_call_def (by rw [hK']; k_is) (by rw [hK']; k_is) rfl (by decide) rfl ?_
          refine args_sv rfl ?_
          dsimp only
          refine c_read_name hK' (nle hn' hn rfl) (by (first | lia | omega)) (by (first | lia | omega)) ?_
          generalize readName (great t) k = r at *
          with_reducible refine ⟨_, _, rfl, ?_⟩
          with_reducible refine ex_cons ?_
          with_reducible refine ex_ret ?_
          with_reducible refine ev_tuple ?_
          with_reducible refine' args_cons' ?_ ?x31
          case x31 => rfl
          dsimp only
          refine ev_lfro ?_
          with_reducible refine' args_cons' ?_ ?x32
          case x32 => rfl
          with_reducible refine ev_tuple ?_
          refine args_sv rfl ?_
          refine ⟨by exact nb rfl, ?_⟩
          refine args_sv rfl ?_
          refine ⟨by exact nb rfl, ?_⟩
          refine args_sv rfl ?_
          refine ⟨by exact nb rfl, ?_⟩
          exact q0 h
        have hl : ¬ c ∈ LT := hl
        rw [if_neg hl] at h
        with_reducible refine ex_nil ?_
        with_reducible refine ex_cons ?_
        refine ex_assign ?_ rfl rfl
        refine ev_call_def (by rw [hK']; k_is) (by rw [hK']; k_is) rfl (by decide) rfl ?_
        refine args_sv rfl ?_
        dsimp only
        refine c_sign_at hK' (nle hn' hn rfl) (by (first | lia | omega)) ?_
        have hsl := slc_le (signAt_slc (great t) k)
        generalize signAt (great t) k = sg at *
        with_reducible refine ex_cons ?_
        with_reducible refine ex_if ?_
        refine et_cmp_r rfl ?_ rfl
        refine ev_sv rfl ?_
        with_reducible refine o_eq_ss ?_
        with_reducible refine bool_ex ?_
        rw [e0]
        refine ite_b (fun hsg => ?_) (fun hsg => ?_)
        · have hsg : sg = [] := eq_of_beq hsg
          rw [if_pos hsg] at h
          with_reducible refine ex_cons ?_
          refine ex_raise (by assumption) (nle hn' hn rfl) ?_ rfl rfl
          exact h0 h
        · have hsg : ¬ sg = [] := beq_f hsg
          rw [if_neg hsg] at h
          with_reducible refine ex_nil ?_
          with_reducible refine ex_cons ?_
          with_reducible refine ex_ret ?_
          with_reducible refine ev_tuple ?_
          with_reducible refine' args_cons' ?_ ?x33
          case x33 => rfl
          dsimp only
          refine ev_lfro ?_
          with_reducible refine' args_cons' ?_ ?x34
          case x34 => rfl
          with_reducible refine ev_tuple ?_
          refine args_sv rfl ?_
          refine ⟨by exact nb rfl, ?_⟩
          refine args_sv rfl ?_
          refine ⟨by exact nb rfl, ?_⟩
          with_reducible refine' args_cons' ?_ ?x35
          case x35 => rfl
          with_reducible refine ev_binop ?_
          refine ev_sv rfl ?_
          refine ev_call_builtin (by rw [hK']; k_is) (by boot_fast) (by decide) rfl (by decide) rfl rfl ?_
          refine args_sv rfl ?_
          refine b_len_str' (by (first | lia | omega)) ?_
          with_reducible refine o_add_nn ?_
          refine args_sv rfl ?_
          refine ⟨by exact nb rfl, ?_⟩
          exact q0 h
end
theorem fillK4 (w : World) : PySem.Challenge.rw_nz0571_01 = PySem.Challenge.rw_nz0571_01 ∧ KH w.params = KH w.params := by
  k_fill
  exact ⟨rfl, rfl⟩
section
variable {w : World} {C : Ctx} {X : Str → St → Prop} {Q : V → St → Prop} {μ : St}
theorem c_tokens_of (hK : C.K = KH w.params) (hn : 6 ≤ C.n) {t : List Nat} (ht : t.length ≤ 600)
    (h : match tokensOf t with | .error e => ∀ g, X e (μ ++ g) | .ok l => ∀ g, Q (.lst μ.length) (μ ++ (l.map TK.v :: g))) :
    Op PR w C RV (fun us => call (.ref 118) us) X Q [.str t] μ := by
  refine' op_defl [("text", .str t)] ?k1 ?k2 ?k3 ?k4 ?k5 ?k6 ?k7 ?k8 ?k9 ?k10 ?k11 ?_
  case k1 => (rw [(by assumption : Ctx.K _ = KH _)]; k_is)
  case k2 => (rw [(by assumption : Ctx.K _ = KH _)]; k_is)
  case k3 => (first | lia | omega)
  case k5 => intro us h; rcases us with _ | ⟨a, _ | ⟨b, _ | ⟨c, _ | ⟨d, r⟩⟩⟩⟩ <;> first | rfl | (simp at h)
  case k4 => rfl
  case k6 => dsimp only [List.map]; decide
  case k7 => decide
  case k8 => dsimp only [List.map]; decide
  case k9 => rfl
  case k10 => rfl
  case k11 => rfl
  intro L C' hK' hn' hh' hf'
  unfold fB118
  replace hK' := hK'.trans hK
  have hb0 := bb_le (t := t) (Nat.zero_le _)
  unfold tokensOf at h
  with_reducible refine ex_cons ?_
  refine ex_asg2s ?_ rfl rfl rfl rfl
  with_reducible refine ev_tuple ?_
  with_reducible refine' args_cons' ?_ ?x0
  case x0 => rfl
  dsimp only
  refine ev_list ?_
  refine args_sv rfl ?_
  refine ⟨by exact nb rfl, ?_⟩
  with_reducible refine' args_cons' ?_ ?x1
  case x1 => rfl
  refine ev_call_def (by rw [hK']; k_is) (by rw [hK']; k_is) rfl (by decide) rfl ?_
  refine args_sv rfl ?_
  refine c_great_text hK' (nle hn' hn rfl) (by (first | lia | omega)) fun g => ?_
  refine args_sv rfl ?_
  refine ⟨by exact nb rfl, ?_⟩
  with_reducible refine ⟨_, _, rfl, ?_⟩
  with_reducible refine ex_cons ?_
  refine ex_assign ?_ rfl rfl
  refine ev_call_def (by rw [hK']; k_is) (by rw [hK']; k_is) rfl (by decide) rfl ?_
  refine args_sv rfl ?_
  dsimp only
  refine c_behind_blanks (k := 0) hK' (nle hn' hn rfl) (by (first | lia | omega)) ?_
  generalize bb t 0 = a0 at *
  with_reducible refine ex_cons ?_
  refine ex_sub (loc' := ([("text", .str t), ("at", .int a0), ("found", .lst μ.length), ("whole", .str (great t))] : Loc)) ?_ (by exact sub_lk rfl rfl)
  refine ex_while (fun n loc μ' => ∃ acc, ∃ a : Nat, ∃ g, μ' = μ ++ (acc.map TK.v :: g) ∧ loc = ([("text", .str t), ("at", .int a), ("found", .lst μ.length), ("whole", .str (great t))] : Loc) ∧ a ≤ t.length ∧ t.length ≤ a + n ∧ acc.length + 1300 * n ≤ 1300 * t.length ∧ moreTokens t (great t) n acc a = moreTokens t (great t) t.length [] a0) t.length ⟨[], a0, g, by simp, rfl, hb0, by (first | lia | omega), by simp, rfl⟩ ?_ hf' rfl
  rintro n _ _ ⟨acc, a, g, rfl, rfl, hal, han, hacc, hm⟩
  refine et_cmp ?_ rfl
  refine ev_sv rfl ?_
  refine ev_call_builtin (by rw [hK']; k_is) (by boot_fast) (by decide) rfl (by decide) rfl rfl ?_
  refine args_sv rfl ?_
  refine b_len_str' (by (first | lia | omega)) ?_
  with_reducible refine o_lt_nn ?_
  with_reducible refine bool_ex ?_
  dsimp only
  refine ite_dec (fun hc => ?_) (fun hc => ?_)
  · obtain ⟨m, rfl⟩ : ∃ m, n = m + 1 := ⟨n - 1, by (first | lia | omega)⟩
    have hm' := hm
    conv at hm' => lhs; unfold moreTokens
    rw [if_pos hc] at hm'
    refine ex_q fun QQ hQ => ?_
    with_reducible refine ex_cons ?_
    refine ex_asg2 ?_ rfl rfl rfl rfl
    refine ev_call_def (by rw [hK']; k_is) (by rw [hK']; k_is) rfl (by decide) rfl ?_
    refine args_sv rfl ?_
    dsimp only
    refine c_read_token hK' (nle hn' hn rfl) ht hc ?_
    cases hr : readToken t (great t) a with
    | error e =>
      rw [hr] at hm'
      rw [← hm'] at h
      intro g'
      have := h ((acc.map TK.v :: g) ++ g')
      rwa [List.append_assoc]
    | ok r =>
      rw [hr] at hm'
      have hrl := readToken_le hc hr
      have hln := readToken_len hr
      have hb3 := bb_le hrl.2
      have hb4 := bb_ge t r.2
      dsimp only at hm' ⊢
      intro g'
      rw [show μ ++ acc.map TK.v :: g ++ g' = μ ++ (acc.map TK.v :: (g ++ g')) by simp]
      with_reducible refine ⟨_, _, rfl, ?_⟩
      with_reducible refine ex_cons ?_
      refine ex_expr ?_ rfl rfl
      with_reducible refine' ev_mlist F.slot_list_extend F.type_list_extend ?x2 ?x3 ?x4 ?_
      case x2 => rfl
      case x3 => rfl
      case x4 => rfl
      refine ev_sv rfl ?_
      with_reducible refine' isl_lst ?x5 ?_
      case x5 => (simp; done)
      refine args_sv rfl ?_
      dsimp only
      refine m_extend_L get_mid Lx.fro (by simp; (first | lia | omega)) ?_
      rw [set_mid]
      with_reducible refine And.intro rfl ?_
      with_reducible refine ex_cons ?_
      refine ex_assign ?_ rfl rfl
      refine ev_call_def (by rw [hK']; k_is) (by rw [hK']; k_is) rfl (by decide) rfl ?_
      refine args_sv rfl ?_
      dsimp only
      refine c_behind_blanks hK' (nle hn' hn rfl) (by (first | lia | omega)) ?_
      with_reducible refine ex_nil ?_
      refine hQ _ _ _ ?_
      dsimp only
      refine ⟨m, _, by (first | lia | omega), ?_, acc ++ r.1, bb t r.2, g ++ g', ?_, rfl, hb3, by (first | lia | omega), by simp; (first | lia | omega), hm'⟩
      · exact sub_lk rfl rfl
      · rw [List.map_append]
  · have hs : moreTokens t (great t) n acc a = .ok acc := by
      cases n with
      | zero => rfl
      | succ m => unfold moreTokens; rw [if_neg hc]
    rw [← hm, hs] at h
    with_reducible refine ex_nil ?_
    with_reducible refine ex_cons ?_
    with_reducible refine ex_ret ?_
    refine ev_sv rfl ?_
    dsimp only
    exact h g
theorem isPlain_eq (t : List Nat) : isPlain t = (t != [] && (!decide (nth t 0 ∈ BL ++ [34]) && !decide (t.getLastD 0 ∈ BL))) := by unfold isPlain; rw [Bool.and_assoc]
theorem c_item_text (hK : C.K = KH w.params) (hn : 1 ≤ C.n) {t : List Nat} (ht : t.length < 2 ^ 18) (h : Q (.str (itemText t)) μ) :
    Op PR w C RV (fun us => call (.ref 125) us) X Q [.str t] μ := by
  refine' op_defl [("item", .str t)] ?k1 ?k2 ?k3 ?k4 ?k5 ?k6 ?k7 ?k8 ?k9 ?k10 ?k11 ?_
  case k1 => (rw [(by assumption : Ctx.K _ = KH _)]; k_is)
  case k2 => (rw [(by assumption : Ctx.K _ = KH _)]; k_is)
  case k3 => (first | lia | omega)
  case k5 => intro us h; rcases us with _ | ⟨a, _ | ⟨b, _ | ⟨c, _ | ⟨d, r⟩⟩⟩⟩ <;> first | rfl | (simp at h)
  case k4 => rfl
  case k6 => dsimp only [List.map]; decide
  case k7 => decide
  case k8 => dsimp only [List.map]; decide
  case k9 => rfl
  case k10 => rfl
  case k11 => rfl
  intro L C' hK' hn' hh' hf'
  unfold fB125
  replace hK' := hK'.trans hK
  have e0 : cs ("" : Str) = [] := by decide
  have e1 : cs ("\"" : Str) = [34] := by decide
  have e2 : cs ("," : Str) = [44] := by decide
  have e3 : cs (":" : Str) = [58] := by decide
  with_reducible refine ex_cons ?_
  refine ex_assign (Ev.is (.bool (isPlain t)) ?_ ?_) rfl rfl
  · rw [isPlain_eq]
    with_reducible refine ev_and3 ?_
    refine ev_cmp_r rfl ?_ rfl
    refine ev_sv rfl ?_
    with_reducible refine o_ne_ss ?_
    with_reducible refine bool_ex ?_
    rw [e0]
    refine ite_b (fun hne => ?_) (fun hne => ?_)
    · have hne' : t ≠ [] := bne_t hne
      have hl : 0 < t.length := List.length_pos_iff.mpr hne'
      with_reducible refine ev_and2 ?_
      refine ev_cmp ?_ rfl
      refine ev_sub_r rfl ?_
      refine ev_sv rfl ?_
      refine o_item_str 0 rfl (nb rfl) (nth_get hl) ?_ (fun _ _ => rfl)
      refine ev_binop_r rfl ?_
      refine ev_gstr (by rw [hK']; k_is) ?_ rfl (by decide)
      refine o_add_ss (by decide) ?_
      with_reducible refine o_notin_ss ?_
      with_reducible refine bool_ex ?_
      try rw [e1]
      refine ite_ndec (fun hm => ?_) (fun hm => ?_)
      · have hm : ¬ nth t 0 ∈ BL ++ [34] := hm
        have hgl : t.getLast? = some (t.getLastD 0) := by
          rw [List.getLastD_eq_getLast?]
          cases q : t.getLast? with
          | none => exact absurd (List.getLast?_eq_none_iff.mp q) hne'
          | some c => rfl
        refine ev_cmp ?_ rfl
        with_reducible refine ev_sub ?_
        refine ev_sv rfl ?_
        refine ev_usub ?_
        refine ev_sv rfl ?_
        with_reducible refine Exists.intro _ (And.intro rfl ?_)
        refine o_item_str_neg hgl ?_ (fun _ _ => rfl)
        refine ev_gstr (by rw [hK']; k_is) ?_ rfl (by decide)
        with_reducible refine o_notin_ss ?_
        exact ⟨by rw [hne, decide_eq_false hm]; rfl, rfl⟩
      · have hm : nth t 0 ∈ BL ++ [34] := hm
        exact ⟨by rw [decide_eq_true hm, Bool.not_true, Bool.false_and, Bool.and_false], rfl⟩
    · exact ⟨by rw [hne]; rfl, rfl⟩
  · unfold itemText at h
    with_reducible refine ex_cons ?_
    with_reducible refine ex_if ?_
    with_reducible refine et_bool ?_
    with_reducible refine et_or_cons ?_
    refine et_cmp_r rfl ?_ rfl
    refine ev_sv rfl ?_
    with_reducible refine o_eq_ss ?_
    with_reducible refine bool_ex ?_
    rw [e0]
    refine ite_b (fun hz => ?_) (fun hz => ?_)
    · rw [if_pos (.inl (eq_of_beq hz))] at h
      with_reducible refine ite_tt ?_
      with_reducible refine ex_cons ?_
      with_reducible refine ex_ret ?_
      refine ev_sv rfl ?_
      dsimp only
      exact h
    · have hz : ¬ t = [] := beq_f hz
      with_reducible refine et_or_cons ?_
      with_reducible refine et_bool ?_
      with_reducible refine et_and_cons ?_
      refine et_value ?_ rfl
      refine ev_sv rfl ?_
      with_reducible refine bool_ex ?_
      cases hp : isPlain t with
      | false =>
        rw [hp] at h
        rw [if_neg (by simp [hz])] at h
        with_reducible refine ite_ff ?_
        with_reducible refine ite_ff ?_
        with_reducible refine et_or_nil ?_
        with_reducible refine ite_ff ?_
        with_reducible refine ex_nil ?_
        with_reducible refine ex_cons ?_
        with_reducible refine ex_ret ?_
        refine ev_binop_r rfl ?_
        refine ev_binop_r rfl ?_
        refine ev_sv rfl ?_
        dsimp only
        try rw [e1]
        refine o_add_ss (by simp only [List.length_append, List.length_cons, List.length_nil, List.length_take, List.length_drop, List.length_reverse, sizeLine]; (first | lia | omega)) ?_
        refine o_add_ss (by simp only [List.length_append, List.length_cons, List.length_nil, List.length_take, List.length_drop, List.length_reverse, sizeLine]; (first | lia | omega)) ?_
        try rw [e1]
        exact h
      | true =>
        rw [hp] at h
        with_reducible refine ite_tt ?_
        with_reducible refine et_and_cons ?_
        refine et_cmp_r rfl ?_ rfl
        refine ev_sv rfl ?_
        rw [e2]
        with_reducible refine o_notin_ss ?_
        with_reducible refine bool_ex ?_
        refine ite_ndec (fun h4 => ?_) (fun h4 => ?_)
        · with_reducible refine et_and_cons ?_
          refine et_cmp_r rfl ?_ rfl
          refine ev_sv rfl ?_
          rw [e3]
          with_reducible refine o_notin_ss ?_
          with_reducible refine bool_ex ?_
          refine ite_ndec (fun h5 => ?_) (fun h5 => ?_)
          · rw [if_pos (.inr ⟨rfl, h4, h5⟩)] at h
            with_reducible refine et_and_nil ?_
            with_reducible refine ite_tt ?_
            with_reducible refine ite_tt ?_
            with_reducible refine ex_cons ?_
            with_reducible refine ex_ret ?_
            refine ev_sv rfl ?_
            dsimp only
            exact h
          · rw [if_neg (by simp [hz]; intro _; exact h5)] at h
            with_reducible refine ite_ff ?_
            with_reducible refine et_or_nil ?_
            with_reducible refine ite_ff ?_
            with_reducible refine ex_nil ?_
            with_reducible refine ex_cons ?_
            with_reducible refine ex_ret ?_
            refine ev_binop_r rfl ?_
            refine ev_binop_r rfl ?_
            refine ev_sv rfl ?_
            dsimp only
            try rw [e1]
            refine o_add_ss (by simp only [List.length_append, List.length_cons, List.length_nil, List.length_take, List.length_drop, List.length_reverse, sizeLine]; (first | lia | omega)) ?_
            refine o_add_ss (by simp only [List.length_append, List.length_cons, List.length_nil, List.length_take, List.length_drop, List.length_reverse, sizeLine]; (first | lia | omega)) ?_
            try rw [e1]
            exact h
        · rw [if_neg (by simp [hz]; intro q; exact absurd h4 q)] at h
          with_reducible refine ite_ff ?_
          with_reducible refine et_or_nil ?_
          with_reducible refine ite_ff ?_
          with_reducible refine ex_nil ?_
          with_reducible refine ex_cons ?_
          with_reducible refine ex_ret ?_
          refine ev_binop_r rfl ?_
          refine ev_binop_r rfl ?_
          refine ev_sv rfl ?_
          dsimp only
          try rw [e1]
          refine o_add_ss (by simp only [List.length_append, List.length_cons, List.length_nil, List.length_take, List.length_drop, List.length_reverse, sizeLine]; (first | lia | omega)) ?_
          refine o_add_ss (by simp only [List.length_append, List.length_cons, List.length_nil, List.length_take, List.length_drop, List.length_reverse, sizeLine]; (first | lia | omega)) ?_
          try rw [e1]
          exact h
end
theorem fillK5 (w : World) : PySem.Challenge.rw_nz0571_01 = PySem.Challenge.rw_nz0571_01 ∧ KH w.params = KH w.params := by
  k_fill
  exact ⟨rfl, rfl⟩
section
variable {w : World} {C : Ctx} {X : Str → St → Prop} {Q : V → St → Prop} {μ : St}
theorem c_token_text (hK : C.K = KH w.params) (hn : 2 ≤ C.n) {t : TK} {a : List Nat} (ht : t.small) (h : Q (.str (tokenText t a)) μ) :
    Op PR w C RV (fun us => call (.ref 132) us) X Q [t.v, .str a] μ := by
  refine' op_defl [("token", t.v), ("ahead", .str a)] ?k1 ?k2 ?k3 ?k4 ?k5 ?k6 ?k7 ?k8 ?k9 ?k10 ?k11 ?_
  case k1 => (rw [(by assumption : Ctx.K _ = KH _)]; k_is)
  case k2 => (rw [(by assumption : Ctx.K _ = KH _)]; k_is)
  case k3 => (first | lia | omega)
  case k5 => intro us h; rcases us with _ | ⟨a, _ | ⟨b, _ | ⟨c, _ | ⟨d, r⟩⟩⟩⟩ <;> first | rfl | (simp at h)
  case k4 => rfl
  case k6 => dsimp only [List.map]; decide
  case k7 => decide
  case k8 => dsimp only [List.map]; decide
  case k9 => rfl
  case k10 => rfl
  case k11 => rfl
  intro L C' hK' hn' hh' hf'
  unfold fB132
  replace hK' := hK'.trans hK
  have e1 : cs ("\"" : Str) = [34] := by decide
  rw [kv_fl]
  with_reducible refine ex_cons ?_
  refine ex_asg2 ?_ rfl rfl rfl rfl
  refine ev_sv rfl ?_
  with_reducible refine ⟨_, _, rfl, ?_⟩
  with_reducible refine ex_cons ?_
  with_reducible refine ex_if ?_
  refine et_cmp_r rfl ?_ rfl
  refine ev_sv rfl ?_
  with_reducible refine o_eq_ss ?_
  with_reducible refine bool_ex ?_
  cases t with
  | num n =>
    dsimp only [TK.kind, TK.val]
    refine ite_t (by decide) ?_
    with_reducible refine ex_cons ?_
    with_reducible refine ex_ret ?_
    refine ev_call_type (by rw [hK']; k_is) (by boot_fast) (by decide) rfl (by decide) rfl rfl ?_
    refine args_sv rfl ?_
    dsimp only
    simp only [TK.small] at ht
    refine b_str_int (by (first | lia | omega)) (by (first | lia | omega)) ?_
    exact h
  | text x =>
    dsimp only [TK.kind, TK.val]
    simp only [TK.small] at ht
    refine ite_f (by decide) ?_
    with_reducible refine ex_nil ?_
    with_reducible refine ex_cons ?_
    with_reducible refine ex_if ?_
    refine et_cmp_r rfl ?_ rfl
    refine ev_sv rfl ?_
    with_reducible refine o_eq_ss ?_
    with_reducible refine bool_ex ?_
    refine ite_t (by decide) ?_
    with_reducible refine ex_cons ?_
    with_reducible refine ex_ret ?_
    refine ev_binop_r rfl ?_
    refine ev_binop_r rfl ?_
    refine ev_sv rfl ?_
    dsimp only
    try rw [e1]
    refine o_add_ss (by simp only [List.length_append, List.length_cons, List.length_nil, List.length_take, List.length_drop, List.length_reverse, sizeLine]; (first | lia | omega)) ?_
    refine o_add_ss (by simp only [List.length_append, List.length_cons, List.length_nil, List.length_take, List.length_drop, List.length_reverse, sizeLine]; (first | lia | omega)) ?_
    try rw [e1]
    exact h
  | raw x =>
    dsimp only [TK.kind, TK.val]
    simp only [TK.small] at ht
    refine ite_f (by decide) ?_
    with_reducible refine ex_nil ?_
    with_reducible refine ex_cons ?_
    with_reducible refine ex_if ?_
    refine et_cmp_r rfl ?_ rfl
    refine ev_sv rfl ?_
    with_reducible refine o_eq_ss ?_
    with_reducible refine bool_ex ?_
    refine ite_f (by decide) ?_
    with_reducible refine ex_nil ?_
    with_reducible refine ex_cons ?_
    with_reducible refine ex_if ?_
    with_reducible refine et_bool ?_
    with_reducible refine et_and_cons ?_
    refine et_cmp_r rfl ?_ rfl
    refine ev_sv rfl ?_
    with_reducible refine o_eq_ss ?_
    with_reducible refine bool_ex ?_
    refine ite_t (by decide) ?_
    with_reducible refine et_and_cons ?_
    refine et_cmp_r rfl ?_ rfl
    refine ev_sv rfl ?_
    with_reducible refine o_eq_ss ?_
    with_reducible refine bool_ex ?_
    simp only [tokenText] at h
    refine ite_b (fun hq => ?_) (fun hq => ?_)
    · rw [if_pos (eq_of_beq hq)] at h
      with_reducible refine et_and_nil ?_
      with_reducible refine ite_tt ?_
      with_reducible refine ex_cons ?_
      with_reducible refine ex_ret ?_
      refine ev_call_def (by rw [hK']; k_is) (by rw [hK']; k_is) rfl (by decide) rfl ?_
      refine args_sv rfl ?_
      dsimp only
      exact c_item_text hK' (nle hn' hn rfl) (Nat.lt_of_lt_of_le (by assumption) (nb rfl)) h
    · rw [if_neg (beq_f hq)] at h
      with_reducible refine ite_ff ?_
      with_reducible refine ex_nil ?_
      with_reducible refine ex_cons ?_
      with_reducible refine ex_ret ?_
      refine ev_sv rfl ?_
      dsimp only
      exact h
  | word x | name x | sign x =>
    dsimp only [TK.kind, TK.val]
    refine ite_f (by decide) ?_
    with_reducible refine ex_nil ?_
    with_reducible refine ex_cons ?_
    with_reducible refine ex_if ?_
    refine et_cmp_r rfl ?_ rfl
    refine ev_sv rfl ?_
    with_reducible refine o_eq_ss ?_
    with_reducible refine bool_ex ?_
    refine ite_f (by decide) ?_
    with_reducible refine ex_nil ?_
    with_reducible refine ex_cons ?_
    with_reducible refine ex_if ?_
    with_reducible refine et_bool ?_
    with_reducible refine et_and_cons ?_
    refine et_cmp_r rfl ?_ rfl
    refine ev_sv rfl ?_
    with_reducible refine o_eq_ss ?_
    with_reducible refine bool_ex ?_
    refine ite_f (by decide) ?_
    with_reducible refine ite_ff ?_
    with_reducible refine ex_nil ?_
    with_reducible refine ex_cons ?_
    with_reducible refine ex_ret ?_
    refine ev_sv rfl ?_
    dsimp only
    exact h
theorem c_needs_blank (hK : C.K = KH w.params) (hn : 1 ≤ C.n) {t l : TK} (h : Q (.bool (needBlank t l)) μ) :
    Op PR w C RV (fun us => call (.ref 139) us) X Q [t.v, l.v] μ := by
  refine' op_defl [("token", t.v), ("later", l.v)] ?k1 ?k2 ?k3 ?k4 ?k5 ?k6 ?k7 ?k8 ?k9 ?k10 ?k11 ?_
  case k1 => (rw [(by assumption : Ctx.K _ = KH _)]; k_is)
  case k2 => (rw [(by assumption : Ctx.K _ = KH _)]; k_is)
  case k3 => (first | lia | omega)
  case k5 => intro us h; rcases us with _ | ⟨a, _ | ⟨b, _ | ⟨c, _ | ⟨d, r⟩⟩⟩⟩ <;> first | rfl | (simp at h)
  case k4 => rfl
  case k6 => dsimp only [List.map]; decide
  case k7 => decide
  case k8 => dsimp only [List.map]; decide
  case k9 => rfl
  case k10 => rfl
  case k11 => rfl
  intro L C' hK' hn' hh' hf'
  unfold fB139
  replace hK' := hK'.trans hK
  rw [kv_fl, kv_fl]
  with_reducible refine ex_cons ?_
  with_reducible refine ex_ret ?_
  with_reducible refine ev_and2 ?_
  refine ev_cmp_r rfl ?_ rfl
  refine ev_sub_r rfl ?_
  refine ev_sv rfl ?_
  dsimp only
  refine o_item_tup 1 rfl (nb rfl) rfl ?_ (fun _ _ => rfl)
  refine o_ne_fl (val_fl t) rfl ?_
  refine ⟨_, rfl, ?_⟩
  unfold needBlank at h
  refine ite_b (fun hq => ?_) (fun hq => ?_)
  · rw [hq, Bool.true_and] at h
    with_reducible refine ev_not ?_
    with_reducible refine ev_and2 ?_
    refine ev_cmp_r rfl ?_ rfl
    refine ev_sub_r rfl ?_
    refine ev_sv rfl ?_
    refine o_item_tup 0 rfl (nb rfl) rfl ?_ (fun _ _ => rfl)
    with_reducible refine o_eq_ss ?_
    with_reducible refine bool_ex ?_
    refine ite_b (fun hs => ?_) (fun hs => ?_)
    · rw [hs, Bool.true_and] at h
      refine ev_cmp ?_ rfl
      refine ev_sub_r rfl ?_
      refine ev_sv rfl ?_
      refine o_item_tup 1 rfl (nb rfl) rfl ?_ (fun _ _ => rfl)
      with_reducible refine ev_tuple ?_
      refine args_sv rfl ?_
      refine ⟨by exact nb rfl, ?_⟩
      obtain ⟨x, hx⟩ : ∃ x, l.val = .str x := by
        cases l with
        | num n => exact absurd hs (show ¬ (cs "number" == cs "sign") = true by decide)
        | _ => exact ⟨_, rfl⟩
      rw [hx] at h ⊢
      refine o_in_st (by simp) ?_
      exact ⟨_, rfl, h⟩
    · rw [hs, Bool.false_and] at h
      exact ⟨_, rfl, h⟩
  · rw [hq, Bool.false_and] at h
    exact h
theorem c_text_of (hK : C.K = KH w.params) (hn : 3 ≤ C.n) {d : V} {ts : List TK} (hd : Lx μ d (ts.map TK.v)) (hl : ts.length ≤ 60) (hs : ∀ t ∈ ts, t.small) (h : Q (.str (textOf ts)) μ) :
    Op PR w C RV (fun us => call (.ref 146) us) X Q [d] μ := by
  refine' op_defl [("tokens", d)] ?k1 ?k2 ?k3 ?k4 ?k5 ?k6 ?k7 ?k8 ?k9 ?k10 ?k11 ?_
  case k1 => (rw [(by assumption : Ctx.K _ = KH _)]; k_is)
  case k2 => (rw [(by assumption : Ctx.K _ = KH _)]; k_is)
  case k3 => (first | lia | omega)
  case k5 => intro us h; rcases us with _ | ⟨a, _ | ⟨b, _ | ⟨c, _ | ⟨d, r⟩⟩⟩⟩ <;> first | rfl | (simp at h)
  case k4 => rfl
  case k6 => dsimp only [List.map]; decide
  case k7 => decide
  case k8 => dsimp only [List.map]; decide
  case k9 => rfl
  case k10 => rfl
  case k11 => rfl
  intro L C' hK' hn' hh' hf'
  unfold fB146
  replace hK' := hK'.trans hK
  have e0 : cs ("" : Str) = [] := by decide
  have e1 : cs (" " : Str) = [32] := by decide
  with_reducible refine ex_cons ?_
  refine ex_asg2 ?_ rfl rfl rfl rfl
  with_reducible refine ev_tuple ?_
  refine args_sv rfl ?_
  refine ⟨by exact nb rfl, ?_⟩
  with_reducible refine ⟨_, _, rfl, ?_⟩
  with_reducible refine ex_cons ?_
  rw [e0]
  refine ex_sub (loc' := ([("tokens", d), ("found", .str []), ("ahead", .str [])] : Loc)) ?_ (by exact sub_lk rfl rfl)
  refine ex_for (evi_enum (by rw [hK']; k_is) rfl rfl ?_) hf' rfl (fun _ => rfl)
  refine ev_sv rfl ?_
  dsimp only
  refine ⟨_, hd, fun i loc μ' => μ' = μ ∧ loc = ([("tokens", d), ("found", .str (textPref ts i).1), ("ahead", .str (textPref ts i).2)] : Loc), ⟨rfl, rfl⟩, ?_, ?_, ?_⟩
  · rintro k loc μ' ⟨rfl, rfl⟩; exact hd.lists
  · rintro k v _ μ₁ hv ⟨rfl, rfl⟩
    obtain ⟨x, hx, rfl⟩ := enumL_get hv
    obtain ⟨t, ht, rfl⟩ : ∃ t, ts[k]? = some t ∧ x = TK.v t := by
      simp only [List.getElem?_map, Option.map_eq_some_iff] at hx
      obtain ⟨c, h1, h2⟩ := hx; exact ⟨c, h1, h2.symm⟩
    refine ⟨_, ast_two rfl rfl, ?_⟩
    have hk : k < ts.length := (List.getElem?_eq_some_iff.mp ht).1
    have hfl := textPref_len hs k
    have hstep : textPref ts (k + 1) = textStep (if k = 0 then none else ts[k - 1]?) (textPref ts k).1 (textPref ts k).2 t := by
      conv => lhs; unfold textPref
      rw [ht]
    dsimp only
    rw [hstep]
    generalize textPref ts k = fa at *
    obtain ⟨f, a⟩ := fa
    dsimp only at hfl ⊢
    have hts : t.small := hs t (List.mem_of_getElem? ht)
    refine ex_cons ?_
    refine ex_cut ([("tokens", d), ("found", .str (sepText (if k = 0 then none else ts[k - 1]?) f t)), ("ahead", .str a), ("at", .int k), ("token", TK.v t)] : Loc) μ₁ ?_ ?_
    · with_reducible refine ex_if ?_
      with_reducible refine et_bool ?_
      with_reducible refine et_and_cons ?_
      refine et_cmp_r rfl ?_ rfl
      refine ev_sv rfl ?_
      with_reducible refine o_gt_n0 ?_
      with_reducible refine bool_ex ?_
      rcases Nat.eq_zero_or_pos k with rfl | hk0
      · rw [if_pos rfl, sepText_none]
        refine ite_f (by decide) ?_
        with_reducible refine ite_ff ?_
        with_reducible refine ex_nil ?_
        with_reducible refine And.intro rfl ?_
        exact ⟨by exact sub_lk rfl rfl, rfl⟩
      · refine ite_t (by simpa using hk0) ?_
        obtain ⟨p, hp⟩ : ∃ p, ts[k - 1]? = some p := ⟨_, List.getElem?_eq_getElem (by (first | lia | omega))⟩
        have hpv : (ts.map TK.v)[k - 1]? = some p.v := by rw [List.getElem?_map, hp]; rfl
        rw [if_neg (by (first | lia | omega)), hp]
        have ek : (k : Int) - 1 = ((k - 1 : Nat) : Int) := by (first | lia | omega)
        with_reducible refine et_and_cons ?_
        refine et_value ?_ rfl
        refine ev_call_def (by rw [hK']; k_is) (by rw [hK']; k_is) rfl (by decide) rfl ?_
        with_reducible refine' args_cons' ?_ ?x0
        case x0 => rfl
        with_reducible refine ev_sub ?_
        refine ev_sv rfl ?_
        refine ev_binop_r rfl ?_
        refine ev_sv rfl ?_
        with_reducible refine o_sub_ii ?_
        rw [ek]
        refine o_item_L hd (by (first | lia | omega)) hpv ?_ (fun _ _ => rfl)
        refine args_sv rfl ?_
        refine c_needs_blank hK' (nle hn' hn rfl) ?_
        with_reducible refine bool_ex ?_
        refine ite_b (fun hb => ?_) (fun hb => ?_)
        · with_reducible refine et_and_cons ?_
          refine et_cmp ?_ rfl
          refine ev_sv rfl ?_
          with_reducible refine ev_tuple ?_
          refine args_sv rfl ?_
          refine ⟨by exact nb rfl, ?_⟩
          rw [kv_fl]
          refine o_ne_tt (by show (true && (IsFl t.val && true)) = true; rw [val_fl]; rfl) rfl ?_
          rw [show leq [V.str t.kind, t.val] [V.str (cs "raw"), V.str (cs "")] = decide (t = .raw []) from leq_tk t (.raw [])]
          with_reducible refine bool_ex ?_
          refine ite_b (fun hq => ?_) (fun hq => ?_)
          · have hq' : t ≠ .raw [] := by simpa using hq
            rw [sepText_yes f hb hq']
            with_reducible refine et_and_nil ?_
            with_reducible refine ite_tt ?_
            with_reducible refine ex_cons ?_
            refine ex_aug (lk_mem rfl) ?_ rfl
            refine ev_sv rfl ?_
            dsimp only
            try rw [e1]
            refine o_iadd_ss (by simp only [List.length_append, List.length_cons, List.length_nil, List.length_take, List.length_drop, List.length_reverse, sizeLine]; (first | lia | omega)) ?_
            with_reducible refine ex_nil ?_
            with_reducible refine And.intro rfl ?_
            exact ⟨by exact sub_lk rfl rfl, rfl⟩
          · have hq' : t = .raw [] := by simpa using hq
            rw [sepText_no f ( fun c => c.2 hq')]
            with_reducible refine ite_ff ?_
            with_reducible refine ex_nil ?_
            with_reducible refine And.intro rfl ?_
            exact ⟨by exact sub_lk rfl rfl, rfl⟩
        · rw [sepText_no f ( fun c => by rw [c.1] at hb; exact absurd hb (by decide))]
          with_reducible refine ite_ff ?_
          with_reducible refine ex_nil ?_
          with_reducible refine And.intro rfl ?_
          exact ⟨by exact sub_lk rfl rfl, rfl⟩
    · have hf1 := sepText_len (if k = 0 then none else ts[k - 1]?) f t
      unfold textStep
      dsimp only
      generalize sepText (if k = 0 then none else ts[k - 1]?) f t = f1 at *
      have hl1 := fun a => tokenText_len (t := t) (a := a) hts
      rw [kv_fl]
      with_reducible refine ex_cons ?_
      with_reducible refine ex_if ?_
      refine et_cmp_r rfl ?_ rfl
      refine ev_sub_r rfl ?_
      refine ev_sv rfl ?_
      refine o_item_tup 0 rfl (nb rfl) rfl ?_ (fun _ _ => rfl)
      with_reducible refine o_eq_ss ?_
      with_reducible refine bool_ex ?_
      refine ite_b (fun hq => ?_) (fun hq => ?_)
      · obtain ⟨x, rfl⟩ : ∃ x, t = .word x := by
          cases t with
          | word x => exact ⟨x, rfl⟩
          | num x => exact absurd hq (show ¬ (cs "number" == cs "word") = true by decide)
          | name x => exact absurd hq (show ¬ (cs "name" == cs "word") = true by decide)
          | text x => exact absurd hq (show ¬ (cs "text" == cs "word") = true by decide)
          | raw x => exact absurd hq (show ¬ (cs "raw" == cs "word") = true by decide)
          | sign x => exact absurd hq (show ¬ (cs "sign" == cs "word") = true by decide)
        dsimp only [TK.kind, TK.val]
        with_reducible refine ex_cons ?_
        refine ex_assign ?_ rfl rfl
        refine ev_sub_r rfl ?_
        refine ev_sv rfl ?_
        dsimp only
        refine o_item_tup 1 rfl (nb rfl) rfl ?_ (fun _ _ => rfl)
        with_reducible refine ex_nil ?_
        with_reducible refine ex_cons ?_
        refine ex_aug (lk_mem rfl) ?_ rfl
        refine ev_call_def (by rw [hK']; k_is) (by rw [hK']; k_is) rfl (by decide) rfl ?_
        refine args_sv rfl ?_
        dsimp only
        refine c_token_text hK' (nle hn' hn rfl) (t := .word x) hts ?_
        have := hl1 x
        rw [show aheadOf (.word x) a = x from rfl]
        refine o_iadd_ss (by simp only [List.length_append, List.length_cons, List.length_nil, List.length_take, List.length_drop, List.length_reverse, sizeLine]; (first | lia | omega)) ?_
        with_reducible refine ex_nil ?_
        dsimp only
        exact ⟨_, by exact sub_lk rfl rfl, rfl, rfl⟩
      · have ea : aheadOf t a = a := by
          cases t with
          | word x => exact absurd hq (show ¬ (cs "word" == cs "word") = false by decide)
          | _ => rfl
        rw [ea]
        with_reducible refine ex_nil ?_
        with_reducible refine ex_cons ?_
        refine ex_aug (lk_mem rfl) ?_ rfl
        refine ev_call_def (by rw [hK']; k_is) (by rw [hK']; k_is) rfl (by decide) rfl ?_
        refine args_sv rfl ?_
        dsimp only
        refine c_token_text hK' (nle hn' hn rfl) hts ?_
        have := hl1 a
        refine o_iadd_ss (by simp only [List.length_append, List.length_cons, List.length_nil, List.length_take, List.length_drop, List.length_reverse, sizeLine]; (first | lia | omega)) ?_
        with_reducible refine ex_nil ?_
        dsimp only
        exact ⟨_, by exact sub_lk rfl rfl, rfl, rfl⟩
  · rintro _ _ ⟨rfl, rfl⟩
    rw [enum_pref] at h
    with_reducible refine ex_nil ?_
    with_reducible refine ex_cons ?_
    with_reducible refine ex_ret ?_
    refine ev_sv rfl ?_
    dsimp only
    exact h
end
theorem fillK6 (w : World) : PySem.Challenge.rw_nz0571_01 = PySem.Challenge.rw_nz0571_01 ∧ KH w.params = KH w.params := by
  k_fill
  exact ⟨rfl, rfl⟩
theorem Lx.app {μ : St} {d : V} {l : List V} (h : Lx μ d l) (g : St) : Lx (μ ++ g) d l := by
  rcases h with rfl | ⟨i, rfl, e⟩
  · exact .fro
  · refine .lst ?_
    rw [List.getElem?_append_left (List.getElem?_eq_some_iff.mp e).1]; exact e
section
variable {w : World} {C : Ctx} {X : Str → St → Prop} {Q : V → St → Prop} {μ : St}
theorem c_marked (hK : C.K = KH w.params) (hn : 2 ≤ C.n) {m : Nat} {x : List Nat} (hx : x.length ≤ 255) (h : ∀ g, Q (.fro (rowV (m :: x.length :: x.map (· % 256)))) (μ ++ g)) :
    Op PR w C RV (fun us => call (.ref 151) us) X Q [.int m, .str x] μ := by
  refine' op_defl [("mark", .int m), ("text", .str x)] ?k1 ?k2 ?k3 ?k4 ?k5 ?k6 ?k7 ?k8 ?k9 ?k10 ?k11 ?_
  case k1 => (rw [(by assumption : Ctx.K _ = KH _)]; k_is)
  case k2 => (rw [(by assumption : Ctx.K _ = KH _)]; k_is)
  case k3 => (first | lia | omega)
  case k5 => intro us h; rcases us with _ | ⟨a, _ | ⟨b, _ | ⟨c, _ | ⟨d, r⟩⟩⟩⟩ <;> first | rfl | (simp at h)
  case k4 => rfl
  case k6 => dsimp only [List.map]; decide
  case k7 => decide
  case k8 => dsimp only [List.map]; decide
  case k9 => rfl
  case k10 => rfl
  case k11 => rfl
  intro L C' hK' hn' hh' hf'
  unfold fB151
  replace hK' := hK'.trans hK
  with_reducible refine ex_cons ?_
  with_reducible refine ex_if ?_
  refine et_cmp ?_ rfl
  refine ev_call_builtin (by rw [hK']; k_is) (by boot_fast) (by decide) rfl (by decide) rfl rfl ?_
  refine args_sv rfl ?_
  refine b_len_str' (by (first | lia | omega)) ?_
  refine ev_gint (by rw [hK']; k_is) ?_ rfl (by decide)
  with_reducible refine o_gt_ii ?_
  with_reducible refine bool_ex ?_
  refine ite_dec (fun hc => by (first | lia | omega)) (fun _ => ?_)
  with_reducible refine ex_nil ?_
  with_reducible refine ex_cons ?_
  with_reducible refine ex_ret ?_
  with_reducible refine ev_binop ?_
  dsimp only
  refine ev_lfro ?_
  with_reducible refine' args_cons' ?_ ?x0
  case x0 => rfl
  refine ev_sv rfl ?_
  with_reducible refine' args_cons' ?_ ?x1
  case x1 => rfl
  refine ev_call_builtin (by rw [hK']; k_is) (by boot_fast) (by decide) rfl (by decide) rfl rfl ?_
  refine args_sv rfl ?_
  refine b_len_str' (by (first | lia | omega)) ?_
  refine args_sv rfl ?_
  refine ⟨by exact nb rfl, ?_⟩
  refine ev_map (mapS fun y => .int ((nth y 0 % 256 : Nat) : Int)) (by decide) (by decide) rfl (by decide) rfl (evi_str ?_) (fun _ => rfl)
  refine ev_sv rfl ?_
  with_reducible refine Exists.intro _ (And.intro rfl ?_)
  dsimp only
  refine ⟨by simp; (first | lia | omega), fun _ => trivial, fun k v μ' Cc hv => ?_, ?_⟩
  · obtain ⟨c, hc, rfl⟩ : ∃ c, x[k]? = some c ∧ V.str [c] = v := by simpa using hv
    refine ev_binop_r rfl ?_
    refine ev_call_builtin (by rw [hK']; k_is) (by boot_fast) (by decide) rfl (by decide) rfl rfl ?_
    refine args_sv rfl ?_
    with_reducible refine b_ord ?_
    refine o_and_ii ?_
    rw [and255]
    exact ⟨rfl, rfl⟩
  · refine o_add_L Lx.fro (Lx.lst (by simp; rfl)) (by simp; (first | lia | omega)) ?_
    have := h [x.map fun c => V.int ((c % 256 : Nat) : Int)]
    simpa [rowV, mapS, nth, Function.comp_def] using this
theorem c_crunch (hK : C.K = KH w.params) (hn : 4 ≤ C.n) {d : V} {ts : List TK} (hd : Lx μ d (ts.map TK.v)) (hl : ts.length ≤ 60) (hs : ∀ t ∈ ts, t.good)
    (h : ∀ g, Q (.lst μ.length) (μ ++ (rowV (octs ts) :: g))) :
    Op PR w C RV (fun us => call (.ref 158) us) X Q [d] μ := by
  refine' op_defl [("tokens", d)] ?k1 ?k2 ?k3 ?k4 ?k5 ?k6 ?k7 ?k8 ?k9 ?k10 ?k11 ?_
  case k1 => (rw [(by assumption : Ctx.K _ = KH _)]; k_is)
  case k2 => (rw [(by assumption : Ctx.K _ = KH _)]; k_is)
  case k3 => (first | lia | omega)
  case k5 => intro us h; rcases us with _ | ⟨a, _ | ⟨b, _ | ⟨c, _ | ⟨d, r⟩⟩⟩⟩ <;> first | rfl | (simp at h)
  case k4 => rfl
  case k6 => dsimp only [List.map]; decide
  case k7 => decide
  case k8 => dsimp only [List.map]; decide
  case k9 => rfl
  case k10 => rfl
  case k11 => rfl
  intro L C' hK' hn' hh' hf'
  unfold fB158
  replace hK' := hK'.trans hK
  with_reducible refine ex_cons ?_
  refine ex_assign ?_ rfl rfl
  dsimp only
  refine ev_list ?_
  refine args_sv rfl ?_
  refine ⟨by exact nb rfl, ?_⟩
  with_reducible refine ex_cons ?_
  refine ex_sub (loc' := ([("tokens", d), ("found", .lst μ.length)] : Loc)) ?_ (by exact sub_lk rfl rfl)
  refine ex_for (evi_list (.inr ⟨_, _, _, rfl⟩) ?_) hf' rfl (fun _ => rfl)
  refine ev_sv rfl ?_
  dsimp only
  refine ⟨_, (hd.app _).lists, fun i loc μ' => ∃ g, μ' = μ ++ (rowV (octs (ts.take i)) :: g) ∧ loc = ([("tokens", d), ("found", .lst μ.length)] : Loc), ⟨[], rfl, rfl⟩, ?_, ?_, ?_⟩
  · rintro k loc μ' ⟨g, rfl, rfl⟩; exact (hd.app _).lists
  · rintro k v _ μ₁ hv ⟨g, rfl, rfl⟩
    obtain ⟨t, ht, rfl⟩ : ∃ t, ts[k]? = some t ∧ v = TK.v t := by
      simp only [List.getElem?_map, Option.map_eq_some_iff] at hv
      obtain ⟨c, h1, h2⟩ := hv; exact ⟨c, h1, h2.symm⟩
    refine ⟨_, ast_two rfl rfl, ?_⟩
    have hk : k < ts.length := (List.getElem?_eq_some_iff.mp ht).1
    have hg : t.good := hs t (List.mem_of_getElem? ht)
    have hol := octs_len (ts := ts.take k) fun t m => hs t (List.mem_of_mem_take m)
    have hel := enc_len hg
    rw [List.length_take] at hol
    dsimp only
    rw [octs_take ht, rowV_app]
    generalize octs (ts.take k) = o at *
    have hr : (rowV o).length ≤ 20000 := by rw [rowV_len]; (first | lia | omega)
    refine ex_q fun QQ hQ => ?_
    with_reducible refine ex_cons ?_
    with_reducible refine ex_if ?_
    refine et_cmp_r rfl ?_ rfl
    refine ev_sv rfl ?_
    with_reducible refine o_eq_ss ?_
    with_reducible refine bool_ex ?_
    cases t with
    | word x =>
      dsimp only [TK.kind, TK.val, enc]
      obtain ⟨i1, i2, i3⟩ := idx_at hg
      have i4 : idx WRD x < 44 := i3
      refine ite_t (by decide) ?_
      with_reducible refine ex_cons ?_
      refine ex_expr ?_ rfl rfl
      with_reducible refine' ev_mlist F.slot_list_append F.type_list_append ?x2 ?x3 ?x4 ?_
      case x2 => rfl
      case x3 => rfl
      case x4 => rfl
      refine ev_sv rfl ?_
      with_reducible refine' isl_lst ?x5 ?_
      case x5 => (simp; done)
      with_reducible refine' args_cons' ?_ ?x6
      case x6 => rfl
      with_reducible refine ev_binop ?_
      refine ev_gint (by rw [hK']; k_is) ?_ rfl (by decide)
      with_reducible refine' ev_mlist F.slot_list_index F.type_list_index ?x7 ?x8 ?x9 ?_
      case x7 => rfl
      case x8 => rfl
      case x9 => rfl
      dsimp only
      refine ev_gfro (xs := WRD.map V.str) (by rw [hK']; k_is) (by rw [hK']; k_is) ?_ ?_ rfl (by decide)
      · intro h ρ
        repeat (first | exact RVs.nil | refine RVs.cons (.str _ _) ?_)
      with_reducible refine isl_fro ?_
      refine args_sv rfl ?_
      refine m_index_L (xs := WRD) (idx WRD x) Lx.fro (strsOf_map WRD) i1 i2 (Nat.lt_of_lt_of_le (by assumption) (nb rfl)) ?_
      with_reducible refine o_add_ii ?_
      refine args_sv rfl ?_
      refine m_append get_mid (Nat.le_trans (by assumption) (nb rfl)) ?_
      rw [set_mid]
      with_reducible refine And.intro rfl ?_
      with_reducible refine ex_nil ?_
      with_reducible refine ex_nil ?_
      refine hQ _ _ _ ?_
      dsimp only [enc]
      exact ⟨_, by exact sub_lk rfl rfl, g, by simp [rowV], rfl⟩
    | sign x =>
      dsimp only [TK.kind, TK.val, enc]
      obtain ⟨i1, i2, i3⟩ := idx_at hg
      have i4 : idx SGN x < 17 := i3
      refine ite_f (by decide) ?_
      with_reducible refine ex_cons ?_
      with_reducible refine ex_if ?_
      refine et_cmp_r rfl ?_ rfl
      refine ev_sv rfl ?_
      with_reducible refine o_eq_ss ?_
      with_reducible refine bool_ex ?_
      refine ite_t (by decide) ?_
      with_reducible refine ex_cons ?_
      refine ex_expr ?_ rfl rfl
      with_reducible refine' ev_mlist F.slot_list_append F.type_list_append ?x10 ?x11 ?x12 ?_
      case x10 => rfl
      case x11 => rfl
      case x12 => rfl
      refine ev_sv rfl ?_
      with_reducible refine' isl_lst ?x13 ?_
      case x13 => (simp; done)
      with_reducible refine' args_cons' ?_ ?x14
      case x14 => rfl
      with_reducible refine ev_binop ?_
      refine ev_gint (by rw [hK']; k_is) ?_ rfl (by decide)
      with_reducible refine' ev_mlist F.slot_list_index F.type_list_index ?x15 ?x16 ?x17 ?_
      case x15 => rfl
      case x16 => rfl
      case x17 => rfl
      dsimp only
      refine ev_gfro (xs := SGN.map V.str) (by rw [hK']; k_is) (by rw [hK']; k_is) ?_ ?_ rfl (by decide)
      · intro h ρ
        repeat (first | exact RVs.nil | refine RVs.cons (.str _ _) ?_)
      with_reducible refine isl_fro ?_
      refine args_sv rfl ?_
      refine m_index_L (xs := SGN) (idx SGN x) Lx.fro (strsOf_map SGN) i1 i2 (Nat.lt_of_lt_of_le (by assumption) (nb rfl)) ?_
      with_reducible refine o_add_ii ?_
      refine args_sv rfl ?_
      refine m_append get_mid (Nat.le_trans (by assumption) (nb rfl)) ?_
      rw [set_mid]
      with_reducible refine And.intro rfl ?_
      with_reducible refine ex_nil ?_
      with_reducible refine ex_nil ?_
      with_reducible refine ex_nil ?_
      refine hQ _ _ _ ?_
      dsimp only [enc]
      exact ⟨_, by exact sub_lk rfl rfl, g, by simp [rowV], rfl⟩
    | num n =>
      dsimp only [TK.kind, TK.val, enc]
      refine ite_f (by decide) ?_
      with_reducible refine ex_cons ?_
      with_reducible refine ex_if ?_
      refine et_cmp_r rfl ?_ rfl
      refine ev_sv rfl ?_
      with_reducible refine o_eq_ss ?_
      with_reducible refine bool_ex ?_
      refine ite_f (by decide) ?_
      with_reducible refine ex_cons ?_
      with_reducible refine ex_if ?_
      refine et_cmp_r rfl ?_ rfl
      refine ev_sv rfl ?_
      with_reducible refine o_eq_ss ?_
      with_reducible refine bool_ex ?_
      refine ite_t (by decide) ?_
      with_reducible refine ex_cons ?_
      refine ex_expr ?_ rfl rfl
      with_reducible refine' ev_mlist F.slot_list_extend F.type_list_extend ?x18 ?x19 ?x20 ?_
      case x18 => rfl
      case x19 => rfl
      case x20 => rfl
      refine ev_sv rfl ?_
      with_reducible refine' isl_lst ?x21 ?_
      case x21 => (simp; done)
      with_reducible refine' args_cons' ?_ ?x22
      case x22 => rfl
      dsimp only
      refine ev_lfro ?_
      with_reducible refine' args_cons' ?_ ?x23
      case x23 => rfl
      refine ev_gint (by rw [hK']; k_is) ?_ rfl (by decide)
      with_reducible refine' args_cons' ?_ ?x24
      case x24 => rfl
      refine ev_binop_r rfl ?_
      refine ev_sv rfl ?_
      refine o_and_ii ?_
      rw [and255]
      with_reducible refine' args_cons' ?_ ?x25
      case x25 => rfl
      refine ev_binop_r rfl ?_
      refine ev_sv rfl ?_
      refine o_shr_ii (by decide) ?_
      rw [fdiv256]
      refine args_sv rfl ?_
      refine ⟨by exact nb rfl, ?_⟩
      refine args_sv rfl ?_
      refine m_extend_L get_mid Lx.fro (by simp; (first | lia | omega)) ?_
      rw [set_mid]
      with_reducible refine And.intro rfl ?_
      with_reducible refine ex_nil ?_
      with_reducible refine ex_nil ?_
      with_reducible refine ex_nil ?_
      with_reducible refine ex_nil ?_
      refine hQ _ _ _ ?_
      dsimp only [enc]
      exact ⟨_, by exact sub_lk rfl rfl, g, by simp [rowV], rfl⟩
    | name x =>
      dsimp only [TK.kind, TK.val, enc]
      have hxm : x.map (· % 256) = x := by
        have : ∀ c ∈ x, c % 256 = c := fun c m => Nat.mod_eq_of_lt (hg.2 c m)
        rw [List.map_congr_left this, List.map_id']
      refine ite_f (by decide) ?_
      with_reducible refine ex_cons ?_
      with_reducible refine ex_if ?_
      refine et_cmp_r rfl ?_ rfl
      refine ev_sv rfl ?_
      with_reducible refine o_eq_ss ?_
      with_reducible refine bool_ex ?_
      refine ite_f (by decide) ?_
      with_reducible refine ex_cons ?_
      with_reducible refine ex_if ?_
      refine et_cmp_r rfl ?_ rfl
      refine ev_sv rfl ?_
      with_reducible refine o_eq_ss ?_
      with_reducible refine bool_ex ?_
      refine ite_f (by decide) ?_
      with_reducible refine ex_cons ?_
      refine ex_expr ?_ rfl rfl
      with_reducible refine' ev_mlist F.slot_list_extend F.type_list_extend ?x26 ?x27 ?x28 ?_
      case x26 => rfl
      case x27 => rfl
      case x28 => rfl
      refine ev_sv rfl ?_
      with_reducible refine' isl_lst ?x29 ?_
      case x29 => (simp; done)
      with_reducible refine' args_cons' ?_ ?x30
      case x30 => rfl
      refine ev_call_def (by rw [hK']; k_is) (by rw [hK']; k_is) rfl (by decide) rfl ?_
      with_reducible refine' args_cons' ?_ ?x31
      case x31 => rfl
      refine ev_subD ?_ (fun _ _ => rfl)
      dsimp only
      with_reducible refine' ev_dicts ?x32 ?x33 ?x34 ?x35 ?_
      case x32 => rfl
      case x33 => rfl
      case x34 => simp
      case x35 => decide
      with_reducible refine evp_cons ?_
      refine ev_sv rfl ?_
      refine ev_gint (by rw [hK']; k_is) ?_ rfl (by decide)
      with_reducible refine evp_cons ?_
      refine ev_sv rfl ?_
      refine ev_gint (by rw [hK']; k_is) ?_ rfl (by decide)
      with_reducible refine evp_cons ?_
      refine ev_sv rfl ?_
      refine ev_gint (by rw [hK']; k_is) ?_ rfl (by decide)
      refine evp_nil ?_
      refine ⟨[(cs "name", .int 2), (cs "text", .int 3), (cs "raw", .int 4)], rfl, by decide, by decide, ?_⟩
      refine ev_sv rfl ?_
      with_reducible refine ⟨_, _, rfl, rfl, ?_⟩
      refine args_sv rfl ?_
      refine c_marked hK' (nle hn' hn rfl) hg.1 fun g' => ?_
      rw [hxm, show μ ++ rowV o :: g ++ g' = μ ++ (rowV o :: (g ++ g')) by simp]
      refine args_sv rfl ?_
      dsimp only
      refine m_extend_L get_mid Lx.fro (by simp [rowV_len]; have := hg.1; (first | lia | omega)) ?_
      rw [set_mid]
      with_reducible refine And.intro rfl ?_
      with_reducible refine ex_nil ?_
      with_reducible refine ex_nil ?_
      with_reducible refine ex_nil ?_
      with_reducible refine ex_nil ?_
      refine hQ _ _ _ ?_
      dsimp only [enc]
      exact ⟨_, by exact sub_lk rfl rfl, g ++ g', rfl, rfl⟩
    | text x =>
      dsimp only [TK.kind, TK.val, enc]
      have hxm : x.map (· % 256) = x := by
        have : ∀ c ∈ x, c % 256 = c := fun c m => Nat.mod_eq_of_lt (hg.2 c m)
        rw [List.map_congr_left this, List.map_id']
      refine ite_f (by decide) ?_
      with_reducible refine ex_cons ?_
      with_reducible refine ex_if ?_
      refine et_cmp_r rfl ?_ rfl
      refine ev_sv rfl ?_
      with_reducible refine o_eq_ss ?_
      with_reducible refine bool_ex ?_
      refine ite_f (by decide) ?_
      with_reducible refine ex_cons ?_
      with_reducible refine ex_if ?_
      refine et_cmp_r rfl ?_ rfl
      refine ev_sv rfl ?_
      with_reducible refine o_eq_ss ?_
      with_reducible refine bool_ex ?_
      refine ite_f (by decide) ?_
      with_reducible refine ex_cons ?_
      refine ex_expr ?_ rfl rfl
      with_reducible refine' ev_mlist F.slot_list_extend F.type_list_extend ?x36 ?x37 ?x38 ?_
      case x36 => rfl
      case x37 => rfl
      case x38 => rfl
      refine ev_sv rfl ?_
      with_reducible refine' isl_lst ?x39 ?_
      case x39 => (simp; done)
      with_reducible refine' args_cons' ?_ ?x40
      case x40 => rfl
      refine ev_call_def (by rw [hK']; k_is) (by rw [hK']; k_is) rfl (by decide) rfl ?_
      with_reducible refine' args_cons' ?_ ?x41
      case x41 => rfl
      refine ev_subD ?_ (fun _ _ => rfl)
      dsimp only
      with_reducible refine' ev_dicts ?x42 ?x43 ?x44 ?x45 ?_
      case x42 => rfl
      case x43 => rfl
      case x44 => simp
      case x45 => decide
      with_reducible refine evp_cons ?_
      refine ev_sv rfl ?_
      refine ev_gint (by rw [hK']; k_is) ?_ rfl (by decide)
      with_reducible refine evp_cons ?_
      refine ev_sv rfl ?_
      refine ev_gint (by rw [hK']; k_is) ?_ rfl (by decide)
      with_reducible refine evp_cons ?_
      refine ev_sv rfl ?_
      refine ev_gint (by rw [hK']; k_is) ?_ rfl (by decide)
      refine evp_nil ?_
      refine ⟨[(cs "name", .int 2), (cs "text", .int 3), (cs "raw", .int 4)], rfl, by decide, by decide, ?_⟩
      refine ev_sv rfl ?_
      with_reducible refine ⟨_, _, rfl, rfl, ?_⟩
      refine args_sv rfl ?_
      refine c_marked hK' (nle hn' hn rfl) hg.1 fun g' => ?_
      rw [hxm, show μ ++ rowV o :: g ++ g' = μ ++ (rowV o :: (g ++ g')) by simp]
      refine args_sv rfl ?_
      dsimp only
      refine m_extend_L get_mid Lx.fro (by simp [rowV_len]; have := hg.1; (first | lia | omega)) ?_
      rw [set_mid]
      with_reducible refine And.intro rfl ?_
      with_reducible refine ex_nil ?_
      with_reducible refine ex_nil ?_
      with_reducible refine ex_nil ?_
      with_reducible refine ex_nil ?_
      refine hQ _ _ _ ?_
      dsimp only [enc]
      exact ⟨_, by exact sub_lk rfl rfl, g ++ g', rfl, rfl⟩
    | raw x =>
      dsimp only [TK.kind, TK.val, enc]
      have hxm : x.map (· % 256) = x := by
        have : ∀ c ∈ x, c % 256 = c := fun c m => Nat.mod_eq_of_lt (hg.2 c m)
        rw [List.map_congr_left this, List.map_id']
      refine ite_f (by decide) ?_
      with_reducible refine ex_cons ?_
      with_reducible refine ex_if ?_
      refine et_cmp_r rfl ?_ rfl
      refine ev_sv rfl ?_
      with_reducible refine o_eq_ss ?_
      with_reducible refine bool_ex ?_
      refine ite_f (by decide) ?_
      with_reducible refine ex_cons ?_
      with_reducible refine ex_if ?_
      refine et_cmp_r rfl ?_ rfl
      refine ev_sv rfl ?_
      with_reducible refine o_eq_ss ?_
      with_reducible refine bool_ex ?_
      refine ite_f (by decide) ?_
      with_reducible refine ex_cons ?_
      refine ex_expr ?_ rfl rfl
      with_reducible refine' ev_mlist F.slot_list_extend F.type_list_extend ?x46 ?x47 ?x48 ?_
      case x46 => rfl
      case x47 => rfl
      case x48 => rfl
      refine ev_sv rfl ?_
      with_reducible refine' isl_lst ?x49 ?_
      case x49 => (simp; done)
      with_reducible refine' args_cons' ?_ ?x50
      case x50 => rfl
      refine ev_call_def (by rw [hK']; k_is) (by rw [hK']; k_is) rfl (by decide) rfl ?_
      with_reducible refine' args_cons' ?_ ?x51
      case x51 => rfl
      refine ev_subD ?_ (fun _ _ => rfl)
      dsimp only
      with_reducible refine' ev_dicts ?x52 ?x53 ?x54 ?x55 ?_
      case x52 => rfl
      case x53 => rfl
      case x54 => simp
      case x55 => decide
      with_reducible refine evp_cons ?_
      refine ev_sv rfl ?_
      refine ev_gint (by rw [hK']; k_is) ?_ rfl (by decide)
      with_reducible refine evp_cons ?_
      refine ev_sv rfl ?_
      refine ev_gint (by rw [hK']; k_is) ?_ rfl (by decide)
      with_reducible refine evp_cons ?_
      refine ev_sv rfl ?_
      refine ev_gint (by rw [hK']; k_is) ?_ rfl (by decide)
      refine evp_nil ?_
      refine ⟨[(cs "name", .int 2), (cs "text", .int 3), (cs "raw", .int 4)], rfl, by decide, by decide, ?_⟩
      refine ev_sv rfl ?_
      with_reducible refine ⟨_, _, rfl, rfl, ?_⟩
      refine args_sv rfl ?_
      refine c_marked hK' (nle hn' hn rfl) hg.1 fun g' => ?_
      rw [hxm, show μ ++ rowV o :: g ++ g' = μ ++ (rowV o :: (g ++ g')) by simp]
      refine args_sv rfl ?_
      dsimp only
      refine m_extend_L get_mid Lx.fro (by simp [rowV_len]; have := hg.1; (first | lia | omega)) ?_
      rw [set_mid]
      with_reducible refine And.intro rfl ?_
      with_reducible refine ex_nil ?_
      with_reducible refine ex_nil ?_
      with_reducible refine ex_nil ?_
      with_reducible refine ex_nil ?_
      refine hQ _ _ _ ?_
      dsimp only [enc]
      exact ⟨_, by exact sub_lk rfl rfl, g ++ g', rfl, rfl⟩
  · rintro _ _ ⟨g, rfl, rfl⟩
    rw [List.length_map, List.take_length]
    with_reducible refine ex_nil ?_
    with_reducible refine ex_cons ?_
    with_reducible refine ex_ret ?_
    refine ev_sv rfl ?_
    dsimp only
    exact h g
end

theorem fillK7 (w : World) : PySem.Challenge.rw_nz0571_01 = PySem.Challenge.rw_nz0571_01 ∧ KH w.params = KH w.params := by
  k_fill
  exact ⟨rfl, rfl⟩
theorem sum_one (y : List Nat) : ((y.map fun c => [c]).map List.length).sum = y.length := by
  induction y with
  | nil => rfl
  | cons a l ih => simp at ih ⊢; (first | lia | omega)
theorem flat_one (y : List Nat) : (y.map fun c => [c]).flatten = y := by
  induction y with
  | nil => rfl
  | cons a l ih => simp at ih ⊢; exact ih
section
variable {w : World} {C : Ctx} {X : Str → St → Prop} {Q : V → St → Prop} {μ : St}
theorem kinds3 {n : Nat} (h : ¬ (n ≠ 2 ∧ n ≠ 3 ∧ n ≠ 4)) : ∃ (kd : List Nat) (mk : List Nat → TK), (([(2, V.str (cs "name")), (3, .str (cs "text")), (4, .str (cs "raw"))] : List (Int × V)).lookup (n : Int)).getD (.str (cs "")) = .str kd ∧ (kd == cs "") = false ∧
    (if n = 2 then TK.name else if n = 3 then TK.text else TK.raw) = mk ∧ ∀ y, (mk y).v = .tup [.str kd, .str y] := by
  by_cases h2 : n = 2
  · subst h2; exact ⟨cs "name", TK.name, rfl, by decide, rfl, fun _ => rfl⟩
  by_cases h3 : n = 3
  · subst h3; exact ⟨cs "text", TK.text, rfl, by decide, rfl, fun _ => rfl⟩
  have h4 : n = 4 := by (first | lia | omega)
  subst h4; exact ⟨cs "raw", TK.raw, rfl, by decide, rfl, fun _ => rfl⟩
theorem c_expand_one (hK : C.K = KH w.params) (hn : 2 ≤ C.n) {d : V} {r : List Nat} {a : Nat} (hd : Lx μ d (rowV r)) (hl : r.length ≤ 20000) (hr : ∀ c ∈ r, c < 256) (ha : a < r.length)
    (h : match expandOne r a with | .error e => ∀ g, X e (μ ++ g) | .ok p => ∀ g, Q (.tup [p.1.v, .int p.2]) (μ ++ g)) :
    Op PR w C RV (fun us => call (.ref 163) us) X Q [d, .int a] μ := by
  refine' op_defl [("row", d), ("at", .int a)] ?k1 ?k2 ?k3 ?k4 ?k5 ?k6 ?k7 ?k8 ?k9 ?k10 ?k11 ?_
  case k1 => (rw [(by assumption : Ctx.K _ = KH _)]; k_is)
  case k2 => (rw [(by assumption : Ctx.K _ = KH _)]; k_is)
  case k3 => (first | lia | omega)
  case k5 => intro us h; rcases us with _ | ⟨a, _ | ⟨b, _ | ⟨c, _ | ⟨d, r⟩⟩⟩⟩ <;> first | rfl | (simp at h)
  case k4 => rfl
  case k6 => dsimp only [List.map]; decide
  case k7 => decide
  case k8 => dsimp only [List.map]; decide
  case k9 => rfl
  case k10 => rfl
  case k11 => rfl
  intro L C' hK' hn' hh' hf'
  unfold fB163
  replace hK' := hK'.trans hK
  have hB : BE C'.K := hK' ▸ be39 w
  unfold expandOne at h
  have hn8 : ∀ i, i < r.length → nth r i < 256 := fun i hi => hr _ (List.mem_of_getElem? (nth_get hi))
  have ho := hn8 a ha
  with_reducible refine ex_cons ?_
  refine ex_assign ?_ rfl rfl
  refine ev_sub_r rfl ?_
  refine ev_sv rfl ?_
  dsimp only
  refine o_item_L hd (by (first | lia | omega)) (rowV_get ha) ?_ (fun _ _ => rfl)
  with_reducible refine ex_cons ?_
  with_reducible refine ex_if ?_
  refine et_cmp ?_ rfl
  refine ev_sv rfl ?_
  refine ev_gint (by rw [hK']; k_is) ?_ rfl (by decide)
  with_reducible refine o_ge_ii ?_
  with_reducible refine bool_ex ?_
  refine ite_dec (fun hc => ?_) (fun hc => ?_)
  · rw [if_pos (by (first | lia | omega))] at h
    have ek : (nth r a : Int) - 128 = ((nth r a - 128 : Nat) : Int) := by (first | lia | omega)
    with_reducible refine ex_cons ?_
    with_reducible refine ex_if ?_
    refine et_cmp ?_ rfl
    with_reducible refine ev_binop ?_
    refine ev_sv rfl ?_
    refine ev_gint (by rw [hK']; k_is) ?_ rfl (by decide)
    with_reducible refine o_sub_ii ?_
    refine ev_call_builtin (by rw [hK']; k_is) (by boot_fast) (by decide) rfl (by decide) rfl rfl ?_
    with_reducible refine' args_cons' ?_ ?x0
    case x0 => rfl
    with_reducible refine' ev_gfro (xs := WRD.map V.str) ?x1 ?x2 ?x3 ?_ ?x4 ?x5
    case x1 => (rw [(by assumption : Ctx.K _ = KH _)]; k_is)
    case x2 => (rw [(by assumption : Ctx.K _ = KH _)]; k_is)
    case x3 => intro h ρ; repeat (first | exact RVs.nil | refine RVs.cons (.str _ _) ?_)
    case x4 => rfl
    case x5 => decide
    refine args_sv rfl ?_
    refine b_len_L Lx.fro (by decide) ?_
    rw [show (WRD.map V.str).length = 44 by decide]
    with_reducible refine o_ge_ii ?_
    with_reducible refine bool_ex ?_
    refine ite_dec (fun hc2 => ?_) (fun hc2 => ?_)
    · rw [if_pos (by (first | lia | omega))] at h
      with_reducible refine ex_cons ?_
      refine ex_raise (by assumption) (nle hn' hn rfl) ?_ rfl rfl
      have := h []
      rwa [List.append_nil] at this
    · rw [if_neg (by (first | lia | omega))] at h
      with_reducible refine ex_nil ?_
      with_reducible refine ex_cons ?_
      with_reducible refine ex_ret ?_
      with_reducible refine ev_tuple ?_
      with_reducible refine' args_cons' ?_ ?x6
      case x6 => rfl
      with_reducible refine ev_tuple ?_
      with_reducible refine' args_cons' ?_ ?x7
      case x7 => rfl
      refine ev_sv rfl ?_
      with_reducible refine' args_cons' ?_ ?x8
      case x8 => rfl
      with_reducible refine ev_sub ?_
      dsimp only
      with_reducible refine' ev_gfro (xs := WRD.map V.str) ?x9 ?x10 ?x11 ?_ ?x12 ?x13
      case x9 => (rw [(by assumption : Ctx.K _ = KH _)]; k_is)
      case x10 => (rw [(by assumption : Ctx.K _ = KH _)]; k_is)
      case x11 => intro h ρ; repeat (first | exact RVs.nil | refine RVs.cons (.str _ _) ?_)
      case x12 => rfl
      case x13 => decide
      with_reducible refine ev_binop ?_
      refine ev_sv rfl ?_
      refine ev_gint (by rw [hK']; k_is) ?_ rfl (by decide)
      with_reducible refine o_sub_ii ?_
      rw [ek]
      have hw : WRD[nth r a - 128]? = some (WRD[nth r a - 128]?.getD []) := by
        have : nth r a - 128 < WRD.length := by rw [show WRD.length = 44 by decide]; (first | lia | omega)
        rw [List.getElem?_eq_getElem this]; rfl
      generalize WRD[nth r a - 128]?.getD [] = x at *
      refine o_item_L Lx.fro (by (first | lia | omega)) (by rw [List.getElem?_map, hw]; rfl) ?_ (fun _ _ => rfl)
      refine args_sv rfl ?_
      refine ⟨by exact nb rfl, ?_⟩
      with_reducible refine' args_cons' ?_ ?x14
      case x14 => rfl
      refine ev_binop_r rfl ?_
      refine ev_sv rfl ?_
      with_reducible refine o_add_n1 ?_
      refine args_sv rfl ?_
      refine ⟨by exact nb rfl, ?_⟩
      have := h []
      rwa [List.append_nil] at this
  · rw [if_neg (by (first | lia | omega))] at h
    with_reducible refine ex_nil ?_
    with_reducible refine ex_cons ?_
    with_reducible refine ex_if ?_
    refine et_cmp ?_ rfl
    refine ev_sv rfl ?_
    refine ev_gint (by rw [hK']; k_is) ?_ rfl (by decide)
    with_reducible refine o_ge_ii ?_
    with_reducible refine bool_ex ?_
    refine ite_dec (fun hc2 => ?_) (fun hc2 => ?_)
    · rw [if_pos (by (first | lia | omega))] at h
      have ek : (nth r a : Int) - 32 = ((nth r a - 32 : Nat) : Int) := by (first | lia | omega)
      with_reducible refine ex_cons ?_
      with_reducible refine ex_if ?_
      refine et_cmp ?_ rfl
      with_reducible refine ev_binop ?_
      refine ev_sv rfl ?_
      refine ev_gint (by rw [hK']; k_is) ?_ rfl (by decide)
      with_reducible refine o_sub_ii ?_
      refine ev_call_builtin (by rw [hK']; k_is) (by boot_fast) (by decide) rfl (by decide) rfl rfl ?_
      with_reducible refine' args_cons' ?_ ?x15
      case x15 => rfl
      with_reducible refine' ev_gfro (xs := SGN.map V.str) ?x16 ?x17 ?x18 ?_ ?x19 ?x20
      case x16 => (rw [(by assumption : Ctx.K _ = KH _)]; k_is)
      case x17 => (rw [(by assumption : Ctx.K _ = KH _)]; k_is)
      case x18 => intro h ρ; repeat (first | exact RVs.nil | refine RVs.cons (.str _ _) ?_)
      case x19 => rfl
      case x20 => decide
      refine args_sv rfl ?_
      refine b_len_L Lx.fro (by decide) ?_
      rw [show (SGN.map V.str).length = 17 by decide]
      with_reducible refine o_ge_ii ?_
      with_reducible refine bool_ex ?_
      refine ite_dec (fun hc2 => ?_) (fun hc2 => ?_)
      · rw [if_pos (by (first | lia | omega))] at h
        with_reducible refine ex_cons ?_
        refine ex_raise (by assumption) (nle hn' hn rfl) ?_ rfl rfl
        have := h []
        rwa [List.append_nil] at this
      · rw [if_neg (by (first | lia | omega))] at h
        with_reducible refine ex_nil ?_
        with_reducible refine ex_cons ?_
        with_reducible refine ex_ret ?_
        with_reducible refine ev_tuple ?_
        with_reducible refine' args_cons' ?_ ?x21
        case x21 => rfl
        with_reducible refine ev_tuple ?_
        with_reducible refine' args_cons' ?_ ?x22
        case x22 => rfl
        refine ev_sv rfl ?_
        with_reducible refine' args_cons' ?_ ?x23
        case x23 => rfl
        with_reducible refine ev_sub ?_
        dsimp only
        with_reducible refine' ev_gfro (xs := SGN.map V.str) ?x24 ?x25 ?x26 ?_ ?x27 ?x28
        case x24 => (rw [(by assumption : Ctx.K _ = KH _)]; k_is)
        case x25 => (rw [(by assumption : Ctx.K _ = KH _)]; k_is)
        case x26 => intro h ρ; repeat (first | exact RVs.nil | refine RVs.cons (.str _ _) ?_)
        case x27 => rfl
        case x28 => decide
        with_reducible refine ev_binop ?_
        refine ev_sv rfl ?_
        refine ev_gint (by rw [hK']; k_is) ?_ rfl (by decide)
        with_reducible refine o_sub_ii ?_
        rw [ek]
        have hw : SGN[nth r a - 32]? = some (SGN[nth r a - 32]?.getD []) := by
          have : nth r a - 32 < SGN.length := by rw [show SGN.length = 17 by decide]; (first | lia | omega)
          rw [List.getElem?_eq_getElem this]; rfl
        generalize SGN[nth r a - 32]?.getD [] = x at *
        refine o_item_L Lx.fro (by (first | lia | omega)) (by rw [List.getElem?_map, hw]; rfl) ?_ (fun _ _ => rfl)
        refine args_sv rfl ?_
        refine ⟨by exact nb rfl, ?_⟩
        with_reducible refine' args_cons' ?_ ?x29
        case x29 => rfl
        refine ev_binop_r rfl ?_
        refine ev_sv rfl ?_
        with_reducible refine o_add_n1 ?_
        refine args_sv rfl ?_
        refine ⟨by exact nb rfl, ?_⟩
        have := h []
        rwa [List.append_nil] at this
    · rw [if_neg (by (first | lia | omega))] at h
      with_reducible refine ex_nil ?_
      dsimp only
      with_reducible refine ex_cons ?_
      with_reducible refine ex_if ?_
      with_reducible refine Ev.isB (decide (nth r a = 1 ∧ a + 2 < r.length)) ?_ ?_
      · with_reducible refine et_bool ?_
        with_reducible refine et_and_cons ?_
        refine et_cmp ?_ rfl
        refine ev_sv rfl ?_
        refine ev_gint (by rw [hK']; k_is) ?_ rfl (by decide)
        with_reducible refine o_eq_ii ?_
        with_reducible refine bool_ex ?_
        refine ite_b (fun hq => ?_) (fun hq => ?_)
        · have hq1 : nth r a = 1 := by have := eq_of_beq hq; (first | lia | omega)
          with_reducible refine et_and_cons ?_
          refine et_cmp ?_ rfl
          refine ev_binop_r rfl ?_
          refine ev_sv rfl ?_
          with_reducible refine o_add_n2 ?_
          refine ev_call_builtin (by rw [hK']; k_is) (by boot_fast) (by decide) rfl (by decide) rfl rfl ?_
          refine args_sv rfl ?_
          refine b_len_L hd (by rw [rowV_len]; (first | lia | omega)) ?_
          rw [rowV_len]
          with_reducible refine o_lt_nn ?_
          with_reducible refine bool_ex ?_
          refine ite_dec (fun h2 => ?_) (fun h2 => ?_)
          · with_reducible refine et_and_nil ?_
            exact ⟨(decide_eq_true ⟨hq1, h2⟩).symm, rfl⟩
          · exact ⟨(decide_eq_false fun c => h2 c.2).symm, rfl⟩
        · have hq1 : nth r a ≠ 1 := fun e => by rw [e] at hq; exact absurd hq (by decide)
          exact ⟨(decide_eq_false fun c => hq1 c.1).symm, rfl⟩
      · refine ite_dec (fun hq => ?_) (fun hq => ?_)
        · rw [if_pos hq] at h
          have h1 := hn8 (a + 1) (by (first | lia | omega))
          have h2 := hn8 (a + 2) (by (first | lia | omega))
          with_reducible refine ex_cons ?_
          with_reducible refine ex_ret ?_
          with_reducible refine ev_tuple ?_
          with_reducible refine' args_cons' ?_ ?x30
          case x30 => rfl
          with_reducible refine ev_tuple ?_
          with_reducible refine' args_cons' ?_ ?x31
          case x31 => rfl
          refine ev_sv rfl ?_
          with_reducible refine' args_cons' ?_ ?x32
          case x32 => rfl
          with_reducible refine ev_binop ?_
          with_reducible refine ev_sub ?_
          refine ev_sv rfl ?_
          refine ev_binop_r rfl ?_
          refine ev_sv rfl ?_
          with_reducible refine o_add_n1 ?_
          dsimp only
          refine o_item_L hd (by (first | lia | omega)) (rowV_get (by (first | lia | omega))) ?_ (fun _ _ => rfl)
          refine ev_binop_r rfl ?_
          with_reducible refine ev_sub ?_
          refine ev_sv rfl ?_
          refine ev_binop_r rfl ?_
          refine ev_sv rfl ?_
          with_reducible refine o_add_n2 ?_
          refine o_item_L hd (by (first | lia | omega)) (rowV_get (by (first | lia | omega))) ?_ (fun _ _ => rfl)
          refine o_shl_ii (by decide) (by decide) (Nat.lt_of_lt_of_le (by assumption) (nb rfl)) ?_
          rw [show (nth r (a + 2) : Int) * 2 ^ (8 : Int).toNat = ((nth r (a + 2) * 256 : Nat) : Int) by simp]
          refine o_or_ii ?_
          rw [or_nat, or_256 _ h1]
          refine args_sv rfl ?_
          refine ⟨by exact nb rfl, ?_⟩
          with_reducible refine' args_cons' ?_ ?x33
          case x33 => rfl
          refine ev_binop_r rfl ?_
          refine ev_sv rfl ?_
          with_reducible refine o_add_n3 ?_
          refine args_sv rfl ?_
          refine ⟨by exact nb rfl, ?_⟩
          have := h []
          rwa [List.append_nil] at this
        · rw [if_neg hq] at h
          with_reducible refine ex_nil ?_
          with_reducible refine ex_cons ?_
          refine ex_assign ?_ rfl rfl
          dsimp only
          refine ev_getd rfl rfl ?_
          with_reducible refine' ev_dicti ?x34 ?x35 ?x36 ?x37 ?_
          case x34 => rfl
          case x35 => rfl
          case x36 => simp
          case x37 => decide
          with_reducible refine evp_cons ?_
          refine ev_gint (by rw [hK']; k_is) ?_ rfl (by decide)
          refine ev_sv rfl ?_
          with_reducible refine evp_cons ?_
          refine ev_gint (by rw [hK']; k_is) ?_ rfl (by decide)
          refine ev_sv rfl ?_
          with_reducible refine evp_cons ?_
          refine ev_gint (by rw [hK']; k_is) ?_ rfl (by decide)
          refine ev_sv rfl ?_
          refine evp_nil ?_
          refine ⟨[(2, .str (cs "name")), (3, .str (cs "text")), (4, .str (cs "raw"))], rfl, by decide, by decide, ?_⟩
          refine ev_sv rfl ?_
          refine ev_sv rfl ?_
          with_reducible refine Exists.intro _ (And.intro rfl ?_)
          with_reducible refine ex_cons ?_
          with_reducible refine ex_if ?_
          with_reducible refine et_bool ?_
          with_reducible refine et_or_cons ?_
          refine et_cmp_r rfl ?_ rfl
          refine ev_sv rfl ?_
          by_cases hk : nth r a ≠ 2 ∧ nth r a ≠ 3 ∧ nth r a ≠ 4
          · rw [if_pos hk] at h
            have hlk : (([(2, V.str (cs "name")), (3, .str (cs "text")), (4, .str (cs "raw"))] : List (Int × V)).lookup (nth r a : Int)) = none := by
              have b1 : ((nth r a : Int) == 2) = false := by simp; (first | lia | omega)
              have b2 : ((nth r a : Int) == 3) = false := by simp; (first | lia | omega)
              have b3 : ((nth r a : Int) == 4) = false := by simp; (first | lia | omega)
              simp only [List.lookup, b1, b2, b3]
            rw [hlk]
            dsimp only [Option.getD]
            with_reducible refine o_eq_ss ?_
            with_reducible refine bool_ex ?_
            refine ite_t (by decide) ?_
            with_reducible refine ite_tt ?_
            with_reducible refine ex_cons ?_
            refine ex_raise (by assumption) (nle hn' hn rfl) ?_ rfl rfl
            have := h []
            rwa [List.append_nil] at this
          rw [if_neg hk] at h
          obtain ⟨kd, mk, k1, k2, k3, k4⟩ := kinds3 hk
          rw [k1]
          rw [k3] at h
          try dsimp only
          with_reducible refine o_eq_ss ?_
          with_reducible refine bool_ex ?_
          refine ite_f k2 ?_
          with_reducible refine et_or_cons ?_
          refine et_cmp ?_ rfl
          refine ev_binop_r rfl ?_
          refine ev_sv rfl ?_
          with_reducible refine o_add_n1 ?_
          refine ev_call_builtin (by rw [hK']; k_is) (by boot_fast) (by decide) rfl (by decide) rfl rfl ?_
          refine args_sv rfl ?_
          refine b_len_L hd (by rw [rowV_len]; (first | lia | omega)) ?_
          rw [rowV_len]
          with_reducible refine o_ge_nn ?_
          with_reducible refine bool_ex ?_
          refine ite_dec (fun h1 => ?_) (fun h1 => ?_)
          · rw [if_pos (.inl h1)] at h
            with_reducible refine ite_tt ?_
            with_reducible refine ex_cons ?_
            refine ex_raise (by assumption) (nle hn' hn rfl) ?_ rfl rfl
            have := h []
            rwa [List.append_nil] at this
          · with_reducible refine et_or_cons ?_
            refine et_cmp ?_ rfl
            with_reducible refine ev_binop ?_
            refine ev_binop_r rfl ?_
            refine ev_sv rfl ?_
            with_reducible refine o_add_n2 ?_
            with_reducible refine ev_sub ?_
            refine ev_sv rfl ?_
            refine ev_binop_r rfl ?_
            refine ev_sv rfl ?_
            with_reducible refine o_add_n1 ?_
            refine o_item_L hd (by (first | lia | omega)) (rowV_get (Nat.not_le.mp (by assumption))) ?_ (fun _ _ => rfl)
            with_reducible refine o_add_nn ?_
            refine ev_call_builtin (by rw [hK']; k_is) (by boot_fast) (by decide) rfl (by decide) rfl rfl ?_
            refine args_sv rfl ?_
            refine b_len_L hd (by rw [rowV_len]; (first | lia | omega)) ?_
            rw [rowV_len]
            with_reducible refine o_gt_nn ?_
            with_reducible refine bool_ex ?_
            have h8 := hn8 (a + 1) (Nat.not_le.mp (by assumption))
            refine ite_dec (fun h2 => ?_) (fun h2 => ?_)
            · rw [if_pos (.inr h2)] at h
              with_reducible refine ite_tt ?_
              with_reducible refine ex_cons ?_
              refine ex_raise (by assumption) (nle hn' hn rfl) ?_ rfl rfl
              have := h []
              rwa [List.append_nil] at this
            · rw [if_neg (by (first | lia | omega))] at h
              with_reducible refine et_or_nil ?_
              with_reducible refine ite_ff ?_
              with_reducible refine ex_nil ?_
              with_reducible refine ex_cons ?_
              refine ex_assign ?_ rfl rfl
              with_reducible refine ev_binop ?_
              refine ev_binop_r rfl ?_
              refine ev_sv rfl ?_
              with_reducible refine o_add_n2 ?_
              with_reducible refine ev_sub ?_
              refine ev_sv rfl ?_
              refine ev_binop_r rfl ?_
              refine ev_sv rfl ?_
              with_reducible refine o_add_n1 ?_
              dsimp only
              refine o_item_L hd (by (first | lia | omega)) (rowV_get (Nat.not_le.mp (by assumption))) ?_ (fun _ _ => rfl)
              with_reducible refine o_add_nn ?_
              with_reducible refine ex_cons ?_
              with_reducible refine ex_ret ?_
              with_reducible refine ev_tuple ?_
              with_reducible refine' args_cons' ?_ ?x38
              case x38 => rfl
              with_reducible refine ev_tuple ?_
              with_reducible refine' args_cons' ?_ ?x39
              case x39 => rfl
              refine ev_sv rfl ?_
              with_reducible refine' args_cons' ?_ ?x40
              case x40 => rfl
              with_reducible refine' ev_mstr F.slot_str_join F.type_str_join ?x41 ?x42 ?x43 ?_
              case x41 => rfl
              case x42 => rfl
              case x43 => rfl
              refine ev_sv rfl ?_
              with_reducible refine Exists.intro _ (And.intro rfl ?_)
              with_reducible refine' args_cons' ?_ ?x44
              case x44 => rfl
              dsimp only
              have hy : (slc r (a + 2) (a + 2 + nth r (a + 1))).length ≤ 20000 := by
                unfold slc; simp; (first | lia | omega)
              have hyc : ∀ c ∈ slc r (a + 2) (a + 2 + nth r (a + 1)), c < 256 := fun c m => hr c (List.mem_of_mem_take (List.mem_of_mem_drop m))
              refine ev_map (mapI fun n => .str [n]) (by decide) (by decide) rfl (by decide) rfl (evi_list (.inl ⟨_, _, rfl⟩) (ev_lslice ?_ (fun _ _ => rfl))) (fun _ => rfl)
              refine ev_sv rfl ?_
              refine ev_binop_r rfl ?_
              refine ev_sv rfl ?_
              with_reducible refine o_add_n2 ?_
              refine ev_sv rfl ?_
              dsimp only
              refine ⟨_, _, _, hd.lists, rfl, rfl, by (first | lia | omega), by rw [rowV_len]; (first | lia | omega), ?_⟩
              rw [rowV_slice]
              generalize slc r (a + 2) (a + 2 + nth r (a + 1)) = y at *
              refine ⟨_, Lx.fro.lists, by rw [rowV_len]; (first | lia | omega), fun _ => Lx.fro.lists, fun k v μ' Cc hv => ?_, ?_⟩
              · obtain ⟨c, hc, rfl⟩ : ∃ c, y[k]? = some c ∧ V.int ((c : Nat) : Int) = v := by simpa [rowV] using hv
                have := hyc c (List.mem_of_getElem? hc)
                refine ev_call_builtin (by rw [hK']; k_is) (by boot_fast) (by decide) rfl (by decide) rfl rfl ?_
                refine args_sv rfl ?_
                refine b_chr (by (first | lia | omega)) (by (first | lia | omega)) ?_
                exact ⟨rfl, rfl⟩
              · refine args_sv rfl ?_
                refine m_join_L (xs := y.map fun c => [c]) (.lst (by simp; rfl)) ?_ ?_ (by decide) ?_
                · have := strsOf_map (y.map fun c => [c])
                  rw [← this]; simp [mapI, rowV, Function.comp_def]
                · rw [sum_one]; simp; (first | lia | omega)
                · rw [flat_one]
                  refine args_sv rfl ?_
                  refine ⟨by exact nb rfl, ?_⟩
                  refine args_sv rfl ?_
                  refine ⟨by exact nb rfl, ?_⟩
                  simp only [k4] at h
                  exact h _
theorem c_expand (hK : C.K = KH w.params) (hn : 3 ≤ C.n) {d : V} {r : List Nat} (hd : Lx μ d (rowV r)) (hl : r.length ≤ 20000) (hr : ∀ c ∈ r, c < 256)
    (h : match expandAll r with | .error e => ∀ g, X e (μ ++ g) | .ok l => ∀ g, Q (.lst μ.length) (μ ++ (l.map TK.v :: g))) :
    Op PR w C RV (fun us => call (.ref 170) us) X Q [d] μ := by
  refine' op_defl [("row", d)] ?k1 ?k2 ?k3 ?k4 ?k5 ?k6 ?k7 ?k8 ?k9 ?k10 ?k11 ?_
  case k1 => (rw [(by assumption : Ctx.K _ = KH _)]; k_is)
  case k2 => (rw [(by assumption : Ctx.K _ = KH _)]; k_is)
  case k3 => (first | lia | omega)
  case k5 => intro us h; rcases us with _ | ⟨a, _ | ⟨b, _ | ⟨c, _ | ⟨d, r⟩⟩⟩⟩ <;> first | rfl | (simp at h)
  case k4 => rfl
  case k6 => dsimp only [List.map]; decide
  case k7 => decide
  case k8 => dsimp only [List.map]; decide
  case k9 => rfl
  case k10 => rfl
  case k11 => rfl
  intro L C' hK' hn' hh' hf'
  unfold fB170
  replace hK' := hK'.trans hK
  unfold expandAll at h
  with_reducible refine ex_cons ?_
  refine ex_asg2s ?_ rfl rfl rfl rfl
  with_reducible refine ev_tuple ?_
  with_reducible refine' args_cons' ?_ ?x45
  case x45 => rfl
  dsimp only
  refine ev_list ?_
  refine args_sv rfl ?_
  refine ⟨by exact nb rfl, ?_⟩
  refine args_sv rfl ?_
  refine ⟨by exact nb rfl, ?_⟩
  with_reducible refine ⟨_, _, rfl, ?_⟩
  with_reducible refine ex_cons ?_
  refine ex_sub (loc' := ([("row", d), ("at", .int 0), ("found", .lst μ.length)] : Loc)) ?_ (by exact sub_lk rfl rfl)
  refine ex_while (fun n loc μ' => ∃ acc, ∃ a : Nat, ∃ g, μ' = μ ++ (acc.map TK.v :: g) ∧ loc = ([("row", d), ("at", .int a), ("found", .lst μ.length)] : Loc) ∧ a ≤ r.length ∧ r.length ≤ a + n ∧ acc.length ≤ a ∧ expandGo r n acc a = expandGo r r.length [] 0) r.length ⟨[], 0, [], rfl, rfl, by exact nb rfl, by (first | lia | omega), by simp, rfl⟩ ?_ hf' rfl
  rintro n _ _ ⟨acc, a, g, rfl, rfl, hal, han, hacc, hm⟩
  refine et_cmp ?_ rfl
  refine ev_sv rfl ?_
  refine ev_call_builtin (by rw [hK']; k_is) (by boot_fast) (by decide) rfl (by decide) rfl rfl ?_
  refine args_sv rfl ?_
  dsimp only
  refine b_len_L (hd.app _) (by rw [rowV_len]; (first | lia | omega)) ?_
  rw [rowV_len]
  with_reducible refine o_lt_nn ?_
  with_reducible refine bool_ex ?_
  refine ite_dec (fun hc => ?_) (fun hc => ?_)
  · obtain ⟨m, rfl⟩ : ∃ m, n = m + 1 := ⟨n - 1, by (first | lia | omega)⟩
    have hm' := hm
    conv at hm' => lhs; unfold expandGo
    rw [if_pos hc] at hm'
    refine ex_q fun QQ hQ => ?_
    with_reducible refine ex_cons ?_
    refine ex_asg2 ?_ rfl rfl rfl rfl
    refine ev_call_def (by rw [hK']; k_is) (by rw [hK']; k_is) rfl (by decide) rfl ?_
    refine args_sv rfl ?_
    dsimp only
    refine c_expand_one hK' (nle hn' hn rfl) (hd.app _) hl hr hc ?_
    cases hx : expandOne r a with
    | error e =>
      rw [hx] at hm'
      dsimp only at hm' ⊢
      rw [← hm'] at h
      intro g'
      have := h ((acc.map TK.v :: g) ++ g')
      rwa [List.append_assoc]
    | ok p =>
      rw [hx] at hm'
      have hst := expandOne_step hc hx
      dsimp only at hm' ⊢
      intro g'
      rw [show μ ++ acc.map TK.v :: g ++ g' = μ ++ (acc.map TK.v :: (g ++ g')) by simp]
      with_reducible refine ⟨_, _, rfl, ?_⟩
      with_reducible refine ex_cons ?_
      refine ex_expr ?_ rfl rfl
      with_reducible refine' ev_mlist F.slot_list_append F.type_list_append ?x46 ?x47 ?x48 ?_
      case x46 => rfl
      case x47 => rfl
      case x48 => rfl
      refine ev_sv rfl ?_
      with_reducible refine' isl_lst ?x49 ?_
      case x49 => (simp; done)
      refine args_sv rfl ?_
      dsimp only
      refine m_append get_mid (by rw [List.length_map]; (first | lia | omega)) ?_
      rw [set_mid]
      with_reducible refine And.intro rfl ?_
      with_reducible refine ex_nil ?_
      refine hQ _ _ _ ?_
      dsimp only
      refine ⟨m, _, by (first | lia | omega), ?_, acc ++ [p.1], p.2, g ++ g', ?_, rfl, hst.2, by (first | lia | omega), by simp; (first | lia | omega), hm'⟩
      · exact sub_lk rfl rfl
      · rw [List.map_append]; rfl
  · have hs : expandGo r n acc a = .ok acc := by
      cases n with
      | zero => rfl
      | succ m => unfold expandGo; rw [if_neg hc]
    rw [← hm, hs] at h
    with_reducible refine ex_nil ?_
    with_reducible refine ex_cons ?_
    with_reducible refine ex_ret ?_
    refine ev_sv rfl ?_
    dsimp only
    exact h g
end
theorem fillK8 (w : World) : PySem.Challenge.rw_nz0571_01 = PySem.Challenge.rw_nz0571_01 ∧ KH w.params = KH w.params := by
  k_fill
  exact ⟨rfl, rfl⟩
section
variable {w : World} {C : Ctx} {X : Str → St → Prop} {μ g : St} {Q : V → St → Prop}
theorem c_take (hK : C.K = KH w.params) (hn : 1 ≤ C.n) {b : Bx} (hb : b.ok) {m : Nat} (hm : 0 < m) (h : Q (.int (b.take m).1) (bx (b.take m).2 ++ g)) :
    Op PR w C RV (fun us => call (.ref 198) us) X Q [.lst 1, .int m] (bx b ++ g) := by
  refine' op_defl [("box", .lst 1), ("many", .int m)] ?k1 ?k2 ?k3 ?k4 ?k5 ?k6 ?k7 ?k8 ?k9 ?k10 ?k11 ?_
  case k1 => (rw [(by assumption : Ctx.K _ = KH _)]; k_is)
  case k2 => (rw [(by assumption : Ctx.K _ = KH _)]; k_is)
  case k3 => (first | lia | omega)
  case k5 => intro us h; rcases us with _ | ⟨a, _ | ⟨b, _ | ⟨c, _ | ⟨d, r⟩⟩⟩⟩ <;> first | rfl | (simp at h)
  case k4 => rfl
  case k6 => dsimp only [List.map]; decide
  case k7 => decide
  case k8 => dsimp only [List.map]; decide
  case k9 => rfl
  case k10 => rfl
  case k11 => rfl
  intro L C' hK' hn' hh' hf'
  unfold fB198
  replace hK' := hK'.trans hK
  obtain ⟨l, s⟩ := b
  have g1 : (bx ⟨l, s⟩ ++ g)[1]? = some [.lst 0, .int s] := rfl
  have g0 : (bx ⟨l, s⟩ ++ g)[0]? = some (rowV l) := rfl
  obtain ⟨hb1, hb2⟩ := hb
  dsimp only at hb1 hb2
  with_reducible refine ex_cons ?_
  with_reducible refine ex_if ?_
  with_reducible refine' et_cmp_r ?x0 ?_ ?x1
  case x0 => exact rfl
  case x1 => rfl
  with_reducible refine' ev_call_builtin ?x2 ?x3 ?x4 ?x5 ?x6 ?x7 ?x8 ?_
  case x2 => rw [hK']; k_is
  case x3 => boot_fast
  case x4 => decide
  case x5 => rfl
  case x6 => decide
  case x7 => rfl
  case x8 => rfl
  with_reducible refine' args_cons' ?_ ?x9
  case x9 => rfl
  with_reducible refine' ev_sub_r ?x10 ?_
  case x10 => exact rfl
  with_reducible refine' ev_sv ?x11 ?_
  case x11 => exact rfl
  refine o_item_Lj 0 (.lst g1) rfl (nb rfl) rfl ?_ (fun _ _ => rfl)
  with_reducible refine' args_sv ?x12 ?_
  case x12 => exact rfl
  refine b_len_L (.lst g0) (by rw [rowV_len]; (first | lia | omega)) ?_
  rw [rowV_len]
  with_reducible refine o_gt_n0 ?_
  with_reducible refine bool_ex ?_
  cases l with
  | cons a r =>
    refine ite_dec (fun _ => ?_) (fun q => absurd (Nat.zero_lt_succ _) q)
    with_reducible refine ex_cons ?_
    with_reducible refine ex_ret ?_
    with_reducible refine' ev_binop_r ?x13 ?_
    case x13 => exact rfl
    with_reducible refine' ev_mlist F.slot_list_pop F.type_list_pop ?x14 ?x15 ?x16 ?_
    case x14 => rfl
    case x15 => rfl
    case x16 => rfl
    with_reducible refine' ev_sub_r ?x17 ?_
    case x17 => exact rfl
    with_reducible refine' ev_sv ?x18 ?_
    case x18 => exact rfl
    dsimp only
    refine o_item_Lj 0 (.lst g1) rfl (nb rfl) rfl ?_ (fun _ _ => rfl)
    refine isl_lst (by simp [bx]) ?_
    with_reducible refine' args_sv ?x19 ?_
    case x19 => exact rfl
    refine m_pop0 (l := rowV r) (d := .int a) (show (bx ⟨a :: r, s⟩ ++ g)[0]? = some (V.int a :: rowV r) from rfl) (by rw [rowV_len]; simp at hb2; (first | lia | omega)) ?_
    refine o_mod_nn (by (first | lia | omega)) ?_
    exact h
  | nil =>
    refine ite_dec (fun q => absurd q (Nat.lt_irrefl 0)) (fun _ => ?_)
    with_reducible refine ex_nil ?_
    with_reducible refine ex_cons ?_
    refine ex_set ?_ rfl
    with_reducible refine' ev_binop_r ?x20 ?_
    case x20 => exact rfl
    with_reducible refine' ev_binop_r ?x21 ?_
    case x21 => exact rfl
    with_reducible refine' ev_binop_r ?x22 ?_
    case x22 => exact rfl
    with_reducible refine' ev_sub_r ?x23 ?_
    case x23 => exact rfl
    with_reducible refine' ev_sv ?x24 ?_
    case x24 => exact rfl
    dsimp only
    refine o_item_Lj 1 (.lst g1) rfl (nb rfl) rfl ?_ (fun _ _ => rfl)
    refine o_mul_ii (IntMulOk.of_right (by decide)) ?_
    with_reducible refine o_add_ii ?_
    rw [show (s : Int) * 4099 + 12301 = ((s * 4099 + 12301 : Nat) : Int) by simp]
    refine o_mod_nn (b := 1000003) (by (first | lia | omega)) ?_
    with_reducible refine' ev_sv ?x25 ?_
    case x25 => exact rfl
    with_reducible refine' ev_sv ?x26 ?_
    case x26 => exact rfl
    refine Op3.weak (o_set_lst 1 rfl g1 (by simp) (by simp) ?_)
    with_reducible refine ex_cons ?_
    with_reducible refine ex_ret ?_
    with_reducible refine' ev_binop_r ?x27 ?_
    case x27 => exact rfl
    with_reducible refine' ev_binop_r ?x28 ?_
    case x28 => exact rfl
    with_reducible refine' ev_sub_r ?x29 ?_
    case x29 => exact rfl
    with_reducible refine' ev_sv ?x30 ?_
    case x30 => exact rfl
    dsimp only
    refine o_item_Lj (l := [.lst 0, .int ((s * 4099 + 12301) % 1000003 : Nat)]) 1 (.lst rfl) rfl (nb rfl) rfl ?_ (fun _ _ => rfl)
    refine o_fdiv16 (by (first | lia | omega)) ?_
    refine o_mod_nn (by (first | lia | omega)) ?_
    exact h
theorem c_words (hK : C.K = KH w.params) (hn : 1 ≤ C.n) (h : Q (.fro (LWD.map V.str)) μ) :
    Op PR w C RV (fun us => call (.ref 177) us) X Q [] μ := by
  refine' op_defl [] ?k1 ?k2 ?k3 ?k4 ?k5 ?k6 ?k7 ?k8 ?k9 ?k10 ?k11 ?_
  case k1 => (rw [(by assumption : Ctx.K _ = KH _)]; k_is)
  case k2 => (rw [(by assumption : Ctx.K _ = KH _)]; k_is)
  case k3 => (first | lia | omega)
  case k5 => intro us h; rcases us with _ | ⟨a, _ | ⟨b, _ | ⟨c, _ | ⟨d, r⟩⟩⟩⟩ <;> first | rfl | (simp at h)
  case k4 => rfl
  case k6 => dsimp only [List.map]; decide
  case k7 => decide
  case k8 => dsimp only [List.map]; decide
  case k9 => rfl
  case k10 => rfl
  case k11 => rfl
  intro L C' hK' hn' hh' hf'
  unfold fB177
  replace hK' := hK'.trans hK
  with_reducible refine ex_cons ?_
  with_reducible refine ex_ret ?_
  dsimp only
  refine ev_lfro ?_
  with_reducible refine' args_sv ?x31 ?_
  case x31 => exact rfl
  with_reducible refine' And.intro ?x32 ?_
  case x32 => simp only [List.length_append, List.length_cons, List.length_nil, List.length_take, List.length_drop, List.length_reverse, sizeLine] at *; (first | lia | omega)
  exact h
theorem c_signs (hK : C.K = KH w.params) (hn : 1 ≤ C.n) (h : Q (.fro (SGN.map V.str)) μ) :
    Op PR w C RV (fun us => call (.ref 191) us) X Q [] μ := by
  refine' op_defl [] ?k1 ?k2 ?k3 ?k4 ?k5 ?k6 ?k7 ?k8 ?k9 ?k10 ?k11 ?_
  case k1 => (rw [(by assumption : Ctx.K _ = KH _)]; k_is)
  case k2 => (rw [(by assumption : Ctx.K _ = KH _)]; k_is)
  case k3 => (first | lia | omega)
  case k5 => intro us h; rcases us with _ | ⟨a, _ | ⟨b, _ | ⟨c, _ | ⟨d, r⟩⟩⟩⟩ <;> first | rfl | (simp at h)
  case k4 => rfl
  case k6 => dsimp only [List.map]; decide
  case k7 => decide
  case k8 => dsimp only [List.map]; decide
  case k9 => rfl
  case k10 => rfl
  case k11 => rfl
  intro L C' hK' hn' hh' hf'
  unfold fB191
  replace hK' := hK'.trans hK
  with_reducible refine ex_cons ?_
  with_reducible refine ex_ret ?_
  dsimp only
  refine ev_lfro ?_
  with_reducible refine' args_sv ?x33 ?_
  case x33 => exact rfl
  with_reducible refine' And.intro ?x34 ?_
  case x34 => simp only [List.length_append, List.length_cons, List.length_nil, List.length_take, List.length_drop, List.length_reverse, sizeLine] at *; (first | lia | omega)
  exact h
theorem c_numbers {QD : List (List Nat × V) → St → Prop} (hK : C.K = KH w.params) (hn : 1 ≤ C.n) (h : QD (LNB.map fun p => (cs p.1, V.int p.2)) μ) :
    Op PR w C (RDs PR w) (fun us => call (.ref 184) us) X QD [] μ := by
  refine' op_ret0 ?k1 ?k2 ?k3 ?k4 ?k5 ?k6 ?k7 ?k8 ?_
  case k1 => rw [hK]; k_is
  case k2 => rw [hK]; k_is
  case k3 => (first | lia | omega)
  case k4 => rfl
  case k5 => decide
  case k6 => rfl
  case k7 => rfl
  case k8 => rfl
  intro L C' hK' hn' hh' hf'
  have ce : ∀ {ks vs}, CE ks vs LNB → ∀ {pos env}, Ev PR w C' (RDs PR w) env X (eval (.Dict ks vs pos) env) [] QD μ := fun c => ev_dictlong' c (by decide) (by decide) (by decide) h
  refine ce ?_
  repeat (first | exact CE.nil | refine CE.cons ?_)
end
theorem fillK9 (w : World) : PySem.Challenge.rw_nz0571_01 = PySem.Challenge.rw_nz0571_01 ∧ KH w.params = KH w.params := by
  k_fill
  exact ⟨rfl, rfl⟩
section
variable {w : World} {C : Ctx} {X : Str → St → Prop} {μ g : St} {Q : V → St → Prop}
theorem c_law_token (hK : C.K = KH w.params) (hn : 2 ≤ C.n) {b : Bx} (hb : b.ok) (h : Q (drawToken b).1.v (bx (drawToken b).2 ++ g)) :
    Op PR w C RV (fun us => call (.ref 210) us) X Q [.lst 1] (bx b ++ g) := by
  refine' op_defl [("box", .lst 1)] ?k1 ?k2 ?k3 ?k4 ?k5 ?k6 ?k7 ?k8 ?k9 ?k10 ?k11 ?_
  case k1 => (rw [(by assumption : Ctx.K _ = KH _)]; k_is)
  case k2 => (rw [(by assumption : Ctx.K _ = KH _)]; k_is)
  case k3 => (first | lia | omega)
  case k5 => intro us h; rcases us with _ | ⟨a, _ | ⟨b, _ | ⟨c, _ | ⟨d, r⟩⟩⟩⟩ <;> first | rfl | (simp at h)
  case k4 => rfl
  case k6 => dsimp only [List.map]; decide
  case k7 => decide
  case k8 => dsimp only [List.map]; decide
  case k9 => rfl
  case k10 => rfl
  case k11 => rfl
  intro L C' hK' hn' hh' hf'
  unfold fB210
  replace hK' := hK'.trans hK
  unfold drawToken at h
  dsimp only at h
  with_reducible refine ex_cons ?_
  refine ex_assign ?_ rfl rfl
  refine ev_call_def (by rw [hK']; k_is) (by rw [hK']; k_is) rfl (by decide) rfl ?_
  refine args_sv rfl ?_
  dsimp only
  refine c_take (m := 5) hK' (nle hn' hn rfl) hb (nb rfl) ?_
  have hb1 := b.take_ok hb 5
  generalize b.take 5 = f at *
  obtain ⟨k, b1⟩ := f
  dsimp only at h hb1 ⊢
  with_reducible refine ex_cons ?_
  with_reducible refine ex_if ?_
  refine et_cmp_r rfl ?_ rfl
  refine ev_sv rfl ?_
  with_reducible refine o_eq_ii ?_
  with_reducible refine bool_ex ?_
  refine ite_b (fun hq => ?_) (fun hq => ?_)
  · have hk : k = 0 := by have := eq_of_beq hq; (first | lia | omega)
    rw [if_pos hk] at h
    with_reducible refine ex_cons ?_
    with_reducible refine ex_ret ?_
    with_reducible refine ev_tuple ?_
    with_reducible refine' args_cons' ?_ ?x0
    case x0 => rfl
    refine ev_sv rfl ?_
    with_reducible refine' args_cons' ?_ ?x1
    case x1 => rfl
    with_reducible refine ev_sub ?_
    dsimp only
    refine ev_lfro ?_
    refine args_sv rfl ?_
    refine ⟨by exact nb rfl, ?_⟩
    refine ev_call_def (by rw [hK']; k_is) (by rw [hK']; k_is) rfl (by decide) rfl ?_
    refine args_sv rfl ?_
    refine c_take (m := 7) hK' (nle hn' hn rfl) hb1 (nb rfl) ?_
    have hl := b1.take_lt (m := 7) (nb rfl)
    refine o_item_L (l := rowV NMS) Lx.fro (Nat.lt_of_lt_of_le (by assumption) (nb rfl)) (int_get hl) ?_ (fun _ _ => rfl)
    refine args_sv rfl ?_
    refine ⟨by exact nb rfl, ?_⟩
    exact h
  have hk0 : k ≠ 0 := fun e => by rw [e] at hq; exact absurd hq (by decide)
  rw [if_neg hk0] at h
  clear hq
  with_reducible refine ex_nil ?_
  with_reducible refine ex_cons ?_
  with_reducible refine ex_if ?_
  refine et_cmp_r rfl ?_ rfl
  refine ev_sv rfl ?_
  with_reducible refine o_eq_ii ?_
  with_reducible refine bool_ex ?_
  refine ite_b (fun hq => ?_) (fun hq => ?_)
  · have hk : k = 1 := by have := eq_of_beq hq; (first | lia | omega)
    rw [if_pos hk] at h
    with_reducible refine ex_cons ?_
    with_reducible refine ex_ret ?_
    with_reducible refine ev_tuple ?_
    with_reducible refine' args_cons' ?_ ?x2
    case x2 => rfl
    refine ev_sv rfl ?_
    with_reducible refine' args_cons' ?_ ?x3
    case x3 => rfl
    with_reducible refine ev_sub ?_
    refine ev_call_def0 (by rw [hK']; k_is) (by rw [hK']; k_is) rfl (by decide) ?_
    dsimp only
    refine c_words hK' (nle hn' hn rfl) ?_
    refine ev_call_def (by rw [hK']; k_is) (by rw [hK']; k_is) rfl (by decide) rfl ?_
    with_reducible refine' args_cons' ?_ ?x4
    case x4 => rfl
    refine ev_sv rfl ?_
    with_reducible refine' args_cons' ?_ ?x5
    case x5 => rfl
    refine ev_call_builtin (by rw [hK']; k_is) (by boot_fast) (by decide) rfl (by decide) rfl rfl ?_
    with_reducible refine' args_cons' ?_ ?x6
    case x6 => rfl
    refine ev_call_def0 (by rw [hK']; k_is) (by rw [hK']; k_is) rfl (by decide) ?_
    refine c_words hK' (nle hn' hn rfl) ?_
    refine args_sv rfl ?_
    refine b_len_L Lx.fro (by decide) ?_
    rw [show (LWD.map V.str).length = 26 by decide]
    refine args_sv rfl ?_
    refine c_take (m := 26) hK' (nle hn' hn rfl) hb1 (nb rfl) ?_
    have hl := b1.take_lt (m := 26) (nb rfl)
    refine o_item_L (l := LWD.map V.str) Lx.fro (Nat.lt_of_lt_of_le (by assumption) (nb rfl)) (str_get hl) ?_ (fun _ _ => rfl)
    refine args_sv rfl ?_
    refine ⟨by exact nb rfl, ?_⟩
    exact h
  have hk1 : k ≠ 1 := fun e => by rw [e] at hq; exact absurd hq (by decide)
  rw [if_neg hk1] at h
  clear hq
  with_reducible refine ex_nil ?_
  with_reducible refine ex_cons ?_
  with_reducible refine ex_if ?_
  refine et_cmp_r rfl ?_ rfl
  refine ev_sv rfl ?_
  with_reducible refine o_eq_ii ?_
  with_reducible refine bool_ex ?_
  refine ite_b (fun hq => ?_) (fun hq => ?_)
  · have hk : k = 2 := by have := eq_of_beq hq; (first | lia | omega)
    rw [if_pos hk] at h
    with_reducible refine ex_cons ?_
    with_reducible refine ex_ret ?_
    with_reducible refine ev_tuple ?_
    with_reducible refine' args_cons' ?_ ?x7
    case x7 => rfl
    refine ev_sv rfl ?_
    with_reducible refine' args_cons' ?_ ?x8
    case x8 => rfl
    with_reducible refine ev_sub ?_
    dsimp only
    refine ev_lfro ?_
    refine args_sv rfl ?_
    refine ⟨by exact nb rfl, ?_⟩
    refine ev_call_def (by rw [hK']; k_is) (by rw [hK']; k_is) rfl (by decide) rfl ?_
    refine args_sv rfl ?_
    refine c_take (m := 6) hK' (nle hn' hn rfl) hb1 (nb rfl) ?_
    have hl := b1.take_lt (m := 6) (nb rfl)
    refine o_item_L (l := LNM.map V.str) Lx.fro (Nat.lt_of_lt_of_le (by assumption) (nb rfl)) (str_get hl) ?_ (fun _ _ => rfl)
    refine args_sv rfl ?_
    refine ⟨by exact nb rfl, ?_⟩
    exact h
  have hk2 : k ≠ 2 := fun e => by rw [e] at hq; exact absurd hq (by decide)
  rw [if_neg hk2] at h
  clear hq
  with_reducible refine ex_nil ?_
  with_reducible refine ex_cons ?_
  with_reducible refine ex_if ?_
  refine et_cmp_r rfl ?_ rfl
  refine ev_sv rfl ?_
  with_reducible refine o_eq_ii ?_
  with_reducible refine bool_ex ?_
  refine ite_b (fun hq => ?_) (fun hq => ?_)
  · have hk : k = 3 := by have := eq_of_beq hq; (first | lia | omega)
    rw [if_pos hk] at h
    with_reducible refine ex_cons ?_
    with_reducible refine ex_ret ?_
    with_reducible refine ev_tuple ?_
    with_reducible refine' args_cons' ?_ ?x9
    case x9 => rfl
    refine ev_sv rfl ?_
    with_reducible refine' args_cons' ?_ ?x10
    case x10 => rfl
    with_reducible refine ev_sub ?_
    dsimp only
    refine ev_lfro ?_
    refine args_sv rfl ?_
    refine ⟨by exact nb rfl, ?_⟩
    refine ev_call_def (by rw [hK']; k_is) (by rw [hK']; k_is) rfl (by decide) rfl ?_
    refine args_sv rfl ?_
    refine c_take (m := 5) hK' (nle hn' hn rfl) hb1 (nb rfl) ?_
    have hl := b1.take_lt (m := 5) (nb rfl)
    refine o_item_L (l := LTX.map V.str) Lx.fro (Nat.lt_of_lt_of_le (by assumption) (nb rfl)) (str_get hl) ?_ (fun _ _ => rfl)
    refine args_sv rfl ?_
    refine ⟨by exact nb rfl, ?_⟩
    exact h
  have hk3 : k ≠ 3 := fun e => by rw [e] at hq; exact absurd hq (by decide)
  rw [if_neg hk3] at h
  clear hq
  with_reducible refine ex_nil ?_
  with_reducible refine ex_cons ?_
  with_reducible refine ex_ret ?_
  with_reducible refine ev_tuple ?_
  with_reducible refine' args_cons' ?_ ?x11
  case x11 => rfl
  refine ev_sv rfl ?_
  with_reducible refine' args_cons' ?_ ?x12
  case x12 => rfl
  with_reducible refine ev_sub ?_
  refine ev_call_def0 (by rw [hK']; k_is) (by rw [hK']; k_is) rfl (by decide) ?_
  dsimp only
  refine c_signs hK' (nle hn' hn rfl) ?_
  refine ev_call_def (by rw [hK']; k_is) (by rw [hK']; k_is) rfl (by decide) rfl ?_
  with_reducible refine' args_cons' ?_ ?x13
  case x13 => rfl
  refine ev_sv rfl ?_
  with_reducible refine' args_cons' ?_ ?x14
  case x14 => rfl
  refine ev_call_builtin (by rw [hK']; k_is) (by boot_fast) (by decide) rfl (by decide) rfl rfl ?_
  with_reducible refine' args_cons' ?_ ?x15
  case x15 => rfl
  refine ev_call_def0 (by rw [hK']; k_is) (by rw [hK']; k_is) rfl (by decide) ?_
  refine c_signs hK' (nle hn' hn rfl) ?_
  refine args_sv rfl ?_
  refine b_len_L Lx.fro (by decide) ?_
  rw [show (SGN.map V.str).length = 17 by decide]
  refine args_sv rfl ?_
  refine c_take (m := 17) hK' (nle hn' hn rfl) hb1 (nb rfl) ?_
  have hl := b1.take_lt (m := 17) (nb rfl)
  refine o_item_L (l := SGN.map V.str) Lx.fro (Nat.lt_of_lt_of_le (by assumption) (nb rfl)) (str_get hl) ?_ (fun _ _ => rfl)
  refine args_sv rfl ?_
  refine ⟨by exact nb rfl, ?_⟩
  exact h
end
theorem fillK10 (w : World) : PySem.Challenge.rw_nz0571_01 = PySem.Challenge.rw_nz0571_01 ∧ KH w.params = KH w.params := by
  k_fill
  exact ⟨rfl, rfl⟩
theorem bx_get {b : Bx} {g : St} {x : List V} : (bx b ++ (g ++ [x]))[g.length + 2]? = some x := by simp [bx]
theorem bx_set {b : Bx} {g : St} {x y : List V} : (bx b ++ (g ++ [x])).set (g.length + 2) y = bx b ++ (g ++ [y]) := by simp [bx]
theorem drawItems_ok {p : List TK × Bx} (h : p.2.ok) : ∀ n, (drawItems p n).2.ok
  | 0 => h
  | n + 1 => Bx.take_ok (drawItems_ok h n) 7
theorem drawItems_len {p : List TK × Bx} : ∀ n, (drawItems p n).1.length ≤ p.1.length + 2 * n
  | 0 => by simp [drawItems]
  | n + 1 => by
    have := drawItems_len (p := p) n
    unfold drawItems drawItem
    simp only [List.length_append]
    split <;> simp <;> (first | lia | omega)
section
variable {w : World} {C : Ctx} {X : Str → St → Prop} {μ g : St} {Q : V → St → Prop}
theorem c_law_end (hK : C.K = KH w.params) (hn : 2 ≤ C.n) {b : Bx} (hb : b.ok) (h : ∀ d g', Lx (bx (drawEnd b).2 ++ (g ++ g')) d ((drawEnd b).1.map TK.v) → Q d (bx (drawEnd b).2 ++ (g ++ g'))) :
    Op PR w C RV (fun us => call (.ref 217) us) X Q [.lst 1] (bx b ++ g) := by
  refine' op_defl [("box", .lst 1)] ?k1 ?k2 ?k3 ?k4 ?k5 ?k6 ?k7 ?k8 ?k9 ?k10 ?k11 ?_
  case k1 => (rw [(by assumption : Ctx.K _ = KH _)]; k_is)
  case k2 => (rw [(by assumption : Ctx.K _ = KH _)]; k_is)
  case k3 => (first | lia | omega)
  case k5 => intro us h; rcases us with _ | ⟨a, _ | ⟨b, _ | ⟨c, _ | ⟨d, r⟩⟩⟩⟩ <;> first | rfl | (simp at h)
  case k4 => rfl
  case k6 => dsimp only [List.map]; decide
  case k7 => decide
  case k8 => dsimp only [List.map]; decide
  case k9 => rfl
  case k10 => rfl
  case k11 => rfl
  intro L C' hK' hn' hh' hf'
  unfold fB217
  replace hK' := hK'.trans hK
  unfold drawEnd at h
  dsimp only at h
  with_reducible refine ex_cons ?_
  refine ex_assign ?_ rfl rfl
  refine ev_call_def (by rw [hK']; k_is) (by rw [hK']; k_is) rfl (by decide) rfl ?_
  refine args_sv rfl ?_
  dsimp only
  refine c_take (m := 4) hK' (nle hn' hn rfl) hb (nb rfl) ?_
  have hb1 := b.take_ok hb 4
  generalize b.take 4 = f at *
  obtain ⟨k, b1⟩ := f
  dsimp only at h hb1 ⊢
  with_reducible refine ex_cons ?_
  with_reducible refine ex_if ?_
  refine et_cmp_r rfl ?_ rfl
  refine ev_sv rfl ?_
  with_reducible refine o_eq_ii ?_
  with_reducible refine bool_ex ?_
  refine ite_b (fun hq => ?_) (fun hq => ?_)
  · have hk : k = 0 := by have := eq_of_beq hq; (first | lia | omega)
    rw [if_pos hk] at h
    with_reducible refine ex_cons ?_
    with_reducible refine ex_ret ?_
    dsimp only
    refine ev_lfro ?_
    with_reducible refine' args_cons' ?_ ?x0
    case x0 => rfl
    with_reducible refine ev_tuple ?_
    refine args_sv rfl ?_
    refine ⟨by exact nb rfl, ?_⟩
    with_reducible refine' args_cons' ?_ ?x1
    case x1 => rfl
    with_reducible refine ev_tuple ?_
    with_reducible refine' args_cons' ?_ ?x2
    case x2 => rfl
    refine ev_sv rfl ?_
    with_reducible refine' args_cons' ?_ ?x3
    case x3 => rfl
    with_reducible refine ev_sub ?_
    refine ev_lfro ?_
    refine args_sv rfl ?_
    refine ⟨by exact nb rfl, ?_⟩
    refine ev_call_def (by rw [hK']; k_is) (by rw [hK']; k_is) rfl (by decide) rfl ?_
    refine args_sv rfl ?_
    refine c_take (m := 3) hK' (nle hn' hn rfl) hb1 (nb rfl) ?_
    have hl := b1.take_lt (m := 3) (nb rfl)
    refine o_item_L (l := LRM.map V.str) Lx.fro (Nat.lt_of_lt_of_le (by assumption) (nb rfl)) (str_get hl) ?_ (fun _ _ => rfl)
    refine args_sv rfl ?_
    refine ⟨by exact nb rfl, ?_⟩
    refine args_sv rfl ?_
    refine ⟨by exact nb rfl, ?_⟩
    have := h _ [] Lx.fro
    rw [List.append_nil] at this
    exact this
  have hk0 : k ≠ 0 := fun e => by rw [e] at hq; exact absurd hq (by decide)
  rw [if_neg hk0] at h
  clear hq
  with_reducible refine ex_nil ?_
  with_reducible refine ex_cons ?_
  with_reducible refine ex_if ?_
  refine et_cmp_r rfl ?_ rfl
  refine ev_sv rfl ?_
  with_reducible refine o_gt_ii ?_
  with_reducible refine bool_ex ?_
  refine ite_dec (fun hq => ?_) (fun hq => ?_)
  · rw [if_pos (by (first | lia | omega))] at h
    with_reducible refine ex_cons ?_
    with_reducible refine ex_ret ?_
    dsimp only
    refine ev_lfro ?_
    refine args_sv rfl ?_
    refine ⟨by exact nb rfl, ?_⟩
    have := h _ [] Lx.fro
    rw [List.append_nil] at this
    exact this
  rw [if_neg (by (first | lia | omega))] at h
  with_reducible refine ex_nil ?_
  with_reducible refine ex_cons ?_
  refine ex_assign ?_ rfl rfl
  dsimp only
  refine ev_list ?_
  with_reducible refine' args_cons' ?_ ?x4
  case x4 => rfl
  with_reducible refine ev_tuple ?_
  refine args_sv rfl ?_
  refine ⟨by exact nb rfl, ?_⟩
  refine args_sv rfl ?_
  refine ⟨by exact nb rfl, ?_⟩
  with_reducible refine ex_cons ?_
  rw [show (bx b1 ++ g).length = g.length + 2 by simp [bx], List.append_assoc]
  refine ex_sub (loc' := ([("box", .lst 1), ("found", .lst (g.length + 2))] : Loc)) ?_ (by exact sub_lk rfl rfl)
  refine ex_for (evi_range (by rw [hK']; k_is) rfl rfl ?_) hf' rfl (fun _ => rfl)
  with_reducible refine ev_binop ?_
  refine ev_sv rfl ?_
  refine ev_call_def (by rw [hK']; k_is) (by rw [hK']; k_is) rfl (by decide) rfl ?_
  refine args_sv rfl ?_
  dsimp only
  refine c_take (m := 3) hK' (nle hn' hn rfl) hb1 (nb rfl) ?_
  have hb2 := b1.take_ok hb1 3
  have hl2 := b1.take_lt (m := 3) (nb rfl)
  generalize b1.take 3 = f at *
  obtain ⟨n, b2⟩ := f
  dsimp only at h hb2 hl2 ⊢
  with_reducible refine o_add_ii ?_
  with_reducible refine Exists.intro _ (And.intro rfl ?_)
  refine ⟨by simp only [List.length_append, List.length_cons, List.length_nil, List.length_take, List.length_drop, List.length_reverse, sizeLine]; (first | lia | omega), ?_⟩
  dsimp only
  have hm3 : 1 + n ≤ 3 := by (first | lia | omega)
  generalize 1 + n = m at *
  generalize hp0 : (([TK.word (cs "DATA")], b2) : List TK × Bx) = p0 at *
  have hp2 : p0.2.ok := by rw [← hp0]; exact hb2
  have hp1 : p0.1.length = 1 := by rw [← hp0]; rfl
  refine ⟨fun i loc μ' => μ' = bx (drawItems p0 i).2 ++ (g ++ [(drawItems p0 i).1.map TK.v]) ∧ loc = ([("box", .lst 1), ("found", .lst (g.length + 2))] : Loc), ⟨by rw [← hp0]; rfl, rfl⟩, fun _ _ _ _ => trivial, ?_, ?_⟩
  · rintro i v _ _ hv ⟨rfl, rfl⟩
    refine ⟨_, ast_name rfl, ?_⟩
    obtain ⟨him, rfl⟩ : i < m ∧ V.int (i : Nat) = v := by
      rw [List.getElem?_map] at hv
      cases hr : (List.range m)[i]? with
      | none => rw [hr] at hv; cases hv
      | some j =>
        rw [hr] at hv
        obtain ⟨h1, h2⟩ := List.getElem?_eq_some_iff.mp hr
        rw [List.getElem_range] at h2
        subst h2
        exact ⟨by simpa using h1, Option.some.inj hv⟩
    have hok := drawItems_ok (p := p0) hp2 i
    have hlen := drawItems_len (p := p0) i
    dsimp only
    rw [show drawItems p0 (i + 1) = drawItem i (drawItems p0 i) from rfl]
    generalize drawItems p0 i = q at *
    obtain ⟨ts, b3⟩ := q
    unfold drawItem
    dsimp only at hok hlen ⊢
    refine ex_q fun QQ hQ => ?_
    with_reducible refine ex_cons ?_
    refine ex_assign ?_ rfl rfl
    with_reducible refine ev_sub ?_
    dsimp only
    refine ev_lfro ?_
    refine args_sv rfl ?_
    refine ⟨by exact nb rfl, ?_⟩
    refine ev_call_def (by rw [hK']; k_is) (by rw [hK']; k_is) rfl (by decide) rfl ?_
    refine args_sv rfl ?_
    refine c_take (m := 7) hK' (nle hn' hn rfl) hok (nb rfl) ?_
    have hl := b3.take_lt (m := 7) (nb rfl)
    generalize b3.take 7 = f at *
    obtain ⟨x, b4⟩ := f
    dsimp only at hl ⊢
    refine o_item_L (l := LIT.map V.str) Lx.fro (Nat.lt_of_lt_of_le (by assumption) (nb rfl)) (str_get hl) ?_ (fun _ _ => rfl)
    generalize LIT.getD x [] = y at *
    with_reducible refine ex_cons ?_
    refine ex_expr ?_ rfl rfl
    with_reducible refine' ev_mlist F.slot_list_extend F.type_list_extend ?x5 ?x6 ?x7 ?_
    case x5 => rfl
    case x6 => rfl
    case x7 => rfl
    refine ev_sv rfl ?_
    dsimp only
    refine isl_lst (by simp [bx]) ?_
    with_reducible refine' args_cons' ?_ ?x8
    case x8 => rfl
    with_reducible refine ev_binop ?_
    with_reducible refine ev_ifexp ?_
    refine et_cmp_r rfl ?_ rfl
    refine ev_sv rfl ?_
    with_reducible refine o_gt_n0 ?_
    with_reducible refine bool_ex ?_
    refine ite_dec (fun hc => ?_) (fun hc => ?_)
    · rw [if_pos hc] at hQ
      refine ev_lfro ?_
      with_reducible refine' args_cons' ?_ ?x9
      case x9 => rfl
      with_reducible refine ev_tuple ?_
      refine args_sv rfl ?_
      refine ⟨by exact nb rfl, ?_⟩
      refine args_sv rfl ?_
      refine ⟨by exact nb rfl, ?_⟩
      refine ev_lfro ?_
      with_reducible refine' args_cons' ?_ ?x10
      case x10 => rfl
      with_reducible refine ev_tuple ?_
      refine args_sv rfl ?_
      refine ⟨by exact nb rfl, ?_⟩
      refine args_sv rfl ?_
      refine ⟨by exact nb rfl, ?_⟩
      refine o_add_L Lx.fro Lx.fro (by simp) ?_
      refine args_sv rfl ?_
      refine m_extend_L bx_get Lx.fro (by simp; (first | lia | omega)) ?_
      rw [bx_set]
      with_reducible refine And.intro rfl ?_
      with_reducible refine ex_nil ?_
      refine hQ _ _ _ ?_
      dsimp only
      exact ⟨_, by exact sub_lk rfl rfl, by simp [TK.v, TK.kind, TK.val], rfl⟩
    · rw [if_neg hc] at hQ
      refine ev_lfro ?_
      refine args_sv rfl ?_
      refine ⟨by exact nb rfl, ?_⟩
      refine ev_lfro ?_
      with_reducible refine' args_cons' ?_ ?x11
      case x11 => rfl
      with_reducible refine ev_tuple ?_
      refine args_sv rfl ?_
      refine ⟨by exact nb rfl, ?_⟩
      refine args_sv rfl ?_
      refine ⟨by exact nb rfl, ?_⟩
      refine o_add_L Lx.fro Lx.fro (by simp) ?_
      refine args_sv rfl ?_
      refine m_extend_L bx_get Lx.fro (by simp; (first | lia | omega)) ?_
      rw [bx_set]
      with_reducible refine And.intro rfl ?_
      with_reducible refine ex_nil ?_
      refine hQ _ _ _ ?_
      dsimp only
      exact ⟨_, by exact sub_lk rfl rfl, by simp [TK.v, TK.kind, TK.val], rfl⟩
  · rintro _ _ ⟨rfl, rfl⟩
    rw [show ((List.range m).map fun (i : Nat) => V.int i).length = m by simp]
    with_reducible refine ex_nil ?_
    with_reducible refine ex_cons ?_
    with_reducible refine ex_ret ?_
    refine ev_sv rfl ?_
    dsimp only
    exact h _ _ (.lst bx_get)
end
theorem fillK11 (w : World) : PySem.Challenge.rw_nz0571_01 = PySem.Challenge.rw_nz0571_01 ∧ KH w.params = KH w.params := by
  k_fill
  exact ⟨rfl, rfl⟩
section
variable {w : World} {C : Ctx} {X : Str → St → Prop} {Q : V → St → Prop} {μ : St}
theorem c_octets (hK : C.K = KH w.params) (hn : 2 ≤ C.n) {d : V} {ts : List TK} (hd : Lx μ d (ts.map TK.v)) (hl : ts.length ≤ 60) (hs2 : ∀ t ∈ ts, t.good2)
    (h : ∀ g, Q (.lst μ.length) (μ ++ (rowV (octs ts) :: g))) :
    Op PR w C RV (fun us => call (.ref 234) us) X Q [d] μ := by
  refine' op_defl [("tokens", d)] ?k1 ?k2 ?k3 ?k4 ?k5 ?k6 ?k7 ?k8 ?k9 ?k10 ?k11 ?_
  case k1 => (rw [(by assumption : Ctx.K _ = KH _)]; k_is)
  case k2 => (rw [(by assumption : Ctx.K _ = KH _)]; k_is)
  case k3 => (first | lia | omega)
  case k5 => intro us h; rcases us with _ | ⟨a, _ | ⟨b, _ | ⟨c, _ | ⟨d, r⟩⟩⟩⟩ <;> first | rfl | (simp at h)
  case k4 => rfl
  case k6 => dsimp only [List.map]; decide
  case k7 => decide
  case k8 => dsimp only [List.map]; decide
  case k9 => rfl
  case k10 => rfl
  case k11 => rfl
  intro L C' hK' hn' hh' hf'
  unfold fB234
  replace hK' := hK'.trans hK
  have hs : ∀ t ∈ ts, t.good := fun t m => (hs2 t m).1
  with_reducible refine ex_cons ?_
  refine ex_assign ?_ rfl rfl
  dsimp only
  refine ev_list ?_
  refine args_sv rfl ?_
  refine ⟨by exact nb rfl, ?_⟩
  with_reducible refine ex_cons ?_
  refine ex_sub (loc' := ([("tokens", d), ("found", .lst μ.length)] : Loc)) ?_ (by exact sub_lk rfl rfl)
  refine ex_for (evi_list (.inr ⟨_, _, _, rfl⟩) ?_) hf' rfl (fun _ => rfl)
  refine ev_sv rfl ?_
  dsimp only
  refine ⟨_, (hd.app _).lists, fun i loc μ' => ∃ g, μ' = μ ++ (rowV (octs (ts.take i)) :: g) ∧ loc = ([("tokens", d), ("found", .lst μ.length)] : Loc), ⟨[], rfl, rfl⟩, ?_, ?_, ?_⟩
  · rintro k loc μ' ⟨g, rfl, rfl⟩; exact (hd.app _).lists
  · rintro k v _ μ₁ hv ⟨g, rfl, rfl⟩
    obtain ⟨t, ht, rfl⟩ : ∃ t, ts[k]? = some t ∧ v = TK.v t := by
      simp only [List.getElem?_map, Option.map_eq_some_iff] at hv
      obtain ⟨c, h1, h2⟩ := hv; exact ⟨c, h1, h2.symm⟩
    refine ⟨_, ast_two rfl rfl, ?_⟩
    have hk : k < ts.length := (List.getElem?_eq_some_iff.mp ht).1
    have hg : t.good := hs t (List.mem_of_getElem? ht)
    have hg2 := (hs2 t (List.mem_of_getElem? ht)).2
    have hol := octs_len (ts := ts.take k) fun t m => hs t (List.mem_of_mem_take m)
    have hel := enc_len hg
    rw [List.length_take] at hol
    dsimp only
    rw [octs_take ht, rowV_app]
    generalize octs (ts.take k) = o at *
    have hr : (rowV o).length ≤ 20000 := by rw [rowV_len]; (first | lia | omega)
    refine ex_q fun QQ hQ => ?_
    with_reducible refine ex_cons ?_
    with_reducible refine ex_if ?_
    refine et_cmp_r rfl ?_ rfl
    refine ev_sv rfl ?_
    with_reducible refine o_eq_ss ?_
    with_reducible refine bool_ex ?_
    cases t with
    | word x =>
      dsimp only [TK.kind, TK.val, enc]
      refine ite_t (by decide) ?_
      with_reducible refine ex_cons ?_
      refine ex_expr ?_ rfl rfl
      with_reducible refine' ev_mlist F.slot_list_append F.type_list_append ?x0 ?x1 ?x2 ?_
      case x0 => rfl
      case x1 => rfl
      case x2 => rfl
      refine ev_sv rfl ?_
      with_reducible refine' isl_lst ?x3 ?_
      case x3 => (simp; done)
      with_reducible refine' args_cons' ?_ ?x4
      case x4 => rfl
      with_reducible refine ev_binop ?_
      refine ev_sv rfl ?_
      refine ev_subN ?_ (fun _ _ => rfl)
      dsimp only
      refine ev_call0 (by rw [hK']; k_is) (by rw [hK']; k_is) rfl (by decide) (c_numbers hK' (nle hn' hn rfl) ?_)
      refine ev_sv rfl ?_
      refine ⟨x, _, rfl, lnb_look (hg2 x rfl), ?_⟩
      with_reducible refine o_add_ii ?_
      refine args_sv rfl ?_
      refine m_append get_mid (Nat.le_trans (by assumption) (nb rfl)) ?_
      rw [set_mid]
      with_reducible refine And.intro rfl ?_
      with_reducible refine ex_nil ?_
      with_reducible refine ex_nil ?_
      refine hQ _ _ _ ?_
      dsimp only [enc]
      exact ⟨_, by exact sub_lk rfl rfl, g, by simp [rowV], rfl⟩
    | sign x =>
      dsimp only [TK.kind, TK.val, enc]
      obtain ⟨i1, i2, i3⟩ := idx_at hg
      have i4 : idx SGN x < 17 := i3
      refine ite_f (by decide) ?_
      with_reducible refine ex_cons ?_
      with_reducible refine ex_if ?_
      refine et_cmp_r rfl ?_ rfl
      refine ev_sv rfl ?_
      with_reducible refine o_eq_ss ?_
      with_reducible refine bool_ex ?_
      refine ite_t (by decide) ?_
      with_reducible refine ex_cons ?_
      refine ex_expr ?_ rfl rfl
      with_reducible refine' ev_mlist F.slot_list_append F.type_list_append ?x5 ?x6 ?x7 ?_
      case x5 => rfl
      case x6 => rfl
      case x7 => rfl
      refine ev_sv rfl ?_
      with_reducible refine' isl_lst ?x8 ?_
      case x8 => (simp; done)
      with_reducible refine' args_cons' ?_ ?x9
      case x9 => rfl
      with_reducible refine ev_binop ?_
      refine ev_sv rfl ?_
      with_reducible refine' ev_mlist F.slot_list_index F.type_list_index ?x10 ?x11 ?x12 ?_
      case x10 => rfl
      case x11 => rfl
      case x12 => rfl
      refine ev_call_def0 (by rw [hK']; k_is) (by rw [hK']; k_is) rfl (by decide) ?_
      dsimp only
      refine c_signs hK' (nle hn' hn rfl) ?_
      with_reducible refine isl_fro ?_
      refine args_sv rfl ?_
      refine m_index_L (xs := SGN) (idx SGN x) Lx.fro (strsOf_map SGN) i1 i2 (Nat.lt_of_lt_of_le (by assumption) (nb rfl)) ?_
      with_reducible refine o_add_ii ?_
      refine args_sv rfl ?_
      refine m_append get_mid (Nat.le_trans (by assumption) (nb rfl)) ?_
      rw [set_mid]
      with_reducible refine And.intro rfl ?_
      with_reducible refine ex_nil ?_
      with_reducible refine ex_nil ?_
      with_reducible refine ex_nil ?_
      refine hQ _ _ _ ?_
      dsimp only [enc]
      exact ⟨_, by exact sub_lk rfl rfl, g, by simp [rowV], rfl⟩
    | num n =>
      dsimp only [TK.kind, TK.val, enc]
      refine ite_f (by decide) ?_
      with_reducible refine ex_cons ?_
      with_reducible refine ex_if ?_
      refine et_cmp_r rfl ?_ rfl
      refine ev_sv rfl ?_
      with_reducible refine o_eq_ss ?_
      with_reducible refine bool_ex ?_
      refine ite_f (by decide) ?_
      with_reducible refine ex_cons ?_
      with_reducible refine ex_if ?_
      refine et_cmp_r rfl ?_ rfl
      refine ev_sv rfl ?_
      with_reducible refine o_eq_ss ?_
      with_reducible refine bool_ex ?_
      refine ite_t (by decide) ?_
      with_reducible refine ex_cons ?_
      refine ex_expr ?_ rfl rfl
      with_reducible refine' ev_mlist F.slot_list_extend F.type_list_extend ?x13 ?x14 ?x15 ?_
      case x13 => rfl
      case x14 => rfl
      case x15 => rfl
      refine ev_sv rfl ?_
      with_reducible refine' isl_lst ?x16 ?_
      case x16 => (simp; done)
      with_reducible refine' args_cons' ?_ ?x17
      case x17 => rfl
      dsimp only
      refine ev_lfro ?_
      with_reducible refine' args_cons' ?_ ?x18
      case x18 => rfl
      refine ev_sv rfl ?_
      with_reducible refine' args_cons' ?_ ?x19
      case x19 => rfl
      refine ev_binop_r rfl ?_
      refine ev_sv rfl ?_
      refine o_mod_nn (b := 256) (by (first | lia | omega)) ?_
      with_reducible refine' args_cons' ?_ ?x20
      case x20 => rfl
      refine ev_binop_r rfl ?_
      refine ev_sv rfl ?_
      refine o_fdiv_ii (by decide) (PyProof.noPylong_small (by decide)) ?_
      rw [fdiv256']
      refine args_sv rfl ?_
      refine ⟨by exact nb rfl, ?_⟩
      refine args_sv rfl ?_
      refine m_extend_L get_mid Lx.fro (by simp; (first | lia | omega)) ?_
      rw [set_mid]
      with_reducible refine And.intro rfl ?_
      with_reducible refine ex_nil ?_
      with_reducible refine ex_nil ?_
      with_reducible refine ex_nil ?_
      with_reducible refine ex_nil ?_
      refine hQ _ _ _ ?_
      dsimp only [enc]
      exact ⟨_, by exact sub_lk rfl rfl, g, by simp [rowV], rfl⟩
    | name x =>
      dsimp only [TK.kind, TK.val, enc]
      have hx5 : x.length ≤ 255 := hg.1
      refine ite_f (by decide) ?_
      with_reducible refine ex_cons ?_
      with_reducible refine ex_if ?_
      refine et_cmp_r rfl ?_ rfl
      refine ev_sv rfl ?_
      with_reducible refine o_eq_ss ?_
      with_reducible refine bool_ex ?_
      refine ite_f (by decide) ?_
      with_reducible refine ex_cons ?_
      with_reducible refine ex_if ?_
      refine et_cmp_r rfl ?_ rfl
      refine ev_sv rfl ?_
      with_reducible refine o_eq_ss ?_
      with_reducible refine bool_ex ?_
      refine ite_f (by decide) ?_
      with_reducible refine ex_cons ?_
      refine ex_expr ?_ rfl rfl
      with_reducible refine' ev_mlist F.slot_list_extend F.type_list_extend ?x21 ?x22 ?x23 ?_
      case x21 => rfl
      case x22 => rfl
      case x23 => rfl
      refine ev_sv rfl ?_
      with_reducible refine' isl_lst ?x24 ?_
      case x24 => (simp; done)
      with_reducible refine' args_cons' ?_ ?x25
      case x25 => rfl
      with_reducible refine ev_binop ?_
      dsimp only
      refine ev_lfro ?_
      with_reducible refine' args_cons' ?_ ?x26
      case x26 => rfl
      refine ev_binop_r rfl ?_
      with_reducible refine' ev_mlist F.slot_list_index F.type_list_index ?x27 ?x28 ?x29 ?_
      case x27 => rfl
      case x28 => rfl
      case x29 => rfl
      refine ev_lfro ?_
      refine args_sv rfl ?_
      refine ⟨by exact nb rfl, ?_⟩
      with_reducible refine isl_fro ?_
      refine args_sv rfl ?_
      refine m_index_L (xs := KND) 0 Lx.fro (strsOf_map KND) rfl (by decide) (nb rfl) ?_
      with_reducible refine o_add_n2 ?_
      with_reducible refine' args_cons' ?_ ?x30
      case x30 => rfl
      refine ev_call_builtin (by rw [hK']; k_is) (by boot_fast) (by decide) rfl (by decide) rfl rfl ?_
      refine args_sv rfl ?_
      refine b_len_str' (Nat.le_trans (Nat.le_of_lt (by assumption)) (nb rfl)) ?_
      refine args_sv rfl ?_
      refine ⟨by exact nb rfl, ?_⟩
      refine ev_map (mapS fun y => .int (nth y 0 : Nat)) (by decide) (by decide) rfl (by decide) rfl (evi_str ?_) (fun _ => rfl)
      refine ev_sv rfl ?_
      with_reducible refine Exists.intro _ (And.intro rfl ?_)
      dsimp only
      refine ⟨by have := hg.1; simp; (first | lia | omega), fun _ => trivial, fun k v μ' Cc hv => ?_, ?_⟩
      · obtain ⟨c, hc, rfl⟩ : ∃ c, x[k]? = some c ∧ V.str [c] = v := by simpa using hv
        refine ev_call_builtin (by rw [hK']; k_is) (by boot_fast) (by decide) rfl (by decide) rfl rfl ?_
        refine args_sv rfl ?_
        with_reducible refine b_ord ?_
        with_reducible refine And.intro rfl ?_
        dsimp only
      · skip
        refine o_add_L Lx.fro (Lx.lst (by simp; rfl)) (by have := hg.1; simp; (first | lia | omega)) ?_
        refine args_sv rfl ?_
        rw [show ∀ z, μ ++ rowV o :: g ++ [z] = μ ++ (rowV o :: (g ++ [z])) from fun z => by simp]
        refine m_extend_L get_mid Lx.fro (by have := hg.1; simp; (first | lia | omega)) ?_
        rw [set_mid]
        with_reducible refine And.intro rfl ?_
        with_reducible refine ex_nil ?_
        with_reducible refine ex_nil ?_
        with_reducible refine ex_nil ?_
        with_reducible refine ex_nil ?_
        refine hQ _ _ _ ?_
        dsimp only [enc]
        exact ⟨_, by exact sub_lk rfl rfl, _, by simp [rowV, mapS, nth, Function.comp_def]; rfl, rfl⟩
    | text x =>
      dsimp only [TK.kind, TK.val, enc]
      have hx5 : x.length ≤ 255 := hg.1
      refine ite_f (by decide) ?_
      with_reducible refine ex_cons ?_
      with_reducible refine ex_if ?_
      refine et_cmp_r rfl ?_ rfl
      refine ev_sv rfl ?_
      with_reducible refine o_eq_ss ?_
      with_reducible refine bool_ex ?_
      refine ite_f (by decide) ?_
      with_reducible refine ex_cons ?_
      with_reducible refine ex_if ?_
      refine et_cmp_r rfl ?_ rfl
      refine ev_sv rfl ?_
      with_reducible refine o_eq_ss ?_
      with_reducible refine bool_ex ?_
      refine ite_f (by decide) ?_
      with_reducible refine ex_cons ?_
      refine ex_expr ?_ rfl rfl
      with_reducible refine' ev_mlist F.slot_list_extend F.type_list_extend ?x31 ?x32 ?x33 ?_
      case x31 => rfl
      case x32 => rfl
      case x33 => rfl
      refine ev_sv rfl ?_
      with_reducible refine' isl_lst ?x34 ?_
      case x34 => (simp; done)
      with_reducible refine' args_cons' ?_ ?x35
      case x35 => rfl
      with_reducible refine ev_binop ?_
      dsimp only
      refine ev_lfro ?_
      with_reducible refine' args_cons' ?_ ?x36
      case x36 => rfl
      refine ev_binop_r rfl ?_
      with_reducible refine' ev_mlist F.slot_list_index F.type_list_index ?x37 ?x38 ?x39 ?_
      case x37 => rfl
      case x38 => rfl
      case x39 => rfl
      refine ev_lfro ?_
      refine args_sv rfl ?_
      refine ⟨by exact nb rfl, ?_⟩
      with_reducible refine isl_fro ?_
      refine args_sv rfl ?_
      refine m_index_L (xs := KND) 1 Lx.fro (strsOf_map KND) rfl (by decide) (nb rfl) ?_
      with_reducible refine o_add_n2 ?_
      with_reducible refine' args_cons' ?_ ?x40
      case x40 => rfl
      refine ev_call_builtin (by rw [hK']; k_is) (by boot_fast) (by decide) rfl (by decide) rfl rfl ?_
      refine args_sv rfl ?_
      refine b_len_str' (Nat.le_trans (Nat.le_of_lt (by assumption)) (nb rfl)) ?_
      refine args_sv rfl ?_
      refine ⟨by exact nb rfl, ?_⟩
      refine ev_map (mapS fun y => .int (nth y 0 : Nat)) (by decide) (by decide) rfl (by decide) rfl (evi_str ?_) (fun _ => rfl)
      refine ev_sv rfl ?_
      with_reducible refine Exists.intro _ (And.intro rfl ?_)
      dsimp only
      refine ⟨by have := hg.1; simp; (first | lia | omega), fun _ => trivial, fun k v μ' Cc hv => ?_, ?_⟩
      · obtain ⟨c, hc, rfl⟩ : ∃ c, x[k]? = some c ∧ V.str [c] = v := by simpa using hv
        refine ev_call_builtin (by rw [hK']; k_is) (by boot_fast) (by decide) rfl (by decide) rfl rfl ?_
        refine args_sv rfl ?_
        with_reducible refine b_ord ?_
        with_reducible refine And.intro rfl ?_
        dsimp only
      · skip
        refine o_add_L Lx.fro (Lx.lst (by simp; rfl)) (by have := hg.1; simp; (first | lia | omega)) ?_
        refine args_sv rfl ?_
        rw [show ∀ z, μ ++ rowV o :: g ++ [z] = μ ++ (rowV o :: (g ++ [z])) from fun z => by simp]
        refine m_extend_L get_mid Lx.fro (by have := hg.1; simp; (first | lia | omega)) ?_
        rw [set_mid]
        with_reducible refine And.intro rfl ?_
        with_reducible refine ex_nil ?_
        with_reducible refine ex_nil ?_
        with_reducible refine ex_nil ?_
        with_reducible refine ex_nil ?_
        refine hQ _ _ _ ?_
        dsimp only [enc]
        exact ⟨_, by exact sub_lk rfl rfl, _, by simp [rowV, mapS, nth, Function.comp_def]; rfl, rfl⟩
    | raw x =>
      dsimp only [TK.kind, TK.val, enc]
      have hx5 : x.length ≤ 255 := hg.1
      refine ite_f (by decide) ?_
      with_reducible refine ex_cons ?_
      with_reducible refine ex_if ?_
      refine et_cmp_r rfl ?_ rfl
      refine ev_sv rfl ?_
      with_reducible refine o_eq_ss ?_
      with_reducible refine bool_ex ?_
      refine ite_f (by decide) ?_
      with_reducible refine ex_cons ?_
      with_reducible refine ex_if ?_
      refine et_cmp_r rfl ?_ rfl
      refine ev_sv rfl ?_
      with_reducible refine o_eq_ss ?_
      with_reducible refine bool_ex ?_
      refine ite_f (by decide) ?_
      with_reducible refine ex_cons ?_
      refine ex_expr ?_ rfl rfl
      with_reducible refine' ev_mlist F.slot_list_extend F.type_list_extend ?x41 ?x42 ?x43 ?_
      case x41 => rfl
      case x42 => rfl
      case x43 => rfl
      refine ev_sv rfl ?_
      with_reducible refine' isl_lst ?x44 ?_
      case x44 => (simp; done)
      with_reducible refine' args_cons' ?_ ?x45
      case x45 => rfl
      with_reducible refine ev_binop ?_
      dsimp only
      refine ev_lfro ?_
      with_reducible refine' args_cons' ?_ ?x46
      case x46 => rfl
      refine ev_binop_r rfl ?_
      with_reducible refine' ev_mlist F.slot_list_index F.type_list_index ?x47 ?x48 ?x49 ?_
      case x47 => rfl
      case x48 => rfl
      case x49 => rfl
      refine ev_lfro ?_
      refine args_sv rfl ?_
      refine ⟨by exact nb rfl, ?_⟩
      with_reducible refine isl_fro ?_
      refine args_sv rfl ?_
      refine m_index_L (xs := KND) 2 Lx.fro (strsOf_map KND) rfl (by decide) (nb rfl) ?_
      with_reducible refine o_add_n2 ?_
      with_reducible refine' args_cons' ?_ ?x50
      case x50 => rfl
      refine ev_call_builtin (by rw [hK']; k_is) (by boot_fast) (by decide) rfl (by decide) rfl rfl ?_
      refine args_sv rfl ?_
      refine b_len_str' (Nat.le_trans (Nat.le_of_lt (by assumption)) (nb rfl)) ?_
      refine args_sv rfl ?_
      refine ⟨by exact nb rfl, ?_⟩
      refine ev_map (mapS fun y => .int (nth y 0 : Nat)) (by decide) (by decide) rfl (by decide) rfl (evi_str ?_) (fun _ => rfl)
      refine ev_sv rfl ?_
      with_reducible refine Exists.intro _ (And.intro rfl ?_)
      dsimp only
      refine ⟨by have := hg.1; simp; (first | lia | omega), fun _ => trivial, fun k v μ' Cc hv => ?_, ?_⟩
      · obtain ⟨c, hc, rfl⟩ : ∃ c, x[k]? = some c ∧ V.str [c] = v := by simpa using hv
        refine ev_call_builtin (by rw [hK']; k_is) (by boot_fast) (by decide) rfl (by decide) rfl rfl ?_
        refine args_sv rfl ?_
        with_reducible refine b_ord ?_
        with_reducible refine And.intro rfl ?_
        dsimp only
      · skip
        refine o_add_L Lx.fro (Lx.lst (by simp; rfl)) (by have := hg.1; simp; (first | lia | omega)) ?_
        refine args_sv rfl ?_
        rw [show ∀ z, μ ++ rowV o :: g ++ [z] = μ ++ (rowV o :: (g ++ [z])) from fun z => by simp]
        refine m_extend_L get_mid Lx.fro (by have := hg.1; simp; (first | lia | omega)) ?_
        rw [set_mid]
        with_reducible refine And.intro rfl ?_
        with_reducible refine ex_nil ?_
        with_reducible refine ex_nil ?_
        with_reducible refine ex_nil ?_
        with_reducible refine ex_nil ?_
        refine hQ _ _ _ ?_
        dsimp only [enc]
        exact ⟨_, by exact sub_lk rfl rfl, _, by simp [rowV, mapS, nth, Function.comp_def]; rfl, rfl⟩
  · rintro _ _ ⟨g, rfl, rfl⟩
    rw [List.length_map, List.take_length]
    with_reducible refine ex_nil ?_
    with_reducible refine ex_cons ?_
    with_reducible refine ex_ret ?_
    refine ev_sv rfl ?_
    dsimp only
    exact h g
end
theorem fillK12 (w : World) : PySem.Challenge.rw_nz0571_01 = PySem.Challenge.rw_nz0571_01 ∧ KH w.params = KH w.params := by
  k_fill
  exact ⟨rfl, rfl⟩
section
variable {w : World} {C : Ctx} {X : Str → St → Prop} {μ g : St} {Q : V → St → Prop}
theorem c_typed_str (hK : C.K = KH w.params) (hn : 2 ≤ C.n) {b : Bx} (hb : b.ok) {kd x : List Nat} {isD : Bool} (h1 : (kd == cs "number") = false) (h2 : (kd == cs "text") = false) (h3 : (kd == cs "raw") = false) (hx : x.length ≤ 255) (hxc : ∀ c ∈ x, c < 128)
    (h : ∀ g', Q (.str (typedStr x b).1) (bx (typedStr x b).2 ++ (g ++ g'))) :
    Op PR w C RV (fun us => call (.ref 222) us) X Q [.lst 1, .tup [.str kd, .str x], .bool isD] (bx b ++ g) := by
  refine' op_defc ?k1 ?k2 ?k3 ?k4 ?k5 ?k6 ?k7 ?k8 ?k9 ?k10 ?k11 ?k12 ?_
  case k1 => rw [hK]; k_is
  case k2 => rw [hK]; k_is
  case k3 => (first | lia | omega)
  case k4 => intro a b c; rfl
  case k5 => rfl
  case k6 => rfl
  case k7 => rfl
  case k8 => decide
  case k9 => intro n; rfl
  case k10 => rfl
  case k11 => rfl
  case k12 => rfl
  intro L C' hK' hn' hh' hf'
  unfold fB222
  replace hK' := hK'.trans hK
  have e1 : cs ("\"" : Str) = [34] := by decide
  with_reducible refine ex_cons ?_
  refine ex_asg2 ?_ rfl rfl rfl rfl
  refine ev_sv rfl ?_
  with_reducible refine ⟨_, _, rfl, ?_⟩
  with_reducible refine ex_cons ?_
  with_reducible refine ex_if ?_
  refine et_cmp_r rfl ?_ rfl
  refine ev_sv rfl ?_
  with_reducible refine o_eq_ss ?_
  with_reducible refine bool_ex ?_
  dsimp only
  refine ite_f h1 ?_
  with_reducible refine ex_nil ?_
  with_reducible refine ex_cons ?_
  with_reducible refine ex_if ?_
  refine et_cmp_r rfl ?_ rfl
  refine ev_sv rfl ?_
  with_reducible refine o_eq_ss ?_
  with_reducible refine bool_ex ?_
  refine ite_f h2 ?_
  with_reducible refine ex_nil ?_
  with_reducible refine ex_cons ?_
  with_reducible refine ex_if ?_
  refine et_cmp_r rfl ?_ rfl
  refine ev_sv rfl ?_
  with_reducible refine o_eq_ss ?_
  with_reducible refine bool_ex ?_
  refine ite_f h3 ?_
  with_reducible refine ex_nil ?_
  with_reducible refine ex_cons ?_
  with_reducible refine ex_if ?_
  with_reducible refine et_bool ?_
  with_reducible refine et_and_cons ?_
  refine et_cmp_r rfl ?_ rfl
  refine ev_sv rfl ?_
  with_reducible refine o_eq_ss ?_
  with_reducible refine bool_ex ?_
  unfold typedStr at h
  refine ite_b (fun hq => ?_) (fun hq => ?_)
  · have hx1 := eq_of_beq hq
    rw [if_pos hx1] at h
    with_reducible refine et_and_cons ?_
    refine et_cmp_r rfl ?_ rfl
    refine ev_call_def (by rw [hK']; k_is) (by rw [hK']; k_is) rfl (by decide) rfl ?_
    refine args_sv rfl ?_
    refine c_take (m := 3) hK' (nle hn' hn rfl) hb (nb rfl) ?_
    have hb1 := b.take_ok hb 3
    generalize b.take 3 = f at *
    obtain ⟨j, b1⟩ := f
    dsimp only at h hb1 ⊢
    with_reducible refine o_eq_ii ?_
    with_reducible refine bool_ex ?_
    refine ite_b (fun hj => ?_) (fun hj => ?_)
    · have hj0 : j = 0 := by have := eq_of_beq hj; (first | lia | omega)
      rw [if_pos hj0] at h
      with_reducible refine et_and_nil ?_
      with_reducible refine ite_tt ?_
      with_reducible refine ex_cons ?_
      with_reducible refine ex_ret ?_
      refine ev_sv rfl ?_
      dsimp only
      have := h []
      rw [List.append_nil] at this
      exact this
    · have hj0 : j ≠ 0 := fun e => by rw [e] at hj; exact absurd hj (by decide)
      rw [if_neg hj0] at h
      with_reducible refine ite_ff ?_
      with_reducible refine ex_nil ?_
      with_reducible refine ex_cons ?_
      with_reducible refine ex_if ?_
      with_reducible refine et_bool ?_
      with_reducible refine et_and_cons ?_
      refine et_cmp_r rfl ?_ rfl
      refine ev_sv rfl ?_
      with_reducible refine o_eq_ss ?_
      with_reducible refine bool_ex ?_
      refine ite_f (by rw [hx1]; decide) ?_
      with_reducible refine ite_ff ?_
      with_reducible refine ex_nil ?_
      with_reducible refine ex_cons ?_
      with_reducible refine ex_ret ?_
      with_reducible refine' ev_mstr F.slot_str_join F.type_str_join ?x0 ?x1 ?x2 ?_
      case x0 => rfl
      case x1 => rfl
      case x2 => rfl
      refine ev_sv rfl ?_
      with_reducible refine Exists.intro _ (And.intro rfl ?_)
      with_reducible refine' args_cons' ?_ ?x3
      case x3 => rfl
      dsimp only
      refine ev_comp [("box", .lst 1)] rfl (by decide) rfl (by decide) rfl ?_ ?_ (by decide) (evi_str ?_) (fun _ => rfl)
      · intro p m
        obtain rfl := List.mem_singleton.mp m
        exact ⟨by exact (lk_mem rfl), rfl, rfl, rfl, by decide⟩
      · intro c m; exact m
      refine ev_sv rfl ?_
      with_reducible refine Exists.intro _ (And.intro rfl ?_)
      dsimp only
      rw [show (bx b1 ++ g).length = g.length + 2 by simp [bx]]
      refine ⟨by simp; (first | lia | omega), fun k acc μ' => acc = (lowAll (x.take k) b1).1.map V.str ∧ μ' = bx (lowAll (x.take k) b1).2 ++ (g ++ [acc]), ⟨rfl, List.append_assoc ..⟩, ?_, ?_, ?_⟩
      · rintro k acc _ ⟨rfl, rfl⟩
        exact ⟨trivial, bx_get⟩
      · rintro k v acc _ Cc hv ⟨rfl, rfl⟩
        obtain ⟨c, hc, rfl⟩ : ∃ c, x[k]? = some c ∧ V.str [c] = v := by simpa using hv
        have hok := lowAll_ok hb1 (x.take k)
        dsimp only
        rw [lowAll_succ hc]
        generalize lowAll (x.take k) b1 = q at *
        obtain ⟨ws, b3⟩ := q
        unfold lowStep
        dsimp only at hok ⊢
        with_reducible refine ev_ifexp ?_
        refine et_cmp_r rfl ?_ rfl
        refine ev_call_def (by rw [hK']; k_is) (by rw [hK']; k_is) rfl (by decide) rfl ?_
        refine args_sv rfl ?_
        refine c_take (m := 3) hK' (nle hn' hn rfl) hok (nb rfl) ?_
        generalize b3.take 3 = f at *
        obtain ⟨j, b4⟩ := f
        dsimp only
        with_reducible refine o_eq_ii ?_
        with_reducible refine bool_ex ?_
        refine ite_b (fun hj => ?_) (fun hj => ?_)
        · have hj0 : j = 0 := by have := eq_of_beq hj; (first | lia | omega)
          rw [if_pos hj0]
          refine ev_mstr0 F.slot_str_lower F.type_str_lower rfl ?_
          refine ev_sv rfl ?_
          with_reducible refine Exists.intro _ (And.intro rfl ?_)
          refine m_lower (by simp) ?_
          exact ⟨bx_get, by simp [low], by rw [bx_set]; first | done | simp [low]⟩
        · have hj0 : j ≠ 0 := fun e => by rw [e] at hj; exact absurd hj (by decide)
          rw [if_neg hj0]
          refine ev_sv rfl ?_
          exact ⟨bx_get, by simp, by rw [bx_set]; first | done | simp⟩
      · rintro _ _ ⟨rfl, rfl⟩
        rw [List.length_map, List.take_length]
        refine args_sv rfl ?_
        refine m_join_L (xs := (lowAll x b1).1) (.lst bx_get) (strsOf_map _) (by rw [lowAll_sum hxc, lowAll_len]; (first | lia | omega)) (by decide) ?_
        exact h _
  · rw [if_neg (beq_f hq)] at h
    with_reducible refine ite_ff ?_
    with_reducible refine ex_nil ?_
    with_reducible refine ex_cons ?_
    with_reducible refine ex_if ?_
    with_reducible refine et_bool ?_
    with_reducible refine et_and_cons ?_
    refine et_cmp_r rfl ?_ rfl
    refine ev_sv rfl ?_
    with_reducible refine o_eq_ss ?_
    with_reducible refine bool_ex ?_
    refine ite_b (fun hq2 => ?_) (fun hq2 => ?_)
    · have hx1 := eq_of_beq hq2
      rw [if_pos hx1] at h
      with_reducible refine et_and_cons ?_
      refine et_cmp_r rfl ?_ rfl
      refine ev_call_def (by rw [hK']; k_is) (by rw [hK']; k_is) rfl (by decide) rfl ?_
      refine args_sv rfl ?_
      refine c_take (m := 2) hK' (nle hn' hn rfl) hb (nb rfl) ?_
      have hb1 := b.take_ok hb 2
      generalize b.take 2 = f at *
      obtain ⟨j, b1⟩ := f
      dsimp only at h hb1 ⊢
      with_reducible refine o_eq_ii ?_
      with_reducible refine bool_ex ?_
      refine ite_b (fun hj => ?_) (fun hj => ?_)
      · have hj0 : j = 0 := by have := eq_of_beq hj; (first | lia | omega)
        rw [if_pos hj0] at h
        with_reducible refine et_and_nil ?_
        with_reducible refine ite_tt ?_
        with_reducible refine ex_cons ?_
        with_reducible refine ex_ret ?_
        refine ev_sv rfl ?_
        dsimp only
        have := h []
        rw [List.append_nil] at this
        exact this
      · have hj0 : j ≠ 0 := fun e => by rw [e] at hj; exact absurd hj (by decide)
        rw [if_neg hj0] at h
        with_reducible refine ite_ff ?_
        with_reducible refine ex_nil ?_
        with_reducible refine ex_cons ?_
        with_reducible refine ex_ret ?_
        with_reducible refine' ev_mstr F.slot_str_join F.type_str_join ?x4 ?x5 ?x6 ?_
        case x4 => rfl
        case x5 => rfl
        case x6 => rfl
        refine ev_sv rfl ?_
        with_reducible refine Exists.intro _ (And.intro rfl ?_)
        with_reducible refine' args_cons' ?_ ?x7
        case x7 => rfl
        dsimp only
        refine ev_comp [("box", .lst 1)] rfl (by decide) rfl (by decide) rfl ?_ ?_ (by decide) (evi_str ?_) (fun _ => rfl)
        · intro p m
          obtain rfl := List.mem_singleton.mp m
          exact ⟨by exact (lk_mem rfl), rfl, rfl, rfl, by decide⟩
        · intro c m; exact m
        refine ev_sv rfl ?_
        with_reducible refine Exists.intro _ (And.intro rfl ?_)
        dsimp only
        rw [show (bx b1 ++ g).length = g.length + 2 by simp [bx]]
        refine ⟨by simp; (first | lia | omega), fun k acc μ' => acc = (lowAll (x.take k) b1).1.map V.str ∧ μ' = bx (lowAll (x.take k) b1).2 ++ (g ++ [acc]), ⟨rfl, List.append_assoc ..⟩, ?_, ?_, ?_⟩
        · rintro k acc _ ⟨rfl, rfl⟩
          exact ⟨trivial, bx_get⟩
        · rintro k v acc _ Cc hv ⟨rfl, rfl⟩
          obtain ⟨c, hc, rfl⟩ : ∃ c, x[k]? = some c ∧ V.str [c] = v := by simpa using hv
          have hok := lowAll_ok hb1 (x.take k)
          dsimp only
          rw [lowAll_succ hc]
          generalize lowAll (x.take k) b1 = q at *
          obtain ⟨ws, b3⟩ := q
          unfold lowStep
          dsimp only at hok ⊢
          with_reducible refine ev_ifexp ?_
          refine et_cmp_r rfl ?_ rfl
          refine ev_call_def (by rw [hK']; k_is) (by rw [hK']; k_is) rfl (by decide) rfl ?_
          refine args_sv rfl ?_
          refine c_take (m := 3) hK' (nle hn' hn rfl) hok (nb rfl) ?_
          generalize b3.take 3 = f at *
          obtain ⟨j, b4⟩ := f
          dsimp only
          with_reducible refine o_eq_ii ?_
          with_reducible refine bool_ex ?_
          refine ite_b (fun hj => ?_) (fun hj => ?_)
          · have hj0 : j = 0 := by have := eq_of_beq hj; (first | lia | omega)
            rw [if_pos hj0]
            refine ev_mstr0 F.slot_str_lower F.type_str_lower rfl ?_
            refine ev_sv rfl ?_
            with_reducible refine Exists.intro _ (And.intro rfl ?_)
            refine m_lower (by simp) ?_
            exact ⟨bx_get, by simp [low], by rw [bx_set]; first | done | simp [low]⟩
          · have hj0 : j ≠ 0 := fun e => by rw [e] at hj; exact absurd hj (by decide)
            rw [if_neg hj0]
            refine ev_sv rfl ?_
            exact ⟨bx_get, by simp, by rw [bx_set]; first | done | simp⟩
        · rintro _ _ ⟨rfl, rfl⟩
          rw [List.length_map, List.take_length]
          refine args_sv rfl ?_
          refine m_join_L (xs := (lowAll x b1).1) (.lst bx_get) (strsOf_map _) (by rw [lowAll_sum hxc, lowAll_len]; (first | lia | omega)) (by decide) ?_
          exact h _
    · rw [if_neg (beq_f hq2)] at h
      with_reducible refine ite_ff ?_
      with_reducible refine ex_nil ?_
      with_reducible refine ex_cons ?_
      with_reducible refine ex_ret ?_
      with_reducible refine' ev_mstr F.slot_str_join F.type_str_join ?x8 ?x9 ?x10 ?_
      case x8 => rfl
      case x9 => rfl
      case x10 => rfl
      refine ev_sv rfl ?_
      with_reducible refine Exists.intro _ (And.intro rfl ?_)
      with_reducible refine' args_cons' ?_ ?x11
      case x11 => rfl
      dsimp only
      refine ev_comp [("box", .lst 1)] rfl (by decide) rfl (by decide) rfl ?_ ?_ (by decide) (evi_str ?_) (fun _ => rfl)
      · intro p m
        obtain rfl := List.mem_singleton.mp m
        exact ⟨by exact (lk_mem rfl), rfl, rfl, rfl, by decide⟩
      · intro c m; exact m
      refine ev_sv rfl ?_
      with_reducible refine Exists.intro _ (And.intro rfl ?_)
      dsimp only
      rw [show (bx b ++ g).length = g.length + 2 by simp [bx]]
      refine ⟨by simp; (first | lia | omega), fun k acc μ' => acc = (lowAll (x.take k) b).1.map V.str ∧ μ' = bx (lowAll (x.take k) b).2 ++ (g ++ [acc]), ⟨rfl, List.append_assoc ..⟩, ?_, ?_, ?_⟩
      · rintro k acc _ ⟨rfl, rfl⟩
        exact ⟨trivial, bx_get⟩
      · rintro k v acc _ Cc hv ⟨rfl, rfl⟩
        obtain ⟨c, hc, rfl⟩ : ∃ c, x[k]? = some c ∧ V.str [c] = v := by simpa using hv
        have hok := lowAll_ok hb (x.take k)
        dsimp only
        rw [lowAll_succ hc]
        generalize lowAll (x.take k) b = q at *
        obtain ⟨ws, b3⟩ := q
        unfold lowStep
        dsimp only at hok ⊢
        with_reducible refine ev_ifexp ?_
        refine et_cmp_r rfl ?_ rfl
        refine ev_call_def (by rw [hK']; k_is) (by rw [hK']; k_is) rfl (by decide) rfl ?_
        refine args_sv rfl ?_
        refine c_take (m := 3) hK' (nle hn' hn rfl) hok (nb rfl) ?_
        generalize b3.take 3 = f at *
        obtain ⟨j, b4⟩ := f
        dsimp only
        with_reducible refine o_eq_ii ?_
        with_reducible refine bool_ex ?_
        refine ite_b (fun hj => ?_) (fun hj => ?_)
        · have hj0 : j = 0 := by have := eq_of_beq hj; (first | lia | omega)
          rw [if_pos hj0]
          refine ev_mstr0 F.slot_str_lower F.type_str_lower rfl ?_
          refine ev_sv rfl ?_
          with_reducible refine Exists.intro _ (And.intro rfl ?_)
          refine m_lower (by simp) ?_
          exact ⟨bx_get, by simp [low], by rw [bx_set]; first | done | simp [low]⟩
        · have hj0 : j ≠ 0 := fun e => by rw [e] at hj; exact absurd hj (by decide)
          rw [if_neg hj0]
          refine ev_sv rfl ?_
          exact ⟨bx_get, by simp, by rw [bx_set]; first | done | simp⟩
      · rintro _ _ ⟨rfl, rfl⟩
        rw [List.length_map, List.take_length]
        refine args_sv rfl ?_
        refine m_join_L (xs := (lowAll x b).1) (.lst bx_get) (strsOf_map _) (by rw [lowAll_sum hxc, lowAll_len]; (first | lia | omega)) (by decide) ?_
        exact h _
end
theorem fillK13 (w : World) : PySem.Challenge.rw_nz0571_01 = PySem.Challenge.rw_nz0571_01 ∧ KH w.params = KH w.params := by
  k_fill
  exact ⟨rfl, rfl⟩
section
variable {w : World} {C : Ctx} {X : Str → St → Prop} {μ g : St} {Q : V → St → Prop}
theorem c_typed_num (hK : C.K = KH w.params) (hn : 2 ≤ C.n) {b : Bx} (hb : b.ok) {n : Nat} (ht : n < 65536) {isD : Bool} (h : ∀ g', Q (.str (typed b (TK.num n) isD).1) (bx (typed b (TK.num n) isD).2 ++ (g ++ g'))) :
    Op PR w C RV (fun us => call (.ref 222) us) X Q [.lst 1, (TK.num n).v, .bool isD] (bx b ++ g) := by
  refine' op_defc ?k1 ?k2 ?k3 ?k4 ?k5 ?k6 ?k7 ?k8 ?k9 ?k10 ?k11 ?k12 ?_
  case k1 => rw [hK]; k_is
  case k2 => rw [hK]; k_is
  case k3 => (first | lia | omega)
  case k4 => intro a b c; rfl
  case k5 => rfl
  case k6 => rfl
  case k7 => rfl
  case k8 => decide
  case k9 => intro n; rfl
  case k10 => rfl
  case k11 => rfl
  case k12 => rfl
  intro L C' hK' hn' hh' hf'
  unfold fB222
  replace hK' := hK'.trans hK
  have e1 : cs ("\"" : Str) = [34] := by decide
  rw [kv_fl]
  with_reducible refine ex_cons ?_
  refine ex_asg2 ?_ rfl rfl rfl rfl
  refine ev_sv rfl ?_
  with_reducible refine ⟨_, _, rfl, ?_⟩
  with_reducible refine ex_cons ?_
  with_reducible refine ex_if ?_
  refine et_cmp_r rfl ?_ rfl
  refine ev_sv rfl ?_
  with_reducible refine o_eq_ss ?_
  with_reducible refine bool_ex ?_
  dsimp only
  dsimp only [TK.kind, TK.val]
  simp only [typed] at h
  have hdl := dec_len ht
  refine ite_t (by decide) ?_
  with_reducible refine ex_cons ?_
  with_reducible refine ex_ret ?_
  with_reducible refine ev_binop ?_
  with_reducible refine ev_sub ?_
  dsimp only
  refine ev_lfro ?_
  refine args_sv rfl ?_
  refine ⟨by exact nb rfl, ?_⟩
  refine ev_call_def (by rw [hK']; k_is) (by rw [hK']; k_is) rfl (by decide) rfl ?_
  refine args_sv rfl ?_
  refine c_take (m := 2) hK' (nle hn' hn rfl) hb (nb rfl) ?_
  have hl := b.take_lt (m := 2) (nb rfl)
  refine o_item_L (l := [[], cs "0"].map V.str) Lx.fro (Nat.lt_of_lt_of_le (by assumption) (nb rfl)) (str_get hl) ?_ (fun _ _ => rfl)
  have hl9 : ([[], cs "0"].getD (b.take 2).1 []).length ≤ 1 := (by decide : ∀ k, k < 2 → ([[], cs "0"].getD k []).length ≤ 1) _ hl
  generalize [[], cs "0"].getD (b.take 2).1 [] = z at *
  generalize b.take 2 = f at *
  clear hl
  refine ev_call_type (by rw [hK']; k_is) (by boot_fast) (by decide) rfl (by decide) rfl rfl ?_
  refine args_sv rfl ?_
  refine b_str_int (by (first | lia | omega)) (by (first | lia | omega)) ?_
  rw [show cs (toString (n : Int) : String) = dec n from rfl]
  refine o_add_ss (by simp only [List.length_append, List.length_cons, List.length_nil, List.length_take, List.length_drop, List.length_reverse, sizeLine]; (first | lia | omega)) ?_
  have := h []
  rw [List.append_nil] at this
  exact this
theorem c_typed_text (hK : C.K = KH w.params) (hn : 2 ≤ C.n) {b : Bx} (hb : b.ok) {x : List Nat} (hx : x.length ≤ 255) {isD : Bool} (h : ∀ g', Q (.str (typed b (TK.text x) isD).1) (bx (typed b (TK.text x) isD).2 ++ (g ++ g'))) :
    Op PR w C RV (fun us => call (.ref 222) us) X Q [.lst 1, (TK.text x).v, .bool isD] (bx b ++ g) := by
  refine' op_defc ?k1 ?k2 ?k3 ?k4 ?k5 ?k6 ?k7 ?k8 ?k9 ?k10 ?k11 ?k12 ?_
  case k1 => rw [hK]; k_is
  case k2 => rw [hK]; k_is
  case k3 => (first | lia | omega)
  case k4 => intro a b c; rfl
  case k5 => rfl
  case k6 => rfl
  case k7 => rfl
  case k8 => decide
  case k9 => intro n; rfl
  case k10 => rfl
  case k11 => rfl
  case k12 => rfl
  intro L C' hK' hn' hh' hf'
  unfold fB222
  replace hK' := hK'.trans hK
  have e1 : cs ("\"" : Str) = [34] := by decide
  rw [kv_fl]
  with_reducible refine ex_cons ?_
  refine ex_asg2 ?_ rfl rfl rfl rfl
  refine ev_sv rfl ?_
  with_reducible refine ⟨_, _, rfl, ?_⟩
  with_reducible refine ex_cons ?_
  with_reducible refine ex_if ?_
  refine et_cmp_r rfl ?_ rfl
  refine ev_sv rfl ?_
  with_reducible refine o_eq_ss ?_
  with_reducible refine bool_ex ?_
  dsimp only
  dsimp only [TK.kind, TK.val]
  simp only [typed] at h
  refine ite_f (by decide) ?_
  with_reducible refine ex_nil ?_
  with_reducible refine ex_cons ?_
  with_reducible refine ex_if ?_
  refine et_cmp_r rfl ?_ rfl
  refine ev_sv rfl ?_
  with_reducible refine o_eq_ss ?_
  with_reducible refine bool_ex ?_
  refine ite_t (by decide) ?_
  with_reducible refine ex_cons ?_
  with_reducible refine ex_ret ?_
  refine ev_binop_r rfl ?_
  refine ev_binop_r rfl ?_
  refine ev_sv rfl ?_
  dsimp only
  try rw [e1]
  refine o_add_ss (by simp only [List.length_append, List.length_cons, List.length_nil, List.length_take, List.length_drop, List.length_reverse, sizeLine]; (first | lia | omega)) ?_
  refine o_add_ss (by simp only [List.length_append, List.length_cons, List.length_nil, List.length_take, List.length_drop, List.length_reverse, sizeLine]; (first | lia | omega)) ?_
  try rw [e1]
  have := h []
  rw [List.append_nil] at this
  exact this
theorem c_typed_raw (hK : C.K = KH w.params) (hn : 2 ≤ C.n) {b : Bx} (hb : b.ok) {x : List Nat} (hx : x.length ≤ 255) {isD : Bool} (h : ∀ g', Q (.str (typed b (TK.raw x) isD).1) (bx (typed b (TK.raw x) isD).2 ++ (g ++ g'))) :
    Op PR w C RV (fun us => call (.ref 222) us) X Q [.lst 1, (TK.raw x).v, .bool isD] (bx b ++ g) := by
  refine' op_defc ?k1 ?k2 ?k3 ?k4 ?k5 ?k6 ?k7 ?k8 ?k9 ?k10 ?k11 ?k12 ?_
  case k1 => rw [hK]; k_is
  case k2 => rw [hK]; k_is
  case k3 => (first | lia | omega)
  case k4 => intro a b c; rfl
  case k5 => rfl
  case k6 => rfl
  case k7 => rfl
  case k8 => decide
  case k9 => intro n; rfl
  case k10 => rfl
  case k11 => rfl
  case k12 => rfl
  intro L C' hK' hn' hh' hf'
  unfold fB222
  replace hK' := hK'.trans hK
  have e1 : cs ("\"" : Str) = [34] := by decide
  rw [kv_fl]
  with_reducible refine ex_cons ?_
  refine ex_asg2 ?_ rfl rfl rfl rfl
  refine ev_sv rfl ?_
  with_reducible refine ⟨_, _, rfl, ?_⟩
  with_reducible refine ex_cons ?_
  with_reducible refine ex_if ?_
  refine et_cmp_r rfl ?_ rfl
  refine ev_sv rfl ?_
  with_reducible refine o_eq_ss ?_
  with_reducible refine bool_ex ?_
  dsimp only
  dsimp only [TK.kind, TK.val]
  simp only [typed] at h
  refine ite_f (by decide) ?_
  with_reducible refine ex_nil ?_
  with_reducible refine ex_cons ?_
  with_reducible refine ex_if ?_
  refine et_cmp_r rfl ?_ rfl
  refine ev_sv rfl ?_
  with_reducible refine o_eq_ss ?_
  with_reducible refine bool_ex ?_
  refine ite_f (by decide) ?_
  with_reducible refine ex_nil ?_
  with_reducible refine ex_cons ?_
  with_reducible refine ex_if ?_
  refine et_cmp_r rfl ?_ rfl
  refine ev_sv rfl ?_
  with_reducible refine o_eq_ss ?_
  with_reducible refine bool_ex ?_
  refine ite_t (by decide) ?_
  with_reducible refine ex_cons ?_
  with_reducible refine' ex_assign ?_ ?k1 ?k2
  case k1 => rfl
  case k2 => rfl
  with_reducible refine Ev.is (.bool (isPl x)) ?_ ?_
  · with_reducible refine ev_and3 ?_
    refine ev_cmp ?_ rfl
    refine ev_sv rfl ?_
    refine ev_mstr0 F.slot_str_strip F.type_str_strip rfl ?_
    refine ev_sv rfl ?_
    with_reducible refine Exists.intro _ (And.intro rfl ?_)
    refine m_strip (Nat.le_trans (by assumption) (nb rfl)) ?_
    unfold isPl
    generalize cs (Txt.strip ⟨x.toArray⟩) = z
    with_reducible refine o_eq_ss ?_
    with_reducible refine bool_ex ?_
    refine ite_b (fun hz => ?_) (fun hz => ?_)
    · rw [hz, Bool.true_and]
      with_reducible refine ev_and2 ?_
      refine ev_cmp_r rfl ?_ rfl
      refine ev_sv rfl ?_
      rw [show cs ("," : Str) = [44] by decide]
      refine o_notin_ss ?_
      with_reducible refine bool_ex ?_
      refine ite_b (fun hc => ?_) (fun hc => ?_)
      · rw [hc, Bool.true_and]
        refine ev_cmp_r rfl ?_ rfl
        refine ev_sv rfl ?_
        rw [show cs (":" : Str) = [58] by decide]
        refine o_notin_ss ?_
        exact ⟨rfl, rfl⟩
      · rw [hc, Bool.false_and]
        exact ⟨rfl, rfl⟩
    · rw [hz, Bool.false_and]
      exact ⟨rfl, rfl⟩
  · with_reducible refine ex_cons ?_
    with_reducible refine ex_ret ?_
    with_reducible refine ev_ifexp ?_
    with_reducible refine et_bool ?_
    with_reducible refine et_or_cons ?_
    with_reducible refine et_not ?_
    refine et_value ?_ rfl
    refine ev_sv rfl ?_
    with_reducible refine bool_ex ?_
    dsimp only
    cases isD with
    | false =>
      rw [if_pos rfl] at h
      refine ite_t rfl ?_
      with_reducible refine ite_tt ?_
      refine ev_sv rfl ?_
      have := h []
      rw [List.append_nil] at this
      exact this
    | true =>
      rw [if_neg (by decide)] at h
      refine ite_f rfl ?_
      with_reducible refine et_or_cons ?_
      with_reducible refine et_bool ?_
      with_reducible refine et_and_cons ?_
      refine et_value ?_ rfl
      refine ev_sv rfl ?_
      with_reducible refine bool_ex ?_
      refine ite_b (fun hp => ?_) (fun hp => ?_)
      · rw [if_pos hp] at h
        with_reducible refine et_and_cons ?_
        refine et_cmp_r rfl ?_ rfl
        refine ev_call_def (by rw [hK']; k_is) (by rw [hK']; k_is) rfl (by decide) rfl ?_
        refine args_sv rfl ?_
        refine c_take (m := 2) hK' (nle hn' hn rfl) hb (nb rfl) ?_
        generalize b.take 2 = f at *
        obtain ⟨j, b1⟩ := f
        dsimp only at h ⊢
        with_reducible refine o_eq_ii ?_
        with_reducible refine bool_ex ?_
        refine ite_b (fun hj => ?_) (fun hj => ?_)
        · have hj0 : j = 0 := by have := eq_of_beq hj; (first | lia | omega)
          rw [if_pos hj0] at h
          with_reducible refine et_and_nil ?_
          with_reducible refine ite_tt ?_
          with_reducible refine ite_tt ?_
          refine ev_sv rfl ?_
          have := h []
          rw [List.append_nil] at this
          exact this
        · have hj0 : j ≠ 0 := fun e => by rw [e] at hj; exact absurd hj (by decide)
          rw [if_neg hj0] at h
          with_reducible refine ite_ff ?_
          with_reducible refine et_or_nil ?_
          with_reducible refine ite_ff ?_
          refine ev_binop_r rfl ?_
          refine ev_binop_r rfl ?_
          refine ev_sv rfl ?_
          try rw [e1]
          refine o_add_ss (by simp only [List.length_append, List.length_cons, List.length_nil, List.length_take, List.length_drop, List.length_reverse, sizeLine]; (first | lia | omega)) ?_
          refine o_add_ss (by simp only [List.length_append, List.length_cons, List.length_nil, List.length_take, List.length_drop, List.length_reverse, sizeLine]; (first | lia | omega)) ?_
          try rw [e1]
          have := h []
          rw [List.append_nil] at this
          exact this
      · rw [if_neg (by rw [hp]; decide)] at h
        with_reducible refine ite_ff ?_
        with_reducible refine et_or_nil ?_
        with_reducible refine ite_ff ?_
        refine ev_binop_r rfl ?_
        refine ev_binop_r rfl ?_
        refine ev_sv rfl ?_
        try rw [e1]
        refine o_add_ss (by simp only [List.length_append, List.length_cons, List.length_nil, List.length_take, List.length_drop, List.length_reverse, sizeLine]; (first | lia | omega)) ?_
        refine o_add_ss (by simp only [List.length_append, List.length_cons, List.length_nil, List.length_take, List.length_drop, List.length_reverse, sizeLine]; (first | lia | omega)) ?_
        try rw [e1]
        have := h []
        rw [List.append_nil] at this
        exact this
theorem c_typed (hK : C.K = KH w.params) (hn : 2 ≤ C.n) {b : Bx} (hb : b.ok) {t : TK} {isD : Bool} (ht : t.good) (hc : ∀ c ∈ tokenText t [], c < 128) (h : ∀ g', Q (.str (typed b t isD).1) (bx (typed b t isD).2 ++ (g ++ g'))) :
    Op PR w C RV (fun us => call (.ref 222) us) X Q [.lst 1, t.v, .bool isD] (bx b ++ g) := by
  cases t with
  | num n => exact c_typed_num hK hn hb ht h
  | text x => exact c_typed_text hK hn hb ht.1 h
  | raw x => exact c_typed_raw hK hn hb ht.1 h
  | word x => exact c_typed_str hK hn hb (show (cs "word" == cs "number") = false by decide) (show (cs "word" == cs "text") = false by decide) (show (cs "word" == cs "raw") = false by decide) ((by decide : ∀ x ∈ WRD, x.length ≤ 255) x ht) hc h
  | name x => exact c_typed_str hK hn hb (show (cs "name" == cs "number") = false by decide) (show (cs "name" == cs "text") = false by decide) (show (cs "name" == cs "raw") = false by decide) ht.1 hc h
  | sign x => exact c_typed_str hK hn hb (show (cs "sign" == cs "number") = false by decide) (show (cs "sign" == cs "text") = false by decide) (show (cs "sign" == cs "raw") = false by decide) ((by decide : ∀ x ∈ SGN, x.length ≤ 255) x ht) hc h
end
theorem fillK14 (w : World) : PySem.Challenge.rw_nz0571_01 = PySem.Challenge.rw_nz0571_01 ∧ KH w.params = KH w.params := by
  k_fill
  exact ⟨rfl, rfl⟩
section
variable {w : World} {C : Ctx} {X : Str → St → Prop} {μ g : St} {Q : V → St → Prop}
noncomputable def ahK : Option TK → List Nat
  | none => cs ""
  | some t => t.kind
noncomputable def ahX : Option TK → V
  | none => .str (cs "")
  | some t => t.val
noncomputable def ahV (p : Option TK) : V := .tup [.str (ahK p), ahX p]
theorem sure_eq (p : Option TK) (t : TK) : sure p t = (!((ahK p == cs "sign" || t.kind == cs "sign") && ahK p != t.kind) && (!([V.str (cs ""), .str (cs "text")].any fun d => flq d (.str (ahK p))) && t.kind != cs "text")) := by
  cases p with
  | none =>
    unfold sure ahK
    have : ([V.str (cs ""), .str (cs "text")].any fun d => flq d (.str (cs ""))) = true := by decide
    simp [this]
  | some q =>
    unfold sure ahK
    cases q <;> cases t <;> rfl
theorem done_kind (s : TS) : s.done = s.found ++ (if (ahK s.ahead == cs "raw") = true then [] else [32]) := by
  unfold TS.done
  cases s.ahead with
  | none => rfl
  | some t => cases t <;> rfl
theorem typed_len (b : Bx) (d : Bool) {t : TK} (hg : t.good) (hc : ∀ c ∈ tokenText t [], c < 128) : (typed b t d).1.length ≤ 300 := by
  have ts : ∀ x : List Nat, x.length ≤ 255 → (∀ c ∈ x, c < 128) → (typedStr x b).1.length ≤ 300 := by
    intro x hx hc
    have h2 : ∀ b, (lowAll x b).1.flatten.length = x.length := fun b => by rw [List.length_flatten]; exact lowAll_sum hc b
    unfold typedStr
    repeat' split
    all_goals first
      | (dsimp only; rw [h2]; (first | lia | omega))
      | (show (cs _).length ≤ 300; decide)
  have hw : ∀ x ∈ WRD, x.length ≤ 255 := by decide
  have hs : ∀ x ∈ SGN, x.length ≤ 255 := by decide
  cases t with
  | num n =>
    have := dec_len (show n < 65536 from hg)
    have h2 : ([[], cs "0"].getD (b.take 2).1 []).length ≤ 1 := by
      generalize (b.take 2).1 = k
      match k with
      | 0 => decide
      | 1 => decide
      | n + 2 => show ([] : List Nat).length ≤ 1; decide
    simp only [typed, List.length_append]; (first | lia | omega)
  | word x => exact ts x (hw x hg) hc
  | name x => exact ts x hg.1 hc
  | sign x => exact ts x (hs x hg) hc
  | text x =>
    have := hg.1
    simp only [typed, List.length_cons, List.length_append, List.length_nil]; (first | lia | omega)
  | raw x =>
    have := hg.1
    simp only [typed]
    repeat' split
    all_goals (simp; (first | lia | omega))
theorem typed_ok {b : Bx} (h : b.ok) (t : TK) (d : Bool) : (typed b t d).2.ok := by
  have ts : ∀ x : List Nat, (typedStr x b).2.ok := by
    intro x
    unfold typedStr
    repeat' split
    all_goals first
      | exact Bx.take_ok h _
      | exact lowAll_ok (Bx.take_ok h _) x
      | exact lowAll_ok h x
  cases t with
  | num n => exact Bx.take_ok h 2
  | word x => exact ts x
  | name x => exact ts x
  | sign x => exact ts x
  | text x => exact h
  | raw x =>
    simp only [typed]
    repeat' split
    all_goals first | exact h | exact Bx.take_ok h _
theorem c_text (hK : C.K = KH w.params) (hn : 3 ≤ C.n) {b : Bx} (hb : b.ok) {d : V} {ts : List TK} (hd : Lx (bx b ++ g) d (ts.map TK.v)) (hl : ts.length ≤ 30) (hg : ∀ t ∈ ts, t.good ∧ ∀ c ∈ tokenText t [], c < 128)
    (hdi : ∀ b' g', Lx (bx b' ++ (g ++ g')) d (ts.map TK.v))
    (h : ∀ g', Q (.str (textOfTyped ts b).done) (bx (textOfTyped ts b).b ++ (g ++ g'))) :
    Op PR w C RV (fun us => call (.ref 229) us) X Q [.lst 1, d] (bx b ++ g) := by
  refine' op_defl [("box", .lst 1), ("tokens", d)] ?k1 ?k2 ?k3 ?k4 ?k5 ?k6 ?k7 ?k8 ?k9 ?k10 ?k11 ?_
  case k1 => (rw [(by assumption : Ctx.K _ = KH _)]; k_is)
  case k2 => (rw [(by assumption : Ctx.K _ = KH _)]; k_is)
  case k3 => (first | lia | omega)
  case k5 => intro us h; rcases us with _ | ⟨a, _ | ⟨b, _ | ⟨c, _ | ⟨d, r⟩⟩⟩⟩ <;> first | rfl | (simp at h)
  case k4 => rfl
  case k6 => dsimp only [List.map]; decide
  case k7 => decide
  case k8 => dsimp only [List.map]; decide
  case k9 => rfl
  case k10 => rfl
  case k11 => rfl
  intro L C' hK' hn' hh' hf'
  unfold fB229
  replace hK' := hK'.trans hK
  with_reducible refine ex_cons ?_
  refine ex_asg3s ?_ rfl rfl rfl rfl rfl
  with_reducible refine ev_tuple ?_
  with_reducible refine' args_cons' ?_ ?x0
  case x0 => rfl
  with_reducible refine ev_binop ?_
  refine ev_sv rfl ?_
  refine ev_call_def (by rw [hK']; k_is) (by rw [hK']; k_is) rfl (by decide) rfl ?_
  refine args_sv rfl ?_
  dsimp only
  refine c_take (m := 2) hK' (nle hn' hn rfl) hb (nb rfl) ?_
  have hl2 := b.take_lt (m := 2) (nb rfl)
  have hb1 := b.take_ok hb 2
  unfold textOfTyped at h
  generalize b.take 2 = f at *
  obtain ⟨j, b1⟩ := f
  dsimp only at h hb1 hl2 ⊢
  refine o_mul_si (by decide) (Nat.le_trans (Nat.le_of_lt (by assumption)) (nb rfl)) ?_
  rw [show (List.replicate j (cs (" " : Str))).flatten = List.replicate j 32 by rw [show cs (" " : Str) = [32] by decide, List.flatten_replicate_singleton]]
  with_reducible refine' args_cons' ?_ ?x1
  case x1 => rfl
  refine ev_sv rfl ?_
  with_reducible refine' args_cons' ?_ ?x2
  case x2 => rfl
  with_reducible refine ev_tuple ?_
  refine args_sv rfl ?_
  refine ⟨by exact nb rfl, ?_⟩
  refine args_sv rfl ?_
  refine ⟨by exact nb rfl, ?_⟩
  refine ⟨_, _, _, rfl, ?_⟩
  refine ex_sub (loc' := ([("box", .lst 1), ("tokens", d), ("found", .str (List.replicate j 32)), ("is_data", .bool false), ("ahead", .tup [.str (cs ""), .str (cs "")])] : Loc)) ?_ (by exact sub_lk rfl rfl)
  refine ex_cons ?_
  refine ex_for (evi_list (.inl ⟨_, _, rfl⟩) ?_) hf' rfl (fun _ => rfl)
  refine ev_sv rfl ?_
  dsimp only
  refine ⟨_, Lx.lists (by have := hdi b1 []; rwa [List.append_nil] at this), fun i loc μ' => ∃ s : TS, ∃ g', s = (ts.take i).foldl TS.step ⟨List.replicate j 32, false, none, b1⟩ ∧ μ' = bx s.b ++ (g ++ g') ∧ s.b.ok ∧ s.found.length ≤ 1 + 600 * i ∧ loc = ([("box", .lst 1), ("tokens", d), ("found", .str s.found), ("is_data", .bool s.isData), ("ahead", ahV s.ahead)] : Loc), ⟨_, [], rfl, by rw [List.append_nil]; rfl, hb1, by simp; (first | lia | omega), rfl⟩, ?_, ?_, ?_⟩
  · rintro i _ _ ⟨s, g', _, rfl, _, _, rfl⟩; exact (hdi s.b g').lists
  · rintro i v _ _ hv ⟨s, g', hs, rfl, hok, hfl, rfl⟩
    obtain ⟨t, ht, rfl⟩ : ∃ t, ts[i]? = some t ∧ v = TK.v t := by
      simp only [List.getElem?_map, Option.map_eq_some_iff] at hv
      obtain ⟨c, h1, h2⟩ := hv; exact ⟨c, h1, h2.symm⟩
    refine ⟨_, ast_name rfl, ?_⟩
    have hi : i < ts.length := (List.getElem?_eq_some_iff.mp ht).1
    obtain ⟨hg1, hg2⟩ := hg t (List.mem_of_getElem? ht)
    have hs' : (ts.take (i + 1)).foldl TS.step ⟨List.replicate j 32, false, none, b1⟩ = TS.step s t := by
      rw [List.take_add_one, ht, Option.toList, List.foldl_append, ← hs]; rfl
    dsimp only
    rw [hs']
    clear hs hs'
    obtain ⟨fd, isd, ah, b2⟩ := s
    dsimp only at hok hfl ⊢
    rw [kv_fl]
    unfold ahV
    refine ex_q fun QQ hQ => ?_
    with_reducible refine ex_cons ?_
    with_reducible refine' ex_assign ?_ ?k1 ?k2
    case k1 => rfl
    case k2 => rfl
    with_reducible refine Ev.is (.bool ((ahK ah == cs "sign" || t.kind == cs "sign") && ahK ah != t.kind)) ?_ ?_
    · with_reducible refine ev_and2 ?_
      refine ev_cmp ?_ rfl
      refine ev_sv rfl ?_
      with_reducible refine ev_tuple ?_
      with_reducible refine' args_cons' ?_ ?x3
      case x3 => rfl
      refine ev_sub_r rfl ?_
      refine ev_sv rfl ?_
      refine o_item_tup 0 rfl (nb rfl) rfl ?_ (fun _ _ => rfl)
      with_reducible refine' args_cons' ?_ ?x4
      case x4 => rfl
      refine ev_sub_r rfl ?_
      refine ev_sv rfl ?_
      refine o_item_tup 0 rfl (nb rfl) rfl ?_ (fun _ _ => rfl)
      refine args_sv rfl ?_
      refine ⟨by exact nb rfl, ?_⟩
      refine o_in_st (by simp) ?_
      rw [show ([V.str (ahK ah), .str t.kind].any fun d => flq d (.str (cs "sign"))) = (ahK ah == cs "sign" || t.kind == cs "sign") by simp [flq]]
      with_reducible refine bool_ex ?_
      refine ite_b (fun hq => ?_) (fun hq => ?_)
      · rw [hq, Bool.true_and]
        refine ev_cmp ?_ rfl
        refine ev_sub_r rfl ?_
        refine ev_sv rfl ?_
        refine o_item_tup 0 rfl (nb rfl) rfl ?_ (fun _ _ => rfl)
        refine ev_sub_r rfl ?_
        refine ev_sv rfl ?_
        refine o_item_tup 0 rfl (nb rfl) rfl ?_ (fun _ _ => rfl)
        with_reducible refine o_ne_ss ?_
        with_reducible refine And.intro rfl ?_
        dsimp only
      · rw [hq, Bool.false_and]
        exact ⟨rfl, rfl⟩
    dsimp only
    with_reducible refine ex_cons ?_
    generalize hP : ((ahK ah == cs "sign" || t.kind == cs "sign") && ahK ah != t.kind) = pt
    have hok2 : (if sure ah t = true then b2 else (b2.take 3).2).ok := by
      split
      · exact hok
      · exact b2.take_ok hok 3
    refine ex_cut ([("box", .lst 1), ("tokens", d), ("found", .str (if (if sure ah t = true then true else decide ((b2.take 3).1 = 0)) = true then fd ++ [32] else fd)), ("is_data", .bool isd), ("ahead", .tup [.str (ahK ah), ahX ah]), ("token", .tup [.str t.kind, t.val])] : Loc) (bx (if sure ah t = true then b2 else (b2.take 3).2) ++ (g ++ g')) ?_ ?_
    · have hsu := sure_eq ah t
      rw [hP] at hsu
      generalize sure ah t = su at *
      have hfd : fd.length ≤ 30000 := by (first | lia | omega)
      with_reducible refine ex_if ?_
      with_reducible refine et_bool ?_
      with_reducible refine et_or_cons ?_
      with_reducible refine et_bool ?_
      with_reducible refine et_and_cons ?_
      with_reducible refine et_not ?_
      refine et_value ?_ rfl
      refine ev_sv rfl ?_
      with_reducible refine bool_ex ?_
      refine ite_b (fun h1 => ?_) (fun h1 => ?_)
      · rw [h1, Bool.true_and] at hsu
        with_reducible refine et_and_cons ?_
        refine et_cmp ?_ rfl
        refine ev_sub_r rfl ?_
        refine ev_sv rfl ?_
        refine o_item_tup 0 rfl (nb rfl) rfl ?_ (fun _ _ => rfl)
        with_reducible refine ev_tuple ?_
        refine args_sv rfl ?_
        refine ⟨by exact nb rfl, ?_⟩
        refine o_notin_st (by simp) ?_
        with_reducible refine bool_ex ?_
        refine ite_b (fun h2 => ?_) (fun h2 => ?_)
        · rw [h2, Bool.true_and] at hsu
          with_reducible refine et_and_cons ?_
          refine et_cmp_r rfl ?_ rfl
          refine ev_sub_r rfl ?_
          refine ev_sv rfl ?_
          refine o_item_tup 0 rfl (nb rfl) rfl ?_ (fun _ _ => rfl)
          with_reducible refine o_ne_ss ?_
          with_reducible refine bool_ex ?_
          refine ite_b (fun h3 => ?_) (fun h3 => ?_)
          · have : su = true := hsu.trans h3
            subst this
            with_reducible refine et_and_nil ?_
            with_reducible refine ite_tt ?_
            with_reducible refine ite_tt ?_
            with_reducible refine ex_cons ?_
            refine ex_assign ?_ rfl rfl
            refine ev_binop_r rfl ?_
            refine ev_sv rfl ?_
            dsimp only
            rw [show cs (" " : Str) = [32] by decide]
            refine o_add_ss (by simp only [List.length_append, List.length_cons, List.length_nil, List.length_take, List.length_drop, List.length_reverse, sizeLine]; (first | lia | omega)) ?_
            with_reducible refine ex_nil ?_
            with_reducible refine And.intro rfl ?_
            exact ⟨by simp only [↓reduceIte, Bool.false_eq_true, decide_true, if_true, if_false]; exact sub_lk rfl rfl, rfl⟩
          · have : su = false := hsu.trans h3
            subst this
            with_reducible refine ite_ff ?_
            with_reducible refine et_or_cons ?_
            refine et_cmp_r rfl ?_ rfl
            refine ev_call_def (by rw [hK']; k_is) (by rw [hK']; k_is) rfl (by decide) rfl ?_
            refine args_sv rfl ?_
            refine c_take (m := 3) hK' (nle hn' hn rfl) hok (nb rfl) ?_
            generalize b2.take 3 = f at *
            obtain ⟨j3, b3⟩ := f
            dsimp only
            with_reducible refine o_eq_ii ?_
            with_reducible refine bool_ex ?_
            refine ite_b (fun hj => ?_) (fun hj => ?_)
            · have hj0 : j3 = 0 := by have := eq_of_beq hj; (first | lia | omega)
              subst hj0
              with_reducible refine ite_tt ?_
              with_reducible refine ex_cons ?_
              refine ex_assign ?_ rfl rfl
              refine ev_binop_r rfl ?_
              refine ev_sv rfl ?_
              dsimp only
              rw [show cs (" " : Str) = [32] by decide]
              refine o_add_ss (by simp only [List.length_append, List.length_cons, List.length_nil, List.length_take, List.length_drop, List.length_reverse, sizeLine]; (first | lia | omega)) ?_
              with_reducible refine ex_nil ?_
              with_reducible refine And.intro rfl ?_
              exact ⟨by simp only [↓reduceIte, Bool.false_eq_true, decide_true, if_true, if_false]; exact sub_lk rfl rfl, rfl⟩
            · have hj0 : j3 ≠ 0 := fun e => by rw [e] at hj; exact absurd hj (by decide)
              rw [show decide (j3 = 0) = false from decide_eq_false hj0]
              with_reducible refine et_or_nil ?_
              with_reducible refine ite_ff ?_
              with_reducible refine ex_nil ?_
              with_reducible refine And.intro rfl ?_
              exact ⟨by simp only [↓reduceIte, Bool.false_eq_true, decide_true, if_true, if_false]; exact sub_lk rfl rfl, rfl⟩
        · rw [h2, Bool.false_and] at hsu
          subst hsu
          with_reducible refine ite_ff ?_
          with_reducible refine et_or_cons ?_
          refine et_cmp_r rfl ?_ rfl
          refine ev_call_def (by rw [hK']; k_is) (by rw [hK']; k_is) rfl (by decide) rfl ?_
          refine args_sv rfl ?_
          refine c_take (m := 3) hK' (nle hn' hn rfl) hok (nb rfl) ?_
          generalize b2.take 3 = f at *
          obtain ⟨j3, b3⟩ := f
          dsimp only
          with_reducible refine o_eq_ii ?_
          with_reducible refine bool_ex ?_
          refine ite_b (fun hj => ?_) (fun hj => ?_)
          · have hj0 : j3 = 0 := by have := eq_of_beq hj; (first | lia | omega)
            subst hj0
            with_reducible refine ite_tt ?_
            with_reducible refine ex_cons ?_
            refine ex_assign ?_ rfl rfl
            refine ev_binop_r rfl ?_
            refine ev_sv rfl ?_
            dsimp only
            rw [show cs (" " : Str) = [32] by decide]
            refine o_add_ss (by simp only [List.length_append, List.length_cons, List.length_nil, List.length_take, List.length_drop, List.length_reverse, sizeLine]; (first | lia | omega)) ?_
            with_reducible refine ex_nil ?_
            with_reducible refine And.intro rfl ?_
            exact ⟨by simp only [↓reduceIte, Bool.false_eq_true, decide_true, if_true, if_false]; exact sub_lk rfl rfl, rfl⟩
          · have hj0 : j3 ≠ 0 := fun e => by rw [e] at hj; exact absurd hj (by decide)
            rw [show decide (j3 = 0) = false from decide_eq_false hj0]
            with_reducible refine et_or_nil ?_
            with_reducible refine ite_ff ?_
            with_reducible refine ex_nil ?_
            with_reducible refine And.intro rfl ?_
            exact ⟨by simp only [↓reduceIte, Bool.false_eq_true, decide_true, if_true, if_false]; exact sub_lk rfl rfl, rfl⟩
      · rw [h1, Bool.false_and] at hsu
        subst hsu
        with_reducible refine ite_ff ?_
        with_reducible refine et_or_cons ?_
        refine et_cmp_r rfl ?_ rfl
        refine ev_call_def (by rw [hK']; k_is) (by rw [hK']; k_is) rfl (by decide) rfl ?_
        refine args_sv rfl ?_
        refine c_take (m := 3) hK' (nle hn' hn rfl) hok (nb rfl) ?_
        generalize b2.take 3 = f at *
        obtain ⟨j3, b3⟩ := f
        dsimp only
        with_reducible refine o_eq_ii ?_
        with_reducible refine bool_ex ?_
        refine ite_b (fun hj => ?_) (fun hj => ?_)
        · have hj0 : j3 = 0 := by have := eq_of_beq hj; (first | lia | omega)
          subst hj0
          with_reducible refine ite_tt ?_
          with_reducible refine ex_cons ?_
          refine ex_assign ?_ rfl rfl
          refine ev_binop_r rfl ?_
          refine ev_sv rfl ?_
          dsimp only
          rw [show cs (" " : Str) = [32] by decide]
          refine o_add_ss (by simp only [List.length_append, List.length_cons, List.length_nil, List.length_take, List.length_drop, List.length_reverse, sizeLine]; (first | lia | omega)) ?_
          with_reducible refine ex_nil ?_
          with_reducible refine And.intro rfl ?_
          exact ⟨by simp only [↓reduceIte, Bool.false_eq_true, decide_true, if_true, if_false]; exact sub_lk rfl rfl, rfl⟩
        · have hj0 : j3 ≠ 0 := fun e => by rw [e] at hj; exact absurd hj (by decide)
          rw [show decide (j3 = 0) = false from decide_eq_false hj0]
          with_reducible refine et_or_nil ?_
          with_reducible refine ite_ff ?_
          with_reducible refine ex_nil ?_
          with_reducible refine And.intro rfl ?_
          exact ⟨by simp only [↓reduceIte, Bool.false_eq_true, decide_true, if_true, if_false]; exact sub_lk rfl rfl, rfl⟩
    · have hst : TS.step ⟨fd, isd, ah, b2⟩ t = ⟨(if (if sure ah t = true then true else decide ((b2.take 3).1 = 0)) = true then fd ++ [32] else fd) ++ (typed (if sure ah t = true then b2 else (b2.take 3).2) t (isd || decide (t = .word (cs "DATA")))).1, isd || decide (t = .word (cs "DATA")), some t, (typed (if sure ah t = true then b2 else (b2.take 3).2) t (isd || decide (t = .word (cs "DATA")))).2⟩ := by
        unfold TS.step
        dsimp only
        cases sure ah t <;> rfl
      rw [hst] at hQ
      have hf1 : (if (if sure ah t = true then true else decide ((b2.take 3).1 = 0)) = true then fd ++ [32] else fd).length ≤ 2 + 600 * i := by
        generalize (if sure ah t = true then true else decide ((b2.take 3).1 = 0)) = c
        cases c
        · show fd.length ≤ _; (first | lia | omega)
        · show (fd ++ [32]).length ≤ _; rw [List.length_append]; simp; (first | lia | omega)
      generalize (if (if sure ah t = true then true else decide ((b2.take 3).1 = 0)) = true then fd ++ [32] else fd) = f1 at *
      generalize (if sure ah t = true then b2 else (b2.take 3).2) = b3 at *
      clear hst hP hfl hok
      have hf2 : f1.length ≤ 30000 := by (first | lia | omega)
      have hty := typed_len b3 (isd || decide (t = .word (cs "DATA"))) hg1 hg2
      with_reducible refine ex_cons ?_
      with_reducible refine' ex_assign ?_ ?k1 ?k2
      case k1 => rfl
      case k2 => rfl
      with_reducible refine Ev.is (.bool (isd || decide (t = .word (cs "DATA")))) ?_ ?_
      · with_reducible refine ev_or2 ?_
        refine ev_sv rfl ?_
        with_reducible refine bool_ex ?_
        refine ite_b (fun hd1 => ?_) (fun hd1 => ?_)
        · rw [hd1]; exact ⟨rfl, rfl⟩
        · rw [hd1, Bool.false_or]
          refine ev_cmp ?_ rfl
          refine ev_sv rfl ?_
          with_reducible refine ev_tuple ?_
          refine args_sv rfl ?_
          refine ⟨by exact nb rfl, ?_⟩
          refine o_eq_tt (by show (true && (IsFl t.val && true)) = true; rw [val_fl]; rfl) rfl ?_
          rw [show leq [V.str t.kind, t.val] [V.str (cs "word"), V.str (cs "DATA")] = decide (t = .word (cs "DATA")) from leq_tk t (.word (cs "DATA"))]
          exact ⟨rfl, rfl⟩
      · dsimp only
        have hok3 := typed_ok hok2 t (isd || decide (t = .word (cs "DATA")))
        generalize (isd || decide (t = .word (cs "DATA"))) = dd at *
        with_reducible refine ex_cons ?_
        refine ex_asg2s ?_ rfl rfl rfl rfl
        with_reducible refine ev_tuple ?_
        with_reducible refine' args_cons' ?_ ?x5
        case x5 => rfl
        with_reducible refine ev_binop ?_
        refine ev_sv rfl ?_
        refine ev_call_def (by rw [hK']; k_is) (by rw [hK']; k_is) rfl (by decide) rfl ?_
        refine args_sv rfl ?_
        dsimp only
        refine c_typed (t := t) hK' (nle hn' hn rfl) hok2 hg1 hg2 (fun g2 => ?_)
        generalize typed b3 t dd = ty at *
        obtain ⟨y, b4⟩ := ty
        dsimp only at hok3 hty ⊢
        refine o_add_ss (by simp only [List.length_append, List.length_cons, List.length_nil, List.length_take, List.length_drop, List.length_reverse, sizeLine]; (first | lia | omega)) ?_
        refine args_sv rfl ?_
        refine ⟨by exact nb rfl, ?_⟩
        with_reducible refine ⟨_, _, rfl, ?_⟩
        with_reducible refine ex_nil ?_
        refine hQ _ _ _ ?_
        dsimp only
        refine ⟨_, ?_, _, g' ++ g2, rfl, by rw [List.append_assoc], hok3, by dsimp only; rw [List.length_append]; (first | lia | omega), rfl⟩
        dsimp only
        rw [show ahK (some t) = t.kind from rfl, show ahX (some t) = t.val from rfl]
        exact sub_lk rfl rfl
  · rintro _ _ ⟨s, g', hs, rfl, _, hfl, rfl⟩
    rw [List.length_map, List.take_length] at hs
    subst hs
    generalize List.foldl TS.step _ ts = st at *
    with_reducible refine ex_nil ?_
    with_reducible refine ex_cons ?_
    with_reducible refine ex_ret ?_
    with_reducible refine ev_binop ?_
    refine ev_sv rfl ?_
    with_reducible refine ev_ifexp ?_
    refine et_cmp_r rfl ?_ rfl
    refine ev_sub_r rfl ?_
    refine ev_sv rfl ?_
    dsimp only
    unfold ahV
    refine o_item_tup 0 rfl (nb rfl) rfl ?_ (fun _ _ => rfl)
    with_reducible refine o_ne_ss ?_
    with_reducible refine bool_ex ?_
    rw [done_kind] at h
    have hfl' : st.found.length ≤ 20000 := by rw [List.length_map] at hfl; (first | lia | omega)
    generalize st.found = fd at *
    generalize ahK st.ahead = kd at *
    by_cases hk : (kd == cs "raw") = true
    · rw [if_pos hk] at h
      refine ite_f (by simpa [bne] using hk) ?_
      refine ev_sv rfl ?_
      rw [show cs ("" : Str) = [] by decide]
      refine o_add_ss (by exact Nat.le_trans (by assumption) (nb rfl)) ?_
      exact h _
    · rw [if_neg hk] at h
      refine ite_t (by simpa [bne] using hk) ?_
      refine ev_sv rfl ?_
      rw [show cs (" " : Str) = [32] by decide]
      refine o_add_ss (by simp only [List.length_append, List.length_cons, List.length_nil, List.length_take, List.length_drop, List.length_reverse, sizeLine]; (first | lia | omega)) ?_
      exact h _
end
theorem fillK15 (w : World) : PySem.Challenge.rw_nz0571_01 = PySem.Challenge.rw_nz0571_01 ∧ KH w.params = KH w.params := by
  k_fill
  exact ⟨rfl, rfl⟩
noncomputable def seedStep (s : Nat) (z : Int) : Nat := (s * 37 + z.natAbs) % 1000003
noncomputable def boxOf (zs : List Int) : Bx := ⟨(zs.take 24).map Int.natAbs, (zs.take 24).foldl seedStep 19⟩
theorem seed_lt : ∀ (zs : List Int) (s : Nat), s < 1000003 → zs.foldl seedStep s < 1000003
  | [], s, h => h
  | z :: zs, s, h => seed_lt zs _ (Nat.mod_lt _ (nb rfl))
theorem boxOf_ok (zs : List Int) : (boxOf zs).ok := by
  refine ⟨seed_lt _ _ (nb rfl), ?_⟩
  show ((zs.take 24).map Int.natAbs).length ≤ 24
  rw [List.length_map, List.length_take]; (first | lia | omega)
noncomputable def absI : V → V
  | .int i => .int (i.natAbs : Nat)
  | v => v
theorem abs_eq (k : Int) : (if k < 0 then -k else k) = ((k.natAbs : Nat) : Int) := by split <;> (first | lia | omega)
section
variable {w : World} {C : Ctx} {X : Str → St → Prop} {Q : V → St → Prop} {μ : St}
set_option maxHeartbeats 2000000 in
theorem c_box (hK : C.K = KH w.params) (hn : 1 ≤ C.n) {zs : List Int} (hl : zs.length ≤ 1000000) (h : Q (.lst 1) (bx (boxOf zs))) :
    Op PR w C RV (fun us => call (.ref 203) us) X Q [.scr (zs.map V.int)] [] := by
  refine' op_defl [("script", .scr (zs.map V.int))] ?k1 ?k2 ?k3 ?k4 ?k5 ?k6 ?k7 ?k8 ?k9 ?k10 ?k11 ?_
  case k1 => (rw [(by assumption : Ctx.K _ = KH _)]; k_is)
  case k2 => (rw [(by assumption : Ctx.K _ = KH _)]; k_is)
  case k3 => (first | lia | omega)
  case k5 => intro us h; rcases us with _ | ⟨a, _ | ⟨b, _ | ⟨c, _ | ⟨d, r⟩⟩⟩⟩ <;> first | rfl | (simp at h)
  case k4 => rfl
  case k6 => dsimp only [List.map]; decide
  case k7 => decide
  case k8 => dsimp only [List.map]; decide
  case k9 => rfl
  case k10 => rfl
  case k11 => rfl
  intro L C' hK' hn' hh' hf'
  unfold fB203
  replace hK' := hK'.trans hK
  have hsl : ∀ μ : St, Lists μ (.scr (zs.map V.int)) (zs.map V.int) := fun μ => .inr (.inl rfl)
  have hz24 : (zs.take 24).length ≤ 24 := by rw [List.length_take]; (first | lia | omega)
  with_reducible refine ex_cons ?_
  refine ex_assign ?_ rfl rfl
  dsimp only
  refine ev_list ?_
  with_reducible refine' args_cons' ?_ ?x0
  case x0 => rfl
  refine ev_map absI (by decide) (by decide) rfl (by decide) rfl (evi_list (.inl ⟨_, _, rfl⟩) ?_) (fun _ => rfl)
  refine ev_lslice0 ?_ (fun _ _ => rfl)
  refine ev_sv rfl ?_
  refine ev_sv rfl ?_
  dsimp only
  refine ⟨zs.map V.int, 24, hsl _, rfl, by simpa using hl, ?_⟩
  have hfl : ∀ μ : St, Lists μ (.fro (List.take 24 (zs.map V.int))) ((zs.take 24).map V.int) := fun μ => .inl (by rw [List.map_take])
  refine ⟨(zs.take 24).map V.int, hfl _, by rw [List.length_map]; (first | lia | omega), fun _ => hfl _, fun k v μ' Cc hv => ?_, ?_⟩
  · obtain ⟨z, hz, rfl⟩ : ∃ z, (zs.take 24)[k]? = some z ∧ V.int z = v := by
      rw [List.getElem?_map, Option.map_eq_some_iff] at hv
      exact hv
    refine ev_call_builtin (by rw [hK']; k_is) (by boot_fast) (by decide) rfl (by decide) rfl rfl ?_
    with_reducible refine' args_cons' ?_ ?x1
    case x1 => rfl
    refine ev_call_type (by rw [hK']; k_is) (by boot_fast) (by decide) rfl (by decide) rfl rfl ?_
    refine args_sv rfl ?_
    refine b_int_int ?_
    refine args_sv rfl ?_
    refine b_abs ?_
    rw [abs_eq]
    exact ⟨rfl, rfl⟩
  rw [show List.map absI ((zs.take 24).map V.int) = rowV ((zs.take 24).map Int.natAbs) by unfold rowV; simp [absI, Function.comp_def]]
  have hb : bx (boxOf zs) = [rowV ((zs.take 24).map Int.natAbs), [.lst 0, .int ((zs.take 24).foldl seedStep 19 : Nat)]] := rfl
  rw [hb] at h
  generalize rowV ((zs.take 24).map Int.natAbs) = row at *
  refine args_sv rfl ?_
  refine ⟨by exact nb rfl, ?_⟩
  with_reducible refine ex_cons ?_
  refine ex_sub (loc' := ([("script", .scr (zs.map V.int)), ("box", .lst 1)] : Loc)) ?_ (by rw [show (([] : St) ++ [row]).length = 1 from rfl]; exact sub_lk rfl rfl)
  refine ex_for (evi_list (.inl ⟨_, _, rfl⟩) ?_) hf' rfl (fun _ => rfl)
  refine ev_lslice0 ?_ (fun _ _ => rfl)
  refine ev_sv rfl ?_
  refine ev_sv rfl ?_
  dsimp only
  refine ⟨zs.map V.int, 24, hsl _, rfl, by simpa using hl, ?_⟩
  refine ⟨(zs.take 24).map V.int, hfl _, fun i loc μ' => μ' = [row, [.lst 0, .int (((zs.take 24).take i).foldl seedStep 19 : Nat)]] ∧ loc = ([("script", .scr (zs.map V.int)), ("box", .lst 1)] : Loc), ⟨rfl, rfl⟩, ?_, ?_, ?_⟩
  · rintro i _ _ ⟨rfl, rfl⟩; exact hfl _
  · rintro i v _ _ hv ⟨rfl, rfl⟩
    obtain ⟨z, hz, rfl⟩ : ∃ z, (zs.take 24)[i]? = some z ∧ V.int z = v := by
      rw [List.getElem?_map, Option.map_eq_some_iff] at hv
      exact hv
    refine ⟨_, ast_name rfl, ?_⟩
    have hs' : ((zs.take 24).take (i + 1)).foldl seedStep 19 = seedStep (((zs.take 24).take i).foldl seedStep 19) z := by
      rw [List.take_add_one, hz, Option.toList, List.foldl_append]; rfl
    dsimp only
    rw [hs']
    clear hs'
    generalize ((zs.take 24).take i).foldl seedStep 19 = sd at *
    refine ex_q fun QQ hQ => ?_
    with_reducible refine ex_cons ?_
    refine ex_set ?_ rfl
    refine ev_binop_r rfl ?_
    with_reducible refine ev_binop ?_
    refine ev_binop_r rfl ?_
    refine ev_sub_r rfl ?_
    refine ev_sv rfl ?_
    dsimp only
    refine o_item_Lj (l := [.lst 0, .int (sd : Nat)]) 1 (.lst rfl) rfl (nb rfl) rfl ?_ (fun _ _ => rfl)
    refine o_mul_ii (IntMulOk.of_right (by decide)) ?_
    refine ev_call_builtin (by rw [hK']; k_is) (by boot_fast) (by decide) rfl (by decide) rfl rfl ?_
    with_reducible refine' args_cons' ?_ ?x2
    case x2 => rfl
    refine ev_call_type (by rw [hK']; k_is) (by boot_fast) (by decide) rfl (by decide) rfl rfl ?_
    refine args_sv rfl ?_
    refine b_int_int ?_
    refine args_sv rfl ?_
    refine b_abs ?_
    rw [abs_eq]
    with_reducible refine o_add_ii ?_
    rw [show (sd : Int) * 37 + (z.natAbs : Nat) = ((sd * 37 + z.natAbs : Nat) : Int) by simp]
    refine o_mod_nn (b := 1000003) (by (first | lia | omega)) ?_
    refine ev_sv rfl ?_
    refine ev_sv rfl ?_
    refine Op3.weak (o_set_lst 1 rfl rfl (by simp) (by simp) ?_)
    with_reducible refine ex_nil ?_
    refine hQ _ _ _ ?_
    dsimp only
    exact ⟨_, by exact sub_lk rfl rfl, rfl, rfl⟩
  · rintro _ _ ⟨rfl, rfl⟩
    rw [List.length_map, List.take_length]
    with_reducible refine ex_nil ?_
    with_reducible refine ex_cons ?_
    with_reducible refine ex_ret ?_
    refine ev_sv rfl ?_
    dsimp only
    exact h
end
theorem fillK16 (w : World) : PySem.Challenge.rw_nz0571_01 = PySem.Challenge.rw_nz0571_01 ∧ KH w.params = KH w.params := by
  k_fill
  exact ⟨rfl, rfl⟩
theorem law_from {K : Frag} {oc oc' : Value} {od od' : Option Addr} {osl osl' : Array (Option Value)} {name qual name' qual' : Str} {params params' : Arguments} {body body' : List Stmt} {scope scope' : Scope} {dV kV doc pm dV' kV' doc' pm' : Value} {an an' : Option Addr} {cdv ct cdv' ct' : Value}
    (P : List Stmt → Scope → Prop) (ho : K.lookup 246 = some ⟨oc, od, .func (fnOf name qual params body scope dV kV doc pm an cdv ct), osl⟩)
    (ho' : K.lookup 246 = some ⟨oc', od', .func (fnOf name' qual' params' body' scope' dV' kV' doc' pm' an' cdv' ct'), osl'⟩) (h : P body scope) : P body' scope' := by
  rw [ho] at ho'
  have e := Option.some.inj ho'
  injection e with _ _ e3 _
  have e4 := Data.func.inj e3
  have e5 := congrArg FuncData.body e4
  have e6 := congrArg FuncData.scope e4
  have e7 : body = body' := by injection e5
  have e8 : scope = scope' := e6
  subst e7; subst e8; exact h
noncomputable def lawEnv (scope : Scope) (L fa : Addr) : Env := envOfC "law" scope L fa (.ref 245)
theorem lookup_inj : ∀ (l : List (Str × Addr)) (x y : Str) (c : Addr), (l.map (·.2)).Nodup → l.lookup x = some c → l.lookup y = some c → y = x
  | [], _, _, _, _, h, _ => by cases h
  | (z, d) :: r, x, y, c, hn, h1, h2 => by
    rw [List.lookup_cons] at h1 h2
    have hn' := List.nodup_cons.mp (show (d :: r.map (·.2)).Nodup from hn)
    cases e1 : x == z <;> cases e2 : y == z <;> rw [e1] at h1 <;> rw [e2] at h2
    · exact lookup_inj r x y c hn'.2 h1 h2
    · cases h2
      obtain ⟨p, m, q⟩ := mem_cells h1
      exact absurd (List.mem_map.mpr ⟨p, m, q⟩) hn'.1
    · cases h1
      obtain ⟨p, m, q⟩ := mem_cells h2
      exact absurd (List.mem_map.mpr ⟨p, m, q⟩) hn'.1
    · rw [eq_of_beq e1, eq_of_beq e2]
theorem law_ap {cells : List (Str × Addr)} {L : Addr} (h : cells = [(("bent" : Str), L + 1 + 1 + 1), (("bad" : Str), L + 1 + 1), (("box" : Str), L + 1)]) {x : Str} {c : Addr} (hc : cells.lookup x = some c) :
    ∀ y c', cells.lookup y = some c' → y ≠ x → c' ≠ c := by
  intro y c' hy hne e
  subst e
  refine hne (lookup_inj cells x y c' ?_ hc hy)
  subst h
  simp only [List.map_cons, List.map_nil, List.nodup_cons, List.mem_cons, List.not_mem_nil, or_false, not_or, not_false_eq_true, List.nodup_nil, and_true]
  refine ⟨⟨?_, ?_⟩, ?_⟩
  · exact Nat.ne_of_gt (Nat.lt_succ_self (L + 1 + 1))
  · exact Nat.ne_of_gt (Nat.lt_of_lt_of_le (Nat.lt_succ_self (L + 1)) (Nat.le_succ _))
  · exact Nat.ne_of_gt (Nat.lt_succ_self (L + 1))
theorem step_ok {s : TS} (h : s.b.ok) (t : TK) : (s.step t).b.ok := by
  unfold TS.step
  try dsimp only
  split
  · exact typed_ok h _ _
  · exact typed_ok (Bx.take_ok h 3) _ _
theorem text_ok {b : Bx} (h : b.ok) (ts : List TK) : (textOfTyped ts b).b.ok := by
  have key : ∀ (ts : List TK) (s : TS), s.b.ok → (ts.foldl TS.step s).b.ok := by
    intro ts
    induction ts with
    | nil => intro s h; exact h
    | cons t r ih => intro s h; exact ih _ (step_ok h t)
  exact key ts _ (Bx.take_ok h 2)
structure LawB (tk : List TK) (T : List Nat) (b : Bx) (g : St) (j fm : Nat) : Prop where
  dr : ∀ t ∈ tk, Dr t
  len : tk.length ≤ 15
  tlen : T.length ≤ 300
  ov : (∀ t ∈ tk, rtB t = false) → tokensOf (T ++ cs " 65536") = .error OVk
  ok : b.ok
  fm : fm < 3
  oc : ∀ (b' : Bx) more, Lx (bx b' ++ g ++ more) (.lst j) (rowV (octs tk))
theorem ExT.sub {prog : Program} {w : World} {C : Ctx} {env : Env} {loc loc' : Loc} {μ : St} {ps : Array Value} {Q : FV → Loc → St → Array Value → Prop} {t : Sem Flow} (h : ExT prog w C env t loc' μ ps Q) (sb : Sub loc' loc) : ExT prog w C env t loc μ ps Q :=
  fun A s ρ cx rl lc T P PE p => h A s ρ cx rl (lc.sub sb) T P PE p
noncomputable abbrev lawLoc (zs : List Int) (tk : List TK) (T : List Nat) (j : Nat) : Loc := [("box", .lst 1), ("tokens", .fro (tk.map TK.v)), ("text", .str T), ("octets", .lst j)]
noncomputable abbrev lawQ : FV → Loc → St → Array Value → Prop := fun F _ _ _ => F = .ret (.bool true)
theorem law_a {w : World} {C : Ctx} {oc : Value} {od : Option Addr} {osl : Array (Option Value)} {name qual : Str} {params : Arguments} {body : List Stmt} {scope : Scope} {dV kV doc pm : Value} {an : Option Addr} {cdv ct : Value}
    (hK : C.K = KH w.params) (hn : 10 ≤ C.n) (ho : C.K.lookup 246 = some ⟨oc, od, .func (fnOf name qual params body scope dV kV doc pm an cdv ct), osl⟩)
    {L fa : Addr} {zs : List Int} (hz : zs.length ≤ 63) (hf : C.fs = [lawEnv scope L fa]) (h1 : C.h₀.get? (L + 1) = none) (h2 : C.h₀.get? (L + 1 + 1) = none) (h3 : C.h₀.get? (L + 1 + 1 + 1) = none)
    (hB : ∀ tk T b g j fm, LawB tk T b g j fm → ExT PR w C (lawEnv scope L fa) (execs (body.drop 7) (lawEnv scope L fa)) ([("form", .int fm), ("letters", .str (cs "SN")), ("box", .lst 1), ("tokens", .fro (tk.map TK.v)), ("text", .str T), ("octets", .lst j)] : Loc) (bx b ++ g) #[] lawQ) :
    ExT PR w C (lawEnv scope L fa) (execs body (lawEnv scope L fa)) [("script", .scr (zs.map V.int))] [] #[] lawQ := by
  revert hf; revert hB
  refine' law_from (P := fun body scope => (∀ tk T b g j fm, LawB tk T b g j fm → ExT PR w C (lawEnv scope L fa) (execs (body.drop 7) (lawEnv scope L fa)) ([("form", .int fm), ("letters", .str (cs "SN")), ("box", .lst 1), ("tokens", .fro (tk.map TK.v)), ("text", .str T), ("octets", .lst j)] : Loc) (bx b ++ g) #[] lawQ) → C.fs = [lawEnv scope L fa] → ExT PR w C (lawEnv scope L fa) (execs body (lawEnv scope L fa)) [("script", .scr (zs.map V.int))] [] #[] lawQ) ?k1 ho ?_
  case k1 => rw [hK]; k_is
  intro hB hf
  unfold lawEnv at hB hf ⊢
  unfold fB246 at hB ⊢
  dsimp only [List.drop] at hB
  refine t_cons (t_lift ?_)
  refine ex_assign1 ?_ (.inr ⟨rfl, L + 1, rfl, h1, law_ap rfl rfl⟩) rfl
  refine ev_call_def (by rw [hK]; k_is) (by rw [hK]; k_is) rfl (by decide) rfl ?_
  refine args_sv rfl ?_
  dsimp only
  refine c_box hK (by (first | lia | omega)) (Nat.le_trans (by assumption) (nb rfl)) ?_
  have hb0 := boxOf_ok zs
  generalize boxOf zs = b0 at *
  try dsimp only
  obtain ⟨g, hg0⟩ : ∃ g : St, g = [] := ⟨[], rfl⟩
  rw [show bx b0 = bx b0 ++ g by rw [hg0, List.append_nil]]
  clear hg0
  -- tokens
  refine t_cons (t_lift ?_)
  refine ex_assign ?_ rfl rfl
  with_reducible refine ev_binop ?_
  dsimp only
  refine ev_comp [("box", .lst 1)] rfl (by decide) rfl (by decide) rfl ?_ ?_ (by decide) (evi_range (by rw [hK]; k_is) rfl rfl ?_) (fun _ => rfl)
  · intro p m
    obtain rfl := List.mem_singleton.mp m
    exact ⟨by exact (lk_mem rfl), rfl, rfl, rfl, by decide⟩
  · intro c m; exact .tail _ (.tail _ m)
  refine ev_call_def (by rw [hK]; k_is) (by rw [hK]; k_is) rfl (by decide) rfl ?_
  refine args_sv rfl ?_
  dsimp only
  refine c_take (m := 10) hK (by (first | lia | omega)) hb0 (nb rfl) ?_
  have hb1 := b0.take_ok hb0 10
  have hn1 := b0.take_lt (m := 10) (nb rfl)
  generalize b0.take 10 = f at *
  obtain ⟨m, b1⟩ := f
  dsimp only at hb1 hn1 ⊢
  refine ⟨m, rfl, by exact Nat.lt_of_lt_of_le (by assumption) (nb rfl), ?_⟩
  rw [show (bx b1 ++ g).length = g.length + 2 by simp [bx]]
  refine ⟨by simp; (first | lia | omega), fun k acc μ' => acc = (drawAll b1 k).1.map TK.v ∧ μ' = bx (drawAll b1 k).2 ++ (g ++ [acc]), ⟨rfl, List.append_assoc ..⟩, ?_, ?_, ?_⟩
  · rintro k acc _ ⟨rfl, rfl⟩
    exact ⟨trivial, bx_get⟩
  · rintro k v acc _ Cc hv ⟨rfl, rfl⟩
    have hok := drawAll_ok hb1 k
    refine ev_call_def (by rw [hK]; k_is) (by rw [hK]; k_is) rfl (by decide) rfl ?_
    refine args_sv rfl ?_
    dsimp only
    refine c_law_token hK (by (first | lia | omega)) hok ?_
    exact ⟨bx_get, by simp [drawAll], by rw [bx_set]; rfl⟩
  rintro _ _ ⟨rfl, rfl⟩
  rw [List.length_map, List.length_range]
  obtain ⟨hN, hlen⟩ := drawAll_N b1 m
  have hb2 := drawAll_ok hb1 m
  generalize drawAll b1 m = f at *
  obtain ⟨ts, b2⟩ := f
  dsimp only at hN hlen hb2 ⊢
  refine ev_call_def (by rw [hK]; k_is) (by rw [hK]; k_is) rfl (by decide) rfl ?_
  refine args_sv rfl ?_
  refine c_law_end hK (by (first | lia | omega)) hb2 (fun d g' hd => ?_)
  have he := drawEnd_end b2
  have hb3 := drawEnd_okL hb2
  generalize drawEnd b2 = f at *
  obtain ⟨es, b3⟩ := f
  dsimp only at he hb3 hd ⊢
  have hel := he.dr.2
  refine o_add_L (Lx.lst (l := ts.map TK.v) (by simp [bx])) hd (by simp; (first | lia | omega)) ?_
  rw [← List.map_append]
  have hD := drawn_of b3 hN hlen hn1 he
  clear hN he hd hlen hel hb2 hb1 hb0 hn1
  generalize ts ++ es = tk at *
  generalize g ++ [List.map TK.v ts] ++ g' = g1
  try dsimp only
  -- text
  refine t_cons (t_lift ?_)
  refine ex_assign ?_ rfl rfl
  refine ev_call_def (by rw [hK]; k_is) (by rw [hK]; k_is) rfl (by decide) rfl ?_
  refine args_sv rfl ?_
  dsimp only
  refine c_text hK (by (first | lia | omega)) hb3 Lx.fro (by have := hD.len; (first | lia | omega)) (fun t m => ⟨(hD.dr t m).good2.1, (hD.dr t m).asc⟩) (fun _ _ => Lx.fro) (fun g2 => ?_)
  have hb4 := text_ok hb3 tk
  have hT := done_len b3 hD.dr
  have hTl := hD.len
  have hq1 := hD.typed
  have hov := hD.ov
  generalize textOfTyped tk b3 = st at *
  generalize st.done = T at *
  generalize st.b = b4 at *
  generalize g1 ++ g2 = g3
  have hT : T.length ≤ 300 := by (first | lia | omega)
  clear hb3
  try dsimp only
  -- the first question
  refine t_cons (t_lift ?_)
  with_reducible refine ex_if ?_
  with_reducible refine et_bool ?_
  with_reducible refine et_or_cons ?_
  refine et_cmp_r rfl ?_ rfl
  refine ev_call_def (by rw [hK]; k_is) (by rw [hK]; k_is) rfl (by decide) rfl ?_
  refine args_sv rfl ?_
  refine c_tokens_of hK (by (first | lia | omega)) (Nat.le_trans (by assumption) (nb rfl)) ?_
  rw [hq1]
  dsimp only
  intro g4
  refine o_ne_same (by (first | lia | omega)) (Lx.lst (l := tk.map TK.v) (by simp)).lists Lx.fro.lists (all_dat tk) ?_
  with_reducible refine bool_ex ?_
  with_reducible refine ite_ff ?_
  with_reducible refine et_or_cons ?_
  refine et_cmp_r rfl ?_ rfl
  refine ev_call_def (by rw [hK]; k_is) (by rw [hK]; k_is) rfl (by decide) rfl ?_
  with_reducible refine' args_cons' ?_ ?x0
  case x0 => rfl
  refine ev_call_def (by rw [hK]; k_is) (by rw [hK]; k_is) rfl (by decide) rfl ?_
  refine args_sv rfl ?_
  have htl := textOf_len hD.dr
  refine c_text_of hK (by (first | lia | omega)) Lx.fro (Nat.le_trans (by assumption) (nb rfl)) (fun t m => (hD.dr t m).small) ?_
  refine args_sv rfl ?_
  refine c_tokens_of hK (by (first | lia | omega)) (by (first | lia | omega)) ?_
  rw [hD.listed]
  dsimp only
  intro g5
  refine o_ne_same (by (first | lia | omega)) (Lx.lst (l := tk.map TK.v) (by simp)).lists Lx.fro.lists (all_dat tk) ?_
  with_reducible refine bool_ex ?_
  with_reducible refine ite_ff ?_
  with_reducible refine et_or_nil ?_
  with_reducible refine ite_ff ?_
  with_reducible refine ex_nil ?_
  dsimp only
  rw [List.append_assoc, List.append_assoc]
  generalize g3 ++ (List.map TK.v tk :: g4 ++ List.map TK.v tk :: g5) = g6
  -- octets
  refine t_cons (t_lift ?_)
  refine ex_assign ?_ rfl rfl
  refine ev_call_def (by rw [hK]; k_is) (by rw [hK]; k_is) rfl (by decide) rfl ?_
  refine args_sv rfl ?_
  dsimp only
  refine c_octets hK (by (first | lia | omega)) Lx.fro (Nat.le_trans (by assumption) (nb rfl)) (fun t m => (hD.dr t m).good2) (fun g7 => ?_)
  have hOc : ∀ (b' : Bx) more, Lx (bx b' ++ (g6 ++ rowV (octs tk) :: g7) ++ more) (.lst (bx b4 ++ g6).length) (rowV (octs tk)) := fun b' more => Lx.lst (by simp [bx])
  rw [List.append_assoc]
  generalize (bx b4 ++ g6).length = j at *
  generalize g6 ++ rowV (octs tk) :: g7 = g8 at *
  have hol := octs_len (ts := tk) fun t m => (hD.dr t m).good2.1
  -- the second question
  refine t_cons (t_lift ?_)
  with_reducible refine ex_if ?_
  with_reducible refine et_bool ?_
  with_reducible refine et_or_cons ?_
  refine et_cmp_r rfl ?_ rfl
  refine ev_call_def (by rw [hK]; k_is) (by rw [hK]; k_is) rfl (by decide) rfl ?_
  refine args_sv rfl ?_
  refine c_crunch hK (by (first | lia | omega)) Lx.fro (Nat.le_trans (by assumption) (nb rfl)) (fun t m => (hD.dr t m).good2.1) (fun g9 => ?_)
  refine o_ne_same (by (first | lia | omega)) (Lx.lst (l := rowV (octs tk)) (by simp)).lists (hOc b4 _).lists (row_dat _) ?_
  with_reducible refine bool_ex ?_
  with_reducible refine ite_ff ?_
  with_reducible refine et_or_cons ?_
  refine et_cmp_r rfl ?_ rfl
  refine ev_call_def (by rw [hK]; k_is) (by rw [hK]; k_is) rfl (by decide) rfl ?_
  refine args_sv rfl ?_
  refine c_expand hK (by (first | lia | omega)) (hOc b4 _) (by (first | lia | omega)) (octs_lt fun t m => (hD.dr t m).good2.1) ?_
  rw [expand_octs fun t m => (hD.dr t m).good2.1]
  dsimp only
  intro g10
  refine o_ne_same (by (first | lia | omega)) (Lx.lst (l := tk.map TK.v) (by simp)).lists Lx.fro.lists (all_dat tk) ?_
  with_reducible refine bool_ex ?_
  with_reducible refine ite_ff ?_
  with_reducible refine et_or_nil ?_
  with_reducible refine ite_ff ?_
  with_reducible refine ex_nil ?_
  dsimp only
  rw [List.append_assoc, List.append_assoc]
  have hOc : ∀ (b' : Bx) more, Lx (bx b' ++ (g8 ++ (rowV (octs tk) :: g9 ++ List.map TK.v tk :: g10)) ++ more) (.lst j) (rowV (octs tk)) := fun b' more => by
    have := hOc b' ((rowV (octs tk) :: g9 ++ List.map TK.v tk :: g10) ++ more)
    simpa only [List.append_assoc] using this
  generalize g8 ++ (rowV (octs tk) :: g9 ++ List.map TK.v tk :: g10) = g11 at *
  -- bad
  refine t_cons (t_lift ?_)
  refine ex_asg2s ?_ rfl rfl rfl rfl
  with_reducible refine ev_tuple ?_
  with_reducible refine' args_cons' ?_ ?x1
  case x1 => rfl
  refine ev_call_def (by rw [hK]; k_is) (by rw [hK]; k_is) rfl (by decide) rfl ?_
  refine args_sv rfl ?_
  dsimp only
  refine c_take (m := 3) hK (by (first | lia | omega)) hb4 (nb rfl) ?_
  have hb5 := b4.take_ok hb4 3
  have hf3 := b4.take_lt (m := 3) (nb rfl)
  generalize b4.take 3 = f at *
  obtain ⟨fm, b5⟩ := f
  dsimp only at hb5 hf3 ⊢
  refine args_sv rfl ?_
  refine ⟨by exact nb rfl, ?_⟩
  with_reducible refine ⟨_, _, rfl, ?_⟩
  refine ExT.sub (hB tk T b5 g11 j fm ⟨hD.dr, hTl, by assumption, hov, hb5, hf3, hOc⟩) ?_
  exact sub_lk rfl rfl
theorem fillK17 (w : World) : PySem.Challenge.rw_nz0571_01 = PySem.Challenge.rw_nz0571_01 ∧ KH w.params = KH w.params := by
  k_fill
  exact ⟨rfl, rfl⟩
section
variable {prog : Program} {w : World} {C : Ctx} {env : Env} {loc : Loc} {ps : Array Value} {Q : FV → Loc → St → Array Value → Prop} {μ : St}
/-- what the ways through a statement meet in -/
theorem t_cut {st : Stmt} {rest : List Stmt} (P : Loc → St → Prop) (h : Ex prog w C env (exec st env) (fun _ _ => False) (fun F l m => F = .next ∧ P l m) loc μ) (q : ∀ l m, P l m → ExT prog w C env (execs rest env) l m ps Q) :
    ExT prog w C env (execs (st :: rest) env) loc μ ps Q :=
  t_cons (t_lift (h.mono (fun F l m ⟨e, p⟩ => by subst e; exact q l m p) fun _ _ x => x))
end
theorem bads_get {k : Nat} (h : k < 3) : BADS.getD k [] ∈ BADS := getD_mem (by rw [show BADS.length = 3 by decide]; exact h)
theorem bads_len : ∀ t ∈ BADS, t.length ≤ 300 := by decide
theorem bent_ok (k m : Nat) (hk : k < 7) (hm : m < 4) (r : List Nat) (hr : [([1, 9] : List Nat).take (1 + m % 2), [2, 3, 65], [4], [9], [60], [200], [172 + m]][k]? = some r) : (∀ c ∈ r, c < 256) ∧ r.length ≤ 3 := by
  have : ∀ k < 7, ∀ m < 4, (match [([1, 9] : List Nat).take (1 + m % 2), [2, 3, 65], [4], [9], [60], [200], [172 + m]][k]? with | some r => r.all (fun c => decide (c < 256)) && decide (r.length ≤ 3) | none => true) = true := by decide +kernel
  have := this k hk m hm
  rw [hr] at this
  rw [Bool.and_eq_true, List.all_eq_true] at this
  exact ⟨fun c hc => of_decide_eq_true (this.1 c hc), of_decide_eq_true this.2⟩
set_option maxHeartbeats 4000000 in
theorem law_b {w : World} {C : Ctx} {oc : Value} {od : Option Addr} {osl : Array (Option Value)} {name qual : Str} {params : Arguments} {body : List Stmt} {scope : Scope} {dV kV doc pm : Value} {an : Option Addr} {cdv ct : Value}
    (hK : C.K = KH w.params) (hn : 10 ≤ C.n) (ho : C.K.lookup 246 = some ⟨oc, od, .func (fnOf name qual params body scope dV kV doc pm an cdv ct), osl⟩)
    {L fa : Addr} (hf : C.fs = [lawEnv scope L fa]) (h1 : C.h₀.get? (L + 1) = none) (h2 : C.h₀.get? (L + 1 + 1) = none) (h3 : C.h₀.get? (L + 1 + 1 + 1) = none)
    {tk : List TK} {T : List Nat} {b : Bx} {g : St} {j fm : Nat} (hL : LawB tk T b g j fm) {tl : List Stmt}
    (hBB : ∀ b g q ps, q < 5 → ExT PR w C (lawEnv scope L fa) (execs tl (lawEnv scope L fa)) ([("typed", .str (TYP.getD q []))] : Loc) (bx b ++ g) ps lawQ) :
    ExT PR w C (lawEnv scope L fa) (execs ((body.drop 7).take 7 ++ tl) (lawEnv scope L fa)) ([("form", .int fm), ("letters", .str (cs "SN")), ("box", .lst 1), ("tokens", .fro (tk.map TK.v)), ("text", .str T), ("octets", .lst j)] : Loc) (bx b ++ g) #[] lawQ := by
  revert hf; revert hBB
  refine' law_from (P := fun body scope => (∀ b g q ps, q < 5 → ExT PR w C (lawEnv scope L fa) (execs tl (lawEnv scope L fa)) ([("typed", .str (TYP.getD q []))] : Loc) (bx b ++ g) ps lawQ) → C.fs = [lawEnv scope L fa] →
    ExT PR w C (lawEnv scope L fa) (execs ((body.drop 7).take 7 ++ tl) (lawEnv scope L fa)) ([("form", .int fm), ("letters", .str (cs "SN")), ("box", .lst 1), ("tokens", .fro (tk.map TK.v)), ("text", .str T), ("octets", .lst j)] : Loc) (bx b ++ g) #[] lawQ) ?k1 ho ?_
  case k1 => rw [(by assumption : Ctx.K _ = KH _)]; k_is
  intro hBB hf
  unfold lawEnv at hBB hf ⊢
  unfold fB246
  dsimp only [List.drop, List.take, List.cons_append, List.nil_append]
  obtain ⟨hdr, hlen, hT, hov, hb, hfm, hOc⟩ := hL
  -- bad
  refine t_cons (t_lift ?_)
  refine ex_assign1 ?_ (.inr ⟨rfl, L + 1 + 1, rfl, h2, law_ap rfl rfl⟩) rfl
  refine ev_sub_r rfl ?_
  dsimp only
  refine ev_lfro ?_
  refine args_sv rfl ?_
  refine ⟨by exact nb rfl, ?_⟩
  refine o_item_L (l := BADS.map V.str) Lx.fro (Nat.lt_of_lt_of_le (by assumption) (nb rfl)) (str_get (by rw [show BADS.length = 3 by decide]; exact hfm)) ?_ (fun _ _ => rfl)
  have hbs := errIs_eq (bads_sn _ (bads_get hfm))
  have hbl := bads_len _ (bads_get hfm)
  generalize BADS.getD fm [] = B0 at *
  -- the other text
  refine t_cut (fun l m => ∃ (B : List Nat) (kd : Str) (g' : St), tokensOf B = .error kd ∧ B.length ≤ 400 ∧ m = bx b ++ (g ++ g') ∧ Sub ([("bad", .str B), ("letters", .str (cs kd)), ("box", .lst 1), ("octets", .lst j)] : Loc) l) ?_ ?_
  · with_reducible refine ex_if ?_
    with_reducible refine et_bool ?_
    with_reducible refine et_and_cons ?_
    refine et_cmp_r rfl ?_ rfl
    refine ev_sv rfl ?_
    with_reducible refine o_eq_ii ?_
    with_reducible refine bool_ex ?_
    refine ite_b (fun hq => ?_) (fun hq => ?_)
    · with_reducible refine et_and_cons ?_
      refine et_cmp ?_ rfl
      refine ev_compif [] rfl (by decide) rfl (by decide) rfl (fun p m => nomatch m) (fun c m => nomatch m) (by simp) (evi_list (.inl ⟨_, _, rfl⟩) ?_) (fun _ => rfl)
      refine ev_sv rfl ?_
      dsimp only
      refine ⟨tk.map TK.v, Lx.fro.lists, by simp; (first | lia | omega), ?_⟩
      rw [show (bx b ++ g).length = g.length + 2 by simp [bx]]
      refine ⟨fun k acc μ' => acc = ((tk.take k).filter rtB).map TK.v ∧ μ' = bx b ++ (g ++ [acc]), ⟨rfl, List.append_assoc ..⟩, ?_, ?_, ?_⟩
      · rintro k acc _ ⟨rfl, rfl⟩
        exact ⟨Lx.fro.lists, bx_get⟩
      · rintro k v acc _ Cc hv ⟨rfl, rfl⟩
        obtain ⟨t, ht, rfl⟩ : ∃ t, tk[k]? = some t ∧ v = TK.v t := by
          rw [List.getElem?_map, Option.map_eq_some_iff] at hv
          obtain ⟨c, h1, h2⟩ := hv; exact ⟨c, h1, h2.symm⟩
        have hft : ((tk.take (k + 1)).filter rtB).map TK.v = ((tk.take k).filter rtB).map TK.v ++ (if rtB t = true then [TK.v t] else []) := by
          rw [List.take_add_one, ht, Option.toList, List.filter_append, List.map_append, List.filter_cons]
          cases rtB t <;> rfl
        dsimp only
        rw [hft]
        generalize ((tk.take k).filter rtB).map TK.v = acc at *
        clear hft
        rw [kv_fl]
        refine et_cmp ?_ rfl
        refine ev_sub_r rfl ?_
        refine ev_sv rfl ?_
        refine o_item_tup 0 rfl (nb rfl) rfl ?_ (fun _ _ => rfl)
        with_reducible refine ev_tuple ?_
        refine args_sv rfl ?_
        refine ⟨by exact nb rfl, ?_⟩
        refine o_in_st (by simp) ?_
        rw [show ([V.str (cs "raw"), .str (cs "text")].any fun d => flq d (.str t.kind)) = rtB t from rfl]
        with_reducible refine bool_ex ?_
        refine ite_b (fun hr => ?_) (fun hr => ?_)
        · rw [hr]
          refine ev_sv rfl ?_
          exact ⟨bx_get, rfl, bx_set⟩
        · rw [hr]
          exact ⟨by simp, rfl⟩
      · rintro _ _ ⟨rfl, rfl⟩
        rw [List.length_map, List.take_length]
        refine ev_lfro ?_
        refine args_sv rfl ?_
        refine ⟨by exact nb rfl, ?_⟩
        have h6 : (cs " 65536").length = 6 := by decide
        by_cases he : tk.filter rtB = []
        · rw [he]
          refine o_eq_same (by (first | lia | omega)) (Lx.lst (l := []) bx_get).lists Lx.fro.lists rfl ?_
          with_reducible refine bool_ex ?_
          with_reducible refine ite_tt ?_
          with_reducible refine et_and_nil ?_
          with_reducible refine ite_tt ?_
          with_reducible refine ex_cons ?_
          refine ex_asg21 ?_ (.inr ⟨rfl, L + 1 + 1, rfl, h2, law_ap rfl rfl⟩) (.inl rfl) rfl rfl
          with_reducible refine ev_tuple ?_
          with_reducible refine' args_cons' ?_ ?x0
          case x0 => rfl
          refine ev_binop_r rfl ?_
          refine ev_sv rfl ?_
          refine o_add_ss (by simp only [List.length_append, List.length_cons, List.length_nil, List.length_take, List.length_drop, List.length_reverse, sizeLine]; (first | lia | omega)) ?_
          refine args_sv rfl ?_
          refine ⟨by exact nb rfl, ?_⟩
          with_reducible refine ⟨_, _, rfl, ?_⟩
          with_reducible refine ex_nil ?_
          with_reducible refine And.intro rfl ?_
          have hov2 := hov fun t ht => by
            cases hr : rtB t with
            | false => rfl
            | true =>
              have : t ∈ tk.filter rtB := List.mem_filter.mpr ⟨ht, hr⟩
              rw [he] at this; cases this
          exact ⟨T ++ cs " 65536", OVk, _, hov2, by rw [List.length_append]; (first | lia | omega), rfl, by exact sub_lk rfl rfl⟩
        · refine o_eq_size (by (first | lia | omega)) (Lx.lst (l := (tk.filter rtB).map TK.v) bx_get).lists (Lx.fro (l := [])).lists (by rw [List.length_map]; exact fun q => he (List.eq_nil_of_length_eq_zero q)) ?_
          with_reducible refine bool_ex ?_
          with_reducible refine ite_ff ?_
          with_reducible refine ite_ff ?_
          with_reducible refine ex_nil ?_
          with_reducible refine And.intro rfl ?_
          exact ⟨B0, SNk, _, hbs, by exact Nat.le_trans (by assumption) (nb rfl), rfl, by exact sub_lk rfl rfl⟩
    · with_reducible refine ite_ff ?_
      with_reducible refine ex_nil ?_
      with_reducible refine And.intro rfl ?_
      exact ⟨B0, SNk, [], hbs, by exact Nat.le_trans (by assumption) (nb rfl), by rw [List.append_nil], by exact sub_lk rfl rfl⟩
  · rintro l _ ⟨B, kd, g', hB, hBl, rfl, sb⟩
    refine ExT.sub ?_ sb
    refine t_cons ?_
    refine' t_heard (hK ▸ be39 w) ?hfn ?hhcd ?hhb ?hhc ?hhl ?hhw ?hhe ?hhco ?hhgen ?hhk ?hg ?hkd ?hn ?hdef ?hclos ?hnf ?hbind ?hcell ?hco ?hgen ?hk ?hx ?hxc ?hxk ?hxl ?m ?he ?hm ?hy ?_
    case hg => rw [(by assumption : Ctx.K _ = KH _)]; k_is
    case hfn => rw [(by assumption : Ctx.K _ = KH _)]; k_is
    case hhcd => rw [(by assumption : Ctx.K _ = KH _)]; k_is
    case hhb => intro a; rfl
    case hhc => decide
    case hhl => rfl
    case hhw => rfl
    case hhe => rfl
    case hhco => rfl
    case hhgen => rfl
    case hhk => rfl
    case hkd => rfl
    case hn => (first | lia | omega)
    case hdef => rfl
    case hclos => rfl
    case hnf => rfl
    case hbind => intros; rfl
    case hcell => decide
    case hco => rfl
    case hgen => rfl
    case hk => rfl
    case hx => rfl
    case hxc => decide
    case hxk => rfl
    case hxl => rfl
    case m => exact (lk_mem rfl)
    case he => rfl
    case hm => rfl
    case hy => intro μ; refine ev_sv rfl ?_; exact ⟨rfl, rfl⟩
    intro L' f cdv C' hK' hn' hh'
    replace hK' := hK'.trans hK
    refine ev_call_def (by rw [(by assumption : Ctx.K _ = KH _)]; k_is) (by rw [(by assumption : Ctx.K _ = KH _)]; k_is) rfl (by decide) rfl ?_
    refine args_sv rfl ?_
    dsimp only
    refine c_tokens_of hK' (nle hn' hn rfl) (Nat.le_trans (by assumption) (nb rfl)) ?_
    rw [hB]
    try dsimp only
    intro g2
    refine ⟨rfl, fun c' => ?_⟩
    try dsimp only
    rw [List.append_assoc, List.append_assoc]
    have hOc : ∀ (b' : Bx) more, Lx (bx b' ++ (g ++ (g' ++ g2)) ++ more) (.lst j) (rowV (octs tk)) := fun b' more => by
      have := hOc b' ((g' ++ g2) ++ more)
      simpa only [List.append_assoc] using this
    generalize g ++ (g' ++ g2) = g3 at *
    -- many
    refine t_cons (t_lift ?_)
    refine ex_assign ?_ rfl rfl
    refine ev_call_def (by rw [(by assumption : Ctx.K _ = KH _)]; k_is) (by rw [(by assumption : Ctx.K _ = KH _)]; k_is) rfl (by decide) rfl ?_
    refine args_sv rfl ?_
    dsimp only
    refine c_take (m := 4) hK (by (first | lia | omega)) hb (nb rfl) ?_
    have hb1 := b.take_ok hb 4
    have hm4 := b.take_lt (m := 4) (nb rfl)
    generalize b.take 4 = fq at *
    obtain ⟨many, b1⟩ := fq
    dsimp only at hb1 hm4 ⊢
    refine t_cons (t_lift ?_)
    refine ex_assign1 ?_ (.inr ⟨rfl, L + 1 + 1 + 1, rfl, h3, law_ap rfl rfl⟩) rfl
    with_reducible refine ev_binop ?_
    refine ev_sv rfl ?_
    with_reducible refine ev_sub ?_
    dsimp only
    refine ev_lfro ?_
    refine args_cons' ?_ rfl
    refine ev_lslice0T ?_ (fun _ _ => rfl)
    refine ev_lfro ?_
    refine args_sv rfl ?_
    refine ⟨by exact nb rfl, ?_⟩
    with_reducible refine ev_binop ?_
    refine ev_sv rfl ?_
    refine ev_binop_r rfl ?_
    refine ev_sv rfl ?_
    refine o_mod_nn (b := 2) (by (first | lia | omega)) ?_
    with_reducible refine o_add_ii ?_
    refine ⟨[.int 1, .int 9], 1 + many % 2, Lx.fro.lists, by simp, by simp, ?_⟩
    with_reducible refine' args_cons' ?_ ?x1
    case x1 => rfl
    refine ev_lfro ?_
    refine args_sv rfl ?_
    refine ⟨by exact nb rfl, ?_⟩
    with_reducible refine' args_cons' ?_ ?x2
    case x2 => rfl
    refine ev_lfro ?_
    refine args_sv rfl ?_
    refine ⟨by exact nb rfl, ?_⟩
    with_reducible refine' args_cons' ?_ ?x3
    case x3 => rfl
    refine ev_lfro ?_
    refine args_sv rfl ?_
    refine ⟨by exact nb rfl, ?_⟩
    with_reducible refine' args_cons' ?_ ?x4
    case x4 => rfl
    refine ev_lfro ?_
    refine args_sv rfl ?_
    refine ⟨by exact nb rfl, ?_⟩
    with_reducible refine' args_cons' ?_ ?x5
    case x5 => rfl
    refine ev_lfro ?_
    refine args_sv rfl ?_
    refine ⟨by exact nb rfl, ?_⟩
    with_reducible refine' args_cons' ?_ ?x6
    case x6 => rfl
    refine ev_lfro ?_
    with_reducible refine' args_cons' ?_ ?x7
    case x7 => rfl
    refine ev_binop_r rfl ?_
    refine ev_sv rfl ?_
    with_reducible refine o_add_ii ?_
    refine args_sv rfl ?_
    refine ⟨by exact nb rfl, ?_⟩
    refine args_sv rfl ?_
    refine ⟨by exact nb rfl, ?_⟩
    refine ev_call_def (by rw [(by assumption : Ctx.K _ = KH _)]; k_is) (by rw [(by assumption : Ctx.K _ = KH _)]; k_is) rfl (by decide) rfl ?_
    refine args_sv rfl ?_
    refine c_take (m := 7) hK (by (first | lia | omega)) hb1 (nb rfl) ?_
    have hb2 := b1.take_ok hb1 7
    have hk7 := b1.take_lt (m := 7) (nb rfl)
    generalize b1.take 7 = fq at *
    obtain ⟨k, b2⟩ := fq
    dsimp only at hb2 hk7 ⊢
    obtain ⟨r, hr1, hr2, hr3⟩ := expandOne_bent k many hk7 hm4
    obtain ⟨hr4, hr5⟩ := bent_ok k many hk7 hm4 r hr1
    have e : ([V.fro (List.take (1 + many % 2) [V.int 1, V.int 9]), .fro [.int 2, .int 3, .int 65], .fro [.int 4], .fro [.int 9], .fro [.int 60], .fro [.int 200], .fro [.int (172 + (many : Int))]] : List V)[k]? = some (.fro (rowV r)) := by
      have : ([V.fro (List.take (1 + many % 2) [V.int 1, V.int 9]), .fro [.int 2, .int 3, .int 65], .fro [.int 4], .fro [.int 9], .fro [.int 60], .fro [.int 200], .fro [.int (172 + (many : Int))]] : List V) = ([([1, 9] : List Nat).take (1 + many % 2), [2, 3, 65], [4], [9], [60], [200], [172 + many]] : List (List Nat)).map fun r => .fro (rowV r) := by
        simp [rowV, List.map_take]
      rw [this, List.getElem?_map, hr1]; rfl
    refine o_item_Lj k Lx.fro rfl (Nat.lt_of_lt_of_le (by assumption) (nb rfl)) e ?_ (fun _ _ => rfl)
    have hgo : ∀ t ∈ tk, t.good := fun t m => (hdr t m).good2.1
    have hol := octs_len hgo
    have holt := octs_lt hgo
    have hbe := expand_bent hgo hr2 hr3
    refine o_add_L (by have := hOc b2 []; rwa [List.append_nil] at this) Lx.fro (by rw [rowV_len, rowV_len]; (first | lia | omega)) ?_
    rw [← rowV_app]
    have hrl : (octs tk ++ r).length ≤ 20000 := by rw [List.length_append]; (first | lia | omega)
    have hrt : ∀ c ∈ octs tk ++ r, c < 256 := fun c m => (List.mem_append.mp m).elim (holt c) (hr4 c)
    generalize octs tk ++ r = row at *
    clear e hr1 hr2 hr3 hr4 hr5 hOc holt hol
    try dsimp only
    refine t_cons ?_
    refine' t_heard (hK ▸ be39 w) ?hfn ?hhcd ?hhb ?hhc ?hhl ?hhw ?hhe ?hhco ?hhgen ?hhk ?hg ?hkd ?hn ?hdef ?hclos ?hnf ?hbind ?hcell ?hco ?hgen ?hk ?hx ?hxc ?hxk ?hxl ?m ?he ?hm ?hy ?_
    case hg => rw [(by assumption : Ctx.K _ = KH _)]; k_is
    case hfn => rw [(by assumption : Ctx.K _ = KH _)]; k_is
    case hhcd => rw [(by assumption : Ctx.K _ = KH _)]; k_is
    case hhb => intro a; rfl
    case hhc => decide
    case hhl => rfl
    case hhw => rfl
    case hhe => rfl
    case hhco => rfl
    case hhgen => rfl
    case hhk => rfl
    case hkd => rfl
    case hn => (first | lia | omega)
    case hdef => rfl
    case hclos => rfl
    case hnf => rfl
    case hbind => intros; rfl
    case hcell => decide
    case hco => rfl
    case hgen => rfl
    case hk => rfl
    case hx => rfl
    case hxc => decide
    case hxk => rfl
    case hxl => rfl
    case m => exact (lk_mem rfl)
    case he => rfl
    case hm => rfl
    case hy => intro μ; refine ev_sv rfl ?_; exact ⟨rfl, rfl⟩
    intro L2 f2 cdv2 C2 hK2 hn2 hh2
    replace hK2 := hK2.trans hK
    refine ev_call_def (by rw [(by assumption : Ctx.K _ = KH _)]; k_is) (by rw [(by assumption : Ctx.K _ = KH _)]; k_is) rfl (by decide) rfl ?_
    refine args_sv rfl ?_
    dsimp only
    refine c_expand hK2 (by (first | lia | omega)) Lx.fro hrl hrt ?_
    rw [hbe]
    dsimp only
    intro g5
    refine ⟨rfl, fun c2 => ?_⟩
    try dsimp only
    rw [List.append_assoc]
    generalize g3 ++ g5 = g6 at *
    -- typed
    refine t_cons (t_lift ?_)
    refine ex_assign ?_ rfl rfl
    with_reducible refine ev_sub ?_
    dsimp only
    refine ev_lfro ?_
    refine args_sv rfl ?_
    refine ⟨by exact nb rfl, ?_⟩
    refine ev_call_def (by rw [(by assumption : Ctx.K _ = KH _)]; k_is) (by rw [(by assumption : Ctx.K _ = KH _)]; k_is) rfl (by decide) rfl ?_
    refine args_sv rfl ?_
    refine c_take (m := 5) hK (by (first | lia | omega)) hb2 (nb rfl) ?_
    have hb3 := b2.take_ok hb2 5
    have hq5 := b2.take_lt (m := 5) (nb rfl)
    generalize b2.take 5 = fq at *
    obtain ⟨q, b3⟩ := fq
    dsimp only at hb3 hq5 ⊢
    refine o_item_L (l := TYP.map V.str) Lx.fro (Nat.lt_of_lt_of_le (by assumption) (nb rfl)) (str_get (by rw [show TYP.length = 5 by decide]; exact hq5)) ?_ (fun _ _ => rfl)
    try dsimp only
    refine ExT.sub (hBB b3 g6 q _ hq5) ?_
    exact sub_lk rfl rfl
theorem fillK18 (w : World) : PySem.Challenge.rw_nz0571_01 = PySem.Challenge.rw_nz0571_01 ∧ KH w.params = KH w.params := by
  k_fill
  exact ⟨rfl, rfl⟩
noncomputable def DUS : List (List Nat × V) := (TYP.zip DUE).map fun p => (p.1, .fro (p.2.map TK.v))
theorem typ_ok : ∀ q < 5, okIs (tokensOf (TYP.getD q [])) (DUE.getD q []) = true := by decide +kernel
theorem typ_len : ∀ q < 5, (TYP.getD q []).length ≤ 100 := by decide +kernel
theorem typ_lookup (q : Nat) (hq : q < 5) : DUS.lookup (TYP.getD q []) = some (.fro ((DUE.getD q []).map TK.v)) := by
  match q, hq with
  | 0, _ => rfl
  | 1, _ => rfl
  | 2, _ => rfl
  | 3, _ => rfl
  | 4, _ => rfl
set_option maxHeartbeats 1000000 in
theorem law_c {w : World} {C : Ctx} {oc : Value} {od : Option Addr} {osl : Array (Option Value)} {name qual : Str} {params : Arguments} {body : List Stmt} {scope : Scope} {dV kV doc pm : Value} {an : Option Addr} {cdv ct : Value}
    (hK : C.K = KH w.params) (hn : 10 ≤ C.n) (ho : C.K.lookup 246 = some ⟨oc, od, .func (fnOf name qual params body scope dV kV doc pm an cdv ct), osl⟩)
    {L fa : Addr} (hf : C.fs = [lawEnv scope L fa]) {b : Bx} {g : St} {q : Nat} {ps : Array Value} (hq5 : q < 5) :
    ExT PR w C (lawEnv scope L fa) (execs (body.drop 14) (lawEnv scope L fa)) ([("typed", .str (TYP.getD q []))] : Loc) (bx b ++ g) ps lawQ := by
  revert hf
  refine' law_from (P := fun body scope => C.fs = [lawEnv scope L fa] → ExT PR w C (lawEnv scope L fa) (execs (body.drop 14) (lawEnv scope L fa)) ([("typed", .str (TYP.getD q []))] : Loc) (bx b ++ g) ps lawQ) ?k1 ho ?_
  case k1 => rw [hK]; k_is
  intro hf
  unfold lawEnv at hf ⊢
  unfold fB246
  dsimp only [List.drop]
  have hty := okIs_eq (typ_ok q hq5)
  have htl := typ_len q hq5
  have hlk := typ_lookup q hq5
  generalize hTy : TYP.getD q [] = ty at *
  generalize DUE.getD q [] = du at *
  refine t_lift ?_
  with_reducible refine' ex_due ?k1 ?k2 ?k3 ?k4 ?k5 ?k6 ?k7 ?k8 ?_
  case k1 => rfl
  case k2 => rfl
  case k3 => exact List.cons_ne_nil _ _
  case k4 => exact Nat.le_of_ble_eq_true rfl
  case k5 => rfl
  case k6 => intro p m; rw [List.mem_singleton.mp m]; show ("typed" : Str) ≠ "due"; decide
  case k7 => decide
  case k8 => rfl
  with_reducible refine evp_cons ?_
  refine ev_sv rfl ?_
  refine ev_lfro ?_
  with_reducible refine' args_cons' ?_ ?x0
  case x0 => rfl
  with_reducible refine ev_tuple ?_
  refine args_sv rfl ?_
  refine ⟨by exact nb rfl, ?_⟩
  with_reducible refine' args_cons' ?_ ?x1
  case x1 => rfl
  with_reducible refine ev_tuple ?_
  refine args_sv rfl ?_
  refine ⟨by exact nb rfl, ?_⟩
  with_reducible refine' args_cons' ?_ ?x2
  case x2 => rfl
  with_reducible refine ev_tuple ?_
  refine args_sv rfl ?_
  refine ⟨by exact nb rfl, ?_⟩
  with_reducible refine' args_cons' ?_ ?x3
  case x3 => rfl
  with_reducible refine ev_tuple ?_
  refine args_sv rfl ?_
  refine ⟨by exact nb rfl, ?_⟩
  with_reducible refine' args_cons' ?_ ?x4
  case x4 => rfl
  with_reducible refine ev_tuple ?_
  refine args_sv rfl ?_
  refine ⟨by exact nb rfl, ?_⟩
  refine args_sv rfl ?_
  refine ⟨by exact nb rfl, ?_⟩
  with_reducible refine evp_cons ?_
  refine ev_sv rfl ?_
  refine ev_lfro ?_
  with_reducible refine' args_cons' ?_ ?x5
  case x5 => rfl
  with_reducible refine ev_tuple ?_
  refine args_sv rfl ?_
  refine ⟨by exact nb rfl, ?_⟩
  with_reducible refine' args_cons' ?_ ?x6
  case x6 => rfl
  with_reducible refine ev_tuple ?_
  refine args_sv rfl ?_
  refine ⟨by exact nb rfl, ?_⟩
  with_reducible refine' args_cons' ?_ ?x7
  case x7 => rfl
  with_reducible refine ev_tuple ?_
  refine args_sv rfl ?_
  refine ⟨by exact nb rfl, ?_⟩
  with_reducible refine' args_cons' ?_ ?x8
  case x8 => rfl
  with_reducible refine ev_tuple ?_
  refine args_sv rfl ?_
  refine ⟨by exact nb rfl, ?_⟩
  with_reducible refine' args_cons' ?_ ?x9
  case x9 => rfl
  with_reducible refine ev_tuple ?_
  refine args_sv rfl ?_
  refine ⟨by exact nb rfl, ?_⟩
  with_reducible refine' args_cons' ?_ ?x10
  case x10 => rfl
  with_reducible refine ev_tuple ?_
  refine args_sv rfl ?_
  refine ⟨by exact nb rfl, ?_⟩
  with_reducible refine' args_cons' ?_ ?x11
  case x11 => rfl
  with_reducible refine ev_tuple ?_
  refine args_sv rfl ?_
  refine ⟨by exact nb rfl, ?_⟩
  with_reducible refine' args_cons' ?_ ?x12
  case x12 => rfl
  with_reducible refine ev_tuple ?_
  refine args_sv rfl ?_
  refine ⟨by exact nb rfl, ?_⟩
  refine args_sv rfl ?_
  refine ⟨by exact nb rfl, ?_⟩
  with_reducible refine evp_cons ?_
  refine ev_sv rfl ?_
  refine ev_lfro ?_
  with_reducible refine' args_cons' ?_ ?x13
  case x13 => rfl
  with_reducible refine ev_tuple ?_
  refine args_sv rfl ?_
  refine ⟨by exact nb rfl, ?_⟩
  with_reducible refine' args_cons' ?_ ?x14
  case x14 => rfl
  with_reducible refine ev_tuple ?_
  refine args_sv rfl ?_
  refine ⟨by exact nb rfl, ?_⟩
  with_reducible refine' args_cons' ?_ ?x15
  case x15 => rfl
  with_reducible refine ev_tuple ?_
  refine args_sv rfl ?_
  refine ⟨by exact nb rfl, ?_⟩
  with_reducible refine' args_cons' ?_ ?x16
  case x16 => rfl
  with_reducible refine ev_tuple ?_
  refine args_sv rfl ?_
  refine ⟨by exact nb rfl, ?_⟩
  with_reducible refine' args_cons' ?_ ?x17
  case x17 => rfl
  with_reducible refine ev_tuple ?_
  refine args_sv rfl ?_
  refine ⟨by exact nb rfl, ?_⟩
  refine args_sv rfl ?_
  refine ⟨by exact nb rfl, ?_⟩
  with_reducible refine evp_cons ?_
  refine ev_sv rfl ?_
  refine ev_lfro ?_
  with_reducible refine' args_cons' ?_ ?x18
  case x18 => rfl
  with_reducible refine ev_tuple ?_
  refine args_sv rfl ?_
  refine ⟨by exact nb rfl, ?_⟩
  with_reducible refine' args_cons' ?_ ?x19
  case x19 => rfl
  with_reducible refine ev_tuple ?_
  refine args_sv rfl ?_
  refine ⟨by exact nb rfl, ?_⟩
  with_reducible refine' args_cons' ?_ ?x20
  case x20 => rfl
  with_reducible refine ev_tuple ?_
  refine args_sv rfl ?_
  refine ⟨by exact nb rfl, ?_⟩
  refine args_sv rfl ?_
  refine ⟨by exact nb rfl, ?_⟩
  with_reducible refine evp_cons ?_
  refine ev_sv rfl ?_
  refine ev_lfro ?_
  with_reducible refine' args_cons' ?_ ?x21
  case x21 => rfl
  with_reducible refine ev_tuple ?_
  refine args_sv rfl ?_
  refine ⟨by exact nb rfl, ?_⟩
  with_reducible refine' args_cons' ?_ ?x22
  case x22 => rfl
  with_reducible refine ev_tuple ?_
  refine args_sv rfl ?_
  refine ⟨by exact nb rfl, ?_⟩
  refine args_sv rfl ?_
  refine ⟨by exact nb rfl, ?_⟩
  with_reducible refine evp_nil ?_
  refine ⟨DUS, by rfl, by decide, by decide, ?_⟩
  refine ev_call_def (by rw [hK]; k_is) (by rw [hK]; k_is) rfl (by decide) rfl ?_
  refine args_sv rfl ?_
  refine c_tokens_of hK (by (first | lia | omega)) (Nat.le_trans (by assumption) (nb rfl)) ?_
  rw [hty]
  dsimp only
  intro g7
  refine ev_sv rfl ?_
  refine ⟨ty, _, rfl, hlk, ?_⟩
  exact o_eq_same (by (first | lia | omega)) (Lx.lst (l := du.map TK.v) (by simp)).lists Lx.fro.lists (all_dat du) rfl
theorem law_ex {w : World} {C : Ctx} {oc : Value} {od : Option Addr} {osl : Array (Option Value)} {name qual : Str} {params : Arguments} {body : List Stmt} {scope : Scope} {dV kV doc pm : Value} {an : Option Addr} {cdv ct : Value}
    (hK : C.K = KH w.params) (hn : 10 ≤ C.n) (ho : C.K.lookup 246 = some ⟨oc, od, .func (fnOf name qual params body scope dV kV doc pm an cdv ct), osl⟩)
    {L fa : Addr} {zs : List Int} (hz : zs.length ≤ 63) (hf : C.fs = [lawEnv scope L fa]) (h1 : C.h₀.get? (L + 1) = none) (h2 : C.h₀.get? (L + 1 + 1) = none) (h3 : C.h₀.get? (L + 1 + 1 + 1) = none) :
    ExT PR w C (lawEnv scope L fa) (execs body (lawEnv scope L fa)) [("script", .scr (zs.map V.int))] [] #[] lawQ := by
  refine law_a hK hn ho hz hf h1 h2 h3 fun tk T b g j fm hL => ?_
  have e : body.drop 7 = (body.drop 7).take 7 ++ body.drop 14 := by
    rw [show body.drop 14 = (body.drop 7).drop 7 by rw [List.drop_drop]]
    exact (List.take_append_drop 7 _).symm
  rw [e]
  exact law_b hK hn ho hf h1 h2 h3 hL fun b g q ps hq => law_c hK hn ho hf hq
theorem ints_rv {h : Heap} {ρ : List Addr} : ∀ {vs : List Value} {zs : List Int}, IntsAre vs zs → RVs h ρ vs (zs.map V.int)
  | [], _, .nil => .nil
  | _, _, .cons n t r => .cons (.int n t) (ints_rv r)
theorem law_top {w : World} {oc : Value} {od : Option Addr} {osl : Array (Option Value)} {name qual : Str} {params : Arguments} {body : List Stmt} {scope : Scope} {dV kV doc pm : Value} {an : Option Addr} {cdv ct : Value}
    (ho : (KH w.params).lookup 246 = some ⟨oc, od, .func (fnOf name qual params body scope dV kV doc pm an cdv ct), osl⟩)
    {h₀ h₁ : Heap} {s : Shared} {L fa : Addr} {zs : List Int} {vs : List Value} {la : Addr} {m : Str → Option Value} {p : Program} {loose : List Str} {mean : ExcName → Option Value} {mg mb : Str → Option Value} {o1 o2 o3 : Obj} {v1 v2 v3 : Option Value}
    (hs : s.heap = h₁) (X : (KH w.params).In h₀) (T : Top p loose mean mg mb h₀) (F : Fr h₀ L h₁ m) (hk : scope.kind = .function) (hscr : scope.names.lookup ("script" : Str) = some .local) (hm : m "script" = some (.ref la))
    (hl : h₀.IsList la vs.toArray) (hI : IntsAre vs zs) (hz : zs.length ≤ 63) (hcd : CodeHd h₀ 245 243)
    (N : News h₀ L h₁ [(L + 1 + 1 + 1, o3), (L + 1 + 1, o2), (L + 1, o1), (243, tabObj #[])]) (d1 : o1.data = .cell v1) (d2 : o2.data = .cell v2) (d3 : o3.data = .cell v3)
    (hcells : cellsFrom (L + 1) scope.names [] = [(("bent" : Str), L + 1 + 1 + 1), (("bad" : Str), L + 1 + 1), (("box" : Str), L + 1)])
    {P : Flow → Shared → Prop} {PE : Value → Shared → Prop}
    (hP : ∀ h' tk m', Fr h₀ L h' m' → (∃ ps, h'.get? 243 = some (tabObj ps)) → P (.ret (.bool true)) { s with heap := h', toks := tk }) :
    wpAny (model PR w) (callerA.deeper (lawEnv scope L fa)) (execs body (lawEnv scope L fa)) P PE s := by
  have fr0 : h₀.get? L = none := by
    cases hq : h₀.get? L with
    | none => rfl
    | some o => exact absurd (Nat.lt_of_lt_of_le (Heap.lt_size hq) F.above) (Nat.lt_irrefl _)
  have m3 := N _ (List.mem_cons_self (l := [(L + 1 + 1, o2), (L + 1, o1), (243, tabObj #[])]) (a := (L + 1 + 1 + 1, o3)))
  have m2 := N (L + 1 + 1, o2) (.tail _ (.head _))
  have m1 := N (L + 1, o1) (.tail _ (.tail _ (.head _)))
  have m0 := N (243, tabObj #[]) (.tail _ (.tail _ (.tail _ (.head _))))
  subst hs
  have hmain := law_ex (w := w) (C := ⟨KH w.params, h₀, [lawEnv scope L fa], 10⟩) rfl (Nat.le_refl _) ho (L := L) (fa := fa) (zs := zs) hz rfl m1.2.2 m2.2.2 m3.2.2
  refine hmain _ s [] ⟨X, ⟨_, _, _, _, _, T⟩, rfl, rfl, (by show (1 + claimMargin) + 1 + 10 < recursionLimit; decide), (by show 4 + 3 + 8 * 10 < cLine; decide)⟩ ⟨F.keep, ?_, List.nodup_nil, rfl, ?_, ?_⟩ ⟨hk, rfl, rfl, ⟨_, F.ns⟩, fr0, ?_, by simp, ?_⟩ ⟨hcd, rfl, m0.2.2, m0.1, trivial⟩ _ _ ?_
  · intro env me
    rw [List.mem_singleton.mp me]
    exact ⟨hk, L, m, rfl, fr0, F.ns⟩
  · intro i a l h; cases h
  · intro a h; cases h
  · intro c hc
    have hc' : c ∈ cellsFrom (L + 1) scope.names [] := hc
    rw [hcells] at hc'
    rcases List.mem_cons.mp hc' with rfl | hc'
    · exact ⟨v3, o3, m3.1, d3⟩
    rcases List.mem_cons.mp hc' with rfl | hc'
    · exact ⟨v2, o2, m2.1, d2⟩
    rw [List.mem_singleton.mp hc']
    exact ⟨v1, o1, m1.1, d1⟩
  · intro q hq
    rw [List.mem_singleton.mp hq]
    exact ⟨.ref la, .inl ⟨hscr, m, F.ns, hm⟩, .scr (let ⟨o, e1, e2, n, e3⟩ := hl; ⟨o, F.keep _ _ e1, e2, n, e3⟩) (by simp) (ints_rv hI)⟩
  · intro f Fv loc' μ' ps' ρ' h' tk rf q rl lc tb
    subst q
    cases rf with
    | ret r =>
      cases r
      obtain ⟨m', n'⟩ := lc.ns
      exact hP h' tk m' ⟨n', rl.stay, F.above⟩ ⟨ps', tb.here⟩
theorem fillK20 (w : World) : PySem.Challenge.rw_nz0571_01 = PySem.Challenge.rw_nz0571_01 ∧ KH w.params = KH w.params := by
  k_fill
  exact ⟨rfl, rfl⟩
set_option maxHeartbeats 8000000 in
theorem holds : PySem.Challenge.rw_nz0571_01.Holds := by
  w_on
  refine holds_law (by decide +kernel) fun said => ?_
  refine holds_open (q := view) (loose := loose) (Xt := fun s => xlAt view [] s && recOk (RowW.records PySem.Challenge.rw_nz0571_01.row.toRowW) s) (XP := XL view []) (Yf := Hook.obs HK) (Ya := Hook.val HK) (YP := Hook.says HK) (N := 2908) left (Hook.of HK) (Hook.keeps HK) (fun s e => xl_of s (Bool.and_eq_true_iff.mp e).1) XL.keeps (by rfl) (by rfl) (by rfl) (fun s e => recFacts_of (Bool.and_eq_true_iff.mp e).2) (by rfl) (by first | assumption | decide +kernel) (by decide +kernel) ⟨rfl, rfl, rfl, rfl, rfl, by decide +kernel⟩ ?hw ?hc
  case hw => w_witness2
  case hc =>
    clear said
    w_strict (
      k_go0
      rename_i w s₀ s₁ mg mb G Y fa o pm doc ho hg X V T B TE TW hcd zs hs hlay0 hL1 hr1 hl2 wa7 wa6 la vs wa3 hL ra w1 r0 hI hr hlen ht hD h₁ tk₁ ob3 ob2 ob1 d3 d2 d1 X0 X' T' K' F' N' l0
      refine' law_top (L := s₁.heap.objs.size) (fa := fa) ?ho rfl X' T' F' ?hk ?hscr ?hm lifted hI ?hz codeHd N' d1 d2 d3 ?hcells ?hP
      case ho => k_is
      case hk => rfl
      case hscr => rfl
      case hm => rfl
      case hz => (first | lia | omega)
      case hcells => rfl
      case hP =>
        intro h' tk m' hF hps
        refine ⟨goodW_bool hF hg (fun _ => rfl) ?_ rfl, hps, trivial⟩
        refine' postW_of ?kq1 ?kq2 ?kq3
        case kq1 => o_shape
        case kq2 => wtm_val
        case kq3 => w_fin)
end Mine
end

theorem PySem.Challenge.cw_nz0571_01_holds : PySem.Challenge.rw_nz0571_01.Holds := by
  exact Mine.holds
