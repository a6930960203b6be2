import PyProof.Rows.All
import Wide.All
import OpenK.AllK
import Wide.FinOn
import PyProof.ExcBaseAll.Exception
import PySem.Challenge.RW_on0185_01
set_option Elab.async false
set_option maxRecDepth 100000
set_option linter.all false
/- H2 -/
namespace Mine
open PySem PySem.W PySem.Calls PyProof.Rows
set_option maxHeartbeats 200000

/-- a def's parameters, suite and scope -/
def partsOf : Stmt → Option (Arguments × List Stmt × Scope)
  | .FunctionDef _ a b _ _ _ s _ _ _ => some (a, b, s)
  | _ => none
def fnAt (i : Nat) : Option (Arguments × List Stmt × Scope) := (PySem.Challenge.pw_on0185_01.main.body[i]?).bind partsOf
def meAt (i j : Nat) : Option (Arguments × List Stmt × Scope) := match PySem.Challenge.pw_on0185_01.main.body[i]? with
  | some (.ClassDef _ _ _ b _ _ _ _ _ _ _) => (b[j]?).bind partsOf
  | _ => none

/-- the objects that the top leaves and the law reaches; the defs' suites are read off the program -/
noncomputable def heap : Params → Frag := by
  refine (?f : ∀ (a38 : Arguments) (b38 : List Stmt) (s38 : Scope) (a45 : Arguments) (b45 : List Stmt) (s45 : Scope) (a52 : Arguments) (b52 : List Stmt) (s52 : Scope) (a59 : Arguments) (b59 : List Stmt) (s59 : Scope) (a66 : Arguments) (b66 : List Stmt) (s66 : Scope) (a80 : Arguments) (b80 : List Stmt) (s80 : Scope) (a118 : Arguments) (b118 : List Stmt) (s118 : Scope) (a125 : Arguments) (b125 : List Stmt) (s125 : Scope) (a132 : Arguments) (b132 : List Stmt) (s132 : Scope) (a139 : Arguments) (b139 : List Stmt) (s139 : Scope) (a160 : Arguments) (b160 : List Stmt) (s160 : Scope) (a168 : Arguments) (b168 : List Stmt) (s168 : Scope) (a175 : Arguments) (b175 : List Stmt) (s175 : Scope) (a182 : Arguments) (b182 : List Stmt) (s182 : Scope) (a189 : Arguments) (b189 : List Stmt) (s189 : Scope) (a196 : Arguments) (b196 : List Stmt) (s196 : Scope) (a203 : Arguments) (b203 : List Stmt) (s203 : Scope) (a210 : Arguments) (b210 : List Stmt) (s210 : Scope) (a217 : Arguments) (b217 : List Stmt) (s217 : Scope) (a224 : Arguments) (b224 : List Stmt) (s224 : Scope) (a231 : Arguments) (b231 : List Stmt) (s231 : Scope) (a238 : Arguments) (b238 : List Stmt) (s238 : Scope) (a245 : Arguments) (b245 : List Stmt) (s245 : Scope) (a252 : Arguments) (b252 : List Stmt) (s252 : Scope) (a259 : Arguments) (b259 : List Stmt) (s259 : Scope) (a273 : Arguments) (b273 : List Stmt) (s273 : Scope) (a280 : Arguments) (b280 : List Stmt) (s280 : Scope) (a287 : Arguments) (b287 : List Stmt) (s287 : Scope) (a294 : Arguments) (b294 : List Stmt) (s294 : Scope) (a301 : Arguments) (b301 : List Stmt) (s301 : Scope) (a308 : Arguments) (b308 : List Stmt) (s308 : Scope) (a315 : Arguments) (b315 : List Stmt) (s315 : Scope) (a322 : Arguments) (b322 : List Stmt) (s322 : Scope) (a329 : Arguments) (b329 : List Stmt) (s329 : Scope) (a336 : Arguments) (b336 : List Stmt) (s336 : Scope) (a343 : Arguments) (b343 : List Stmt) (s343 : Scope) (a348 : Arguments) (b348 : List Stmt) (s348 : Scope) (a353 : Arguments) (b353 : List Stmt) (s353 : Scope), fnAt 5 = some (a38, b38, s38) → fnAt 6 = some (a45, b45, s45) → fnAt 7 = some (a52, b52, s52) → fnAt 8 = some (a59, b59, s59) → fnAt 9 = some (a66, b66, s66) → meAt 11 0 = some (a80, b80, s80) → meAt 21 0 = some (a118, b118, s118) → meAt 21 1 = some (a125, b125, s125) → meAt 21 2 = some (a132, b132, s132) → meAt 21 3 = some (a139, b139, s139) → meAt 22 0 = some (a160, b160, s160) → meAt 22 1 = some (a168, b168, s168) → meAt 22 2 = some (a175, b175, s175) → meAt 22 3 = some (a182, b182, s182) → meAt 22 4 = some (a189, b189, s189) → meAt 22 5 = some (a196, b196, s196) → meAt 22 6 = some (a203, b203, s203) → meAt 22 7 = some (a210, b210, s210) → meAt 22 8 = some (a217, b217, s217) → meAt 22 9 = some (a224, b224, s224) → meAt 22 10 = some (a231, b231, s231) → meAt 22 11 = some (a238, b238, s238) → meAt 22 12 = some (a245, b245, s245) → meAt 22 13 = some (a252, b252, s252) → meAt 22 14 = some (a259, b259, s259) → fnAt 23 = some (a273, b273, s273) → fnAt 25 = some (a280, b280, s280) → fnAt 26 = some (a287, b287, s287) → fnAt 27 = some (a294, b294, s294) → fnAt 28 = some (a301, b301, s301) → fnAt 29 = some (a308, b308, s308) → fnAt 30 = some (a315, b315, s315) → fnAt 31 = some (a322, b322, s322) → fnAt 32 = some (a329, b329, s329) → fnAt 33 = some (a336, b336, s336) → fnAt 34 = some (a343, b343, s343) → fnAt 35 = some (a348, b348, s348) → fnAt 36 = some (a353, b353, s353) → Params → Frag) _ _ _ _ _ _ _ _ _ _ _ _ _ _ _ _ _ _ _ _ _ _ _ _ _ _ _ _ _ _ _ _ _ _ _ _ _ _ _ _ _ _ _ _ _ _ _ _ _ _ _ _ _ _ _ _ _ _ _ _ _ _ _ _ _ _ _ _ _ _ _ _ _ _ _ _ _ _ _ _ _ _ _ _ _ _ _ _ _ _ _ _ _ _ _ _ _ _ _ _ _ _ _ _ _ _ _ _ _ _ _ _ _ _ rfl rfl rfl rfl rfl rfl rfl rfl rfl rfl rfl rfl rfl rfl rfl rfl rfl rfl rfl rfl rfl rfl rfl rfl rfl rfl rfl rfl rfl rfl rfl rfl rfl rfl rfl rfl rfl rfl
  exact fun a38 b38 s38 a45 b45 s45 a52 b52 s52 a59 b59 s59 a66 b66 s66 a80 b80 s80 a118 b118 s118 a125 b125 s125 a132 b132 s132 a139 b139 s139 a160 b160 s160 a168 b168 s168 a175 b175 s175 a182 b182 s182 a189 b189 s189 a196 b196 s196 a203 b203 s203 a210 b210 s210 a217 b217 s217 a224 b224 s224 a231 b231 s231 a238 b238 s238 a245 b245 s245 a252 b252 s252 a259 b259 s259 a273 b273 s273 a280 b280 s280 a287 b287 s287 a294 b294 s294 a301 b301 s301 a308 b308 s308 a315 b315 s315 a322 b322 s322 a329 b329 s329 a336 b336 s336 a343 b343 s343 a348 b348 s348 a353 b353 s353 _ _ _ _ _ _ _ _ _ _ _ _ _ _ _ _ _ _ _ _ _ _ _ _ _ _ _ _ _ _ _ _ _ _ _ _ _ _ => fun P =>
(nat_lit 2, ⟨.none, none, .dict #[⟨PyData.keyHash P "type.__subclasses__.Exception.0", .str "type.__subclasses__.Exception.0" 290, .int 83 0⟩, ⟨PyData.keyHash P "type.__subclasses__.Exception.n", .str "type.__subclasses__.Exception.n" 291, .int 1 0⟩] 2, #[]⟩) ::
(nat_lit 3, ⟨.type "dict", none, .dict (List.toArray (⟨PyData.keyHash P "__name__", .str "__name__" 165, .str "law_on0185_01" 573⟩ :: ⟨PyData.keyHash P "__doc__", .str "__doc__" 166, .none⟩ :: ⟨PyData.keyHash P "__package__", .str "__package__" 167, .none⟩ :: ⟨PyData.keyHash P "__loader__", .str "__loader__" 168, .builtin "__main__.__loader__#opaque"⟩ :: ⟨PyData.keyHash P "__spec__", .str "__spec__" 169, .none⟩ :: ⟨PyData.keyHash P "__annotations__", .str "__annotations__" 170, .ref 6⟩ :: ⟨PyData.keyHash P "__builtins__", .str "__builtins__" 171, .ref 4⟩ :: ⟨PyData.keyHash P "__file__", .str "__file__" 173, .str "/claim/cut.py" 172⟩ :: ⟨PyData.keyHash P "__cached__", .str "__cached__" 174, .none⟩ :: ⟨PyData.keyHash P "SPACES", .str "SPACES" 190, .str " \t\n\x0d" 189⟩ :: ⟨PyData.keyHash P "START_RANGES", .str "START_RANGES" 215, .ref 27⟩ :: ⟨PyData.keyHash P "MORE_RANGES", .str "MORE_RANGES" 222, .ref 31⟩ :: ⟨PyData.keyHash P "FIRST_BEYOND", .str "FIRST_BEYOND" 224, .int 128 223⟩ :: ⟨PyData.keyHash P "is_in_ranges", .str "is_in_ranges" 234, .ref 38⟩ :: ⟨PyData.keyHash P "is_space", .str "is_space" 241, .ref 45⟩ :: ⟨PyData.keyHash P "is_small_letter", .str "is_small_letter" 248, .ref 52⟩ :: ⟨PyData.keyHash P "is_name_start", .str "is_name_start" 255, .ref 59⟩ :: ⟨PyData.keyHash P "is_name_char", .str "is_name_char" 262, .ref 66⟩ :: ⟨PyData.keyHash P "MarkupError", .str "MarkupError" 293, .ref 83⟩ :: ⟨PyData.keyHash P "PathFault", .str "PathFault" 309, .ref 96⟩ :: ⟨PyData.keyHash P "FIGURES", .str "FIGURES" 313, .str "0123456789" 312⟩ :: ⟨PyData.keyHash P "PAIRS", .str "PAIRS" 320, .ref 99⟩ :: ⟨PyData.keyHash P "OPERATORS", .str "OPERATORS" 332, .ref 100⟩ :: ⟨PyData.keyHash P "SIGNS", .str "SIGNS" 342, .ref 101⟩ :: ⟨PyData.keyHash P "WORD_OPERATORS", .str "WORD_OPERATORS" 347, .ref 102⟩ :: ⟨PyData.keyHash P "KINDS_OF_NODES", .str "KINDS_OF_NODES" 352, .ref 103⟩ :: ⟨PyData.keyHash P "BEHIND_NO_OPERAND", .str "BEHIND_NO_OPERAND" 358, .ref 104⟩ :: ⟨PyData.keyHash P "Word", .str "Word" 414, .ref 142⟩ :: ⟨PyData.keyHash P "PathScanner", .str "PathScanner" 565, .ref 262⟩ :: ⟨PyData.keyHash P "path_words", .str "path_words" 572, .ref 273⟩ :: ⟨PyData.keyHash P "_law_pool", .str "_law_pool" 585, .ref 280⟩ :: ⟨PyData.keyHash P "_law_take", .str "_law_take" 594, .ref 287⟩ :: ⟨PyData.keyHash P "_law_one", .str "_law_one" 602, .ref 294⟩ :: ⟨PyData.keyHash P "_law_name", .str "_law_name" 610, .ref 301⟩ :: ⟨PyData.keyHash P "_law_operand", .str "_law_operand" 619, .ref 308⟩ :: ⟨PyData.keyHash P "_law_behind", .str "_law_behind" 627, .ref 315⟩ :: ⟨PyData.keyHash P "_law_words", .str "_law_words" 638, .ref 322⟩ :: ⟨PyData.keyHash P "_law_written", .str "_law_written" 649, .ref 329⟩ :: ⟨PyData.keyHash P "_law_text", .str "_law_text" 663, .ref 336⟩ :: ⟨PyData.keyHash P "_law_refused", .str "_law_refused" 670, .ref 343⟩ :: ⟨PyData.keyHash P "_law_fixed_right", .str "_law_fixed_right" 676, .ref 348⟩ :: ⟨PyData.keyHash P "law", .str "law" 682, .ref 353⟩ :: [])) 42, #[]⟩) ::
(nat_lit 15, ⟨.type "tuple", none, .seq #[.int 192 191, .int 214 192] 0, #[]⟩) ::
(nat_lit 16, ⟨.type "tuple", none, .seq #[.int 216 193, .int 246 194] 0, #[]⟩) ::
(nat_lit 17, ⟨.type "tuple", none, .seq #[.int 248 195, .int 767 196] 0, #[]⟩) ::
(nat_lit 18, ⟨.type "tuple", none, .seq #[.int 880 197, .int 893 198] 0, #[]⟩) ::
(nat_lit 19, ⟨.type "tuple", none, .seq #[.int 895 199, .int 8191 200] 0, #[]⟩) ::
(nat_lit 20, ⟨.type "tuple", none, .seq #[.int 8204 201, .int 8205 202] 0, #[]⟩) ::
(nat_lit 21, ⟨.type "tuple", none, .seq #[.int 8304 203, .int 8591 204] 0, #[]⟩) ::
(nat_lit 22, ⟨.type "tuple", none, .seq #[.int 11264 205, .int 12271 206] 0, #[]⟩) ::
(nat_lit 23, ⟨.type "tuple", none, .seq #[.int 12289 207, .int 55295 208] 0, #[]⟩) ::
(nat_lit 24, ⟨.type "tuple", none, .seq #[.int 63744 209, .int 64975 210] 0, #[]⟩) ::
(nat_lit 25, ⟨.type "tuple", none, .seq #[.int 65008 211, .int 65533 212] 0, #[]⟩) ::
(nat_lit 26, ⟨.type "tuple", none, .seq #[.int 65536 213, .int 983039 214] 0, #[]⟩) ::
(nat_lit 27, ⟨.type "tuple", none, .seq #[.ref 15, .ref 16, .ref 17, .ref 18, .ref 19, .ref 20, .ref 21, .ref 22, .ref 23, .ref 24, .ref 25, .ref 26] 0, #[]⟩) ::
(nat_lit 28, ⟨.type "tuple", none, .seq #[.int 183 216, .int 183 217] 0, #[]⟩) ::
(nat_lit 29, ⟨.type "tuple", none, .seq #[.int 768 218, .int 879 219] 0, #[]⟩) ::
(nat_lit 30, ⟨.type "tuple", none, .seq #[.int 8255 220, .int 8256 221] 0, #[]⟩) ::
(nat_lit 31, ⟨.type "tuple", none, .seq #[.ref 28, .ref 29, .ref 30] 0, #[]⟩) ::
(nat_lit 32, ⟨.type "tuple", none, .seq #[] 0, #[]⟩) ::
(nat_lit 34, ⟨.type "tuple", none, .seq #[.str "code" 228, .str "ranges" 229, .str "low" 230, .str "high" 231] 0, #[]⟩) ::
(nat_lit 35, ⟨.type "tuple", none, .seq #[] 0, #[]⟩) ::
(nat_lit 37, ⟨.type "code", none, .fields #[.str "is_in_ranges" 225, .str "is_in_ranges" 226, .str "/claim/cut.py" 227, .int 6 0, .int 2 0, .int 0 0, .int 0 0, .int 3 0, .ref 32, .bool true, .int 181 0, .ref 33, .none, .ref 34, .ref 35, .ref 36, .int 232 0, .int 6 0, .str "/claim/cut.py" 233], #[]⟩) ::
(nat_lit 38, ⟨.type "function", none, .func ⟨"is_in_ranges", "is_in_ranges", a38, .stmts b38, s38, 3, [], .none, .none, .none, .str "markupmill.chars" 187, none, .ref 37, .none, 0⟩, #[]⟩) ::
(nat_lit 39, ⟨.type "tuple", none, .seq #[] 0, #[]⟩) ::
(nat_lit 41, ⟨.type "tuple", none, .seq #[.str "sign" 238] 0, #[]⟩) ::
(nat_lit 42, ⟨.type "tuple", none, .seq #[] 0, #[]⟩) ::
(nat_lit 44, ⟨.type "code", none, .fields #[.str "is_space" 235, .str "is_space" 236, .str "/claim/cut.py" 237, .int 13 0, .int 1 0, .int 0 0, .int 0 0, .int 3 0, .ref 39, .bool true, .int 181 0, .ref 40, .none, .ref 41, .ref 42, .ref 43, .int 239 0, .int 13 0, .str "/claim/cut.py" 240], #[]⟩) ::
(nat_lit 45, ⟨.type "function", none, .func ⟨"is_space", "is_space", a45, .stmts b45, s45, 3, [], .none, .none, .none, .str "markupmill.chars" 187, none, .ref 44, .none, 0⟩, #[]⟩) ::
(nat_lit 46, ⟨.type "tuple", none, .seq #[] 0, #[]⟩) ::
(nat_lit 48, ⟨.type "tuple", none, .seq #[.str "sign" 245] 0, #[]⟩) ::
(nat_lit 49, ⟨.type "tuple", none, .seq #[] 0, #[]⟩) ::
(nat_lit 51, ⟨.type "code", none, .fields #[.str "is_small_letter" 242, .str "is_small_letter" 243, .str "/claim/cut.py" 244, .int 15 0, .int 1 0, .int 0 0, .int 0 0, .int 3 0, .ref 46, .bool true, .int 181 0, .ref 47, .none, .ref 48, .ref 49, .ref 50, .int 246 0, .int 15 0, .str "/claim/cut.py" 247], #[]⟩) ::
(nat_lit 52, ⟨.type "function", none, .func ⟨"is_small_letter", "is_small_letter", a52, .stmts b52, s52, 3, [], .none, .none, .none, .str "markupmill.chars" 187, none, .ref 51, .none, 0⟩, #[]⟩) ::
(nat_lit 53, ⟨.type "tuple", none, .seq #[] 0, #[]⟩) ::
(nat_lit 55, ⟨.type "tuple", none, .seq #[.str "sign" 252] 0, #[]⟩) ::
(nat_lit 56, ⟨.type "tuple", none, .seq #[] 0, #[]⟩) ::
(nat_lit 58, ⟨.type "code", none, .fields #[.str "is_name_start" 249, .str "is_name_start" 250, .str "/claim/cut.py" 251, .int 17 0, .int 1 0, .int 0 0, .int 0 0, .int 3 0, .ref 53, .bool true, .int 181 0, .ref 54, .none, .ref 55, .ref 56, .ref 57, .int 253 0, .int 17 0, .str "/claim/cut.py" 254], #[]⟩) ::
(nat_lit 59, ⟨.type "function", none, .func ⟨"is_name_start", "is_name_start", a59, .stmts b59, s59, 3, [], .none, .none, .none, .str "markupmill.chars" 187, none, .ref 58, .none, 0⟩, #[]⟩) ::
(nat_lit 60, ⟨.type "tuple", none, .seq #[] 0, #[]⟩) ::
(nat_lit 62, ⟨.type "tuple", none, .seq #[.str "sign" 259] 0, #[]⟩) ::
(nat_lit 63, ⟨.type "tuple", none, .seq #[] 0, #[]⟩) ::
(nat_lit 65, ⟨.type "code", none, .fields #[.str "is_name_char" 256, .str "is_name_char" 257, .str "/claim/cut.py" 258, .int 21 0, .int 1 0, .int 0 0, .int 0 0, .int 3 0, .ref 60, .bool true, .int 181 0, .ref 61, .none, .ref 62, .ref 63, .ref 64, .int 260 0, .int 21 0, .str "/claim/cut.py" 261], #[]⟩) ::
(nat_lit 66, ⟨.type "function", none, .func ⟨"is_name_char", "is_name_char", a66, .stmts b66, s66, 3, [], .none, .none, .none, .str "markupmill.chars" 187, none, .ref 65, .none, 0⟩, #[]⟩) ::
(nat_lit 67, ⟨.type "tuple", none, .seq #[.type "Exception"] 0, #[]⟩) ::
(nat_lit 74, ⟨.type "tuple", none, .seq #[] 0, #[]⟩) ::
(nat_lit 76, ⟨.type "tuple", none, .seq #[.str "self" 280, .str "message" 281] 0, #[]⟩) ::
(nat_lit 77, ⟨.type "tuple", none, .seq #[] 0, #[]⟩) ::
(nat_lit 79, ⟨.type "code", none, .fields #[.str "__init__" 277, .str "MarkupError.__init__" 278, .str "/claim/cut.py" 279, .int 30 0, .int 2 0, .int 0 0, .int 0 0, .int 3 0, .ref 74, .bool true, .int 181 0, .ref 75, .none, .ref 76, .ref 77, .ref 78, .int 282 0, .int 30 0, .str "/claim/cut.py" 283], #[]⟩) ::
(nat_lit 80, ⟨.type "function", none, .func ⟨"__init__", "MarkupError.__init__", a80, .stmts b80, s80, 3, [], .none, .none, .none, .str "markupmill.errors" 263, none, .ref 79, .none, 0⟩, #[]⟩) ::
(nat_lit 81, ⟨.type "tuple", none, .seq #[.str "message" 285] 0, #[]⟩) ::
(nat_lit 82, ⟨.type "dict", none, .dict #[⟨PyData.keyHash P "__module__", .str "__module__" 272, .str "markupmill.errors" 263⟩, ⟨PyData.keyHash P "__firstlineno__", .str "__firstlineno__" 276, .int 28 275⟩, ⟨PyData.keyHash P "__init__", .str "__init__" 284, .ref 80⟩, ⟨PyData.keyHash P "__static_attributes__", .str "__static_attributes__" 286, .ref 81⟩, ⟨PyData.keyHash P "__weakref__", .str "__weakref__" 288, .ref 84⟩, ⟨PyData.keyHash P "__doc__", .str "__doc__" 289, .none⟩] 3, #[]⟩) ::
(nat_lit 83, ⟨.type "type", none, .cls ⟨"MarkupError", [.type "Exception"], [.ref 83, .type "Exception", .type "BaseException", .type "object"], 82, "MarkupError", true, [], [.ref 96], false, none, false⟩, #[some (.ref 67), none, some (.str "MarkupError" 265), some (.str "MarkupError" 273), some (.builtin "Exception.__new__"), some (.bool true)]⟩) ::
(nat_lit 84, ⟨.type "getset_descriptor", none, .fields #[.str "__weakref__" 287, .ref 83, .builtin "ExceptionGroup.__weakref__", .none], #[]⟩) ::
(nat_lit 87, ⟨.type "tuple", none, .seq #[.ref 83] 0, #[]⟩) ::
(nat_lit 94, ⟨.type "tuple", none, .seq #[] 0, #[]⟩) ::
(nat_lit 95, ⟨.type "dict", none, .dict #[⟨PyData.keyHash P "__module__", .str "__module__" 301, .str "markupmill.errors" 263⟩, ⟨PyData.keyHash P "__firstlineno__", .str "__firstlineno__" 305, .int 33 304⟩, ⟨PyData.keyHash P "__static_attributes__", .str "__static_attributes__" 306, .ref 94⟩, ⟨PyData.keyHash P "__doc__", .str "__doc__" 307, .none⟩] 2, #[]⟩) ::
(nat_lit 96, ⟨.type "type", none, .cls ⟨"PathFault", [.ref 83], [.ref 96, .ref 83, .type "Exception", .type "BaseException", .type "object"], 95, "PathFault", true, [], [], false, none, false⟩, #[some (.ref 87), none, some (.str "PathFault" 294), some (.str "PathFault" 302), some (.builtin "Exception.__new__"), some (.bool true)]⟩) ::
(nat_lit 99, ⟨.type "tuple", none, .seq #[.str "//" 314, .str "!=" 315, .str "<=" 316, .str ">=" 317, .str ".." 318, .str "::" 319] 0, #[]⟩) ::
(nat_lit 100, ⟨.type "tuple", none, .seq #[.str "/" 321, .str "//" 322, .str "|" 323, .str "+" 324, .str "-" 325, .str "=" 326, .str "!=" 327, .str "<" 328, .str "<=" 329, .str ">" 330, .str ">=" 331] 0, #[]⟩) ::
(nat_lit 101, ⟨.type "tuple", none, .seq #[.str "(" 333, .str ")" 334, .str "[" 335, .str "]" 336, .str "." 337, .str ".." 338, .str "@" 339, .str "," 340, .str "::" 341] 0, #[]⟩) ::
(nat_lit 102, ⟨.type "tuple", none, .seq #[.str "and" 343, .str "or" 344, .str "mod" 345, .str "div" 346] 0, #[]⟩) ::
(nat_lit 103, ⟨.type "tuple", none, .seq #[.str "comment" 348, .str "text" 349, .str "processing-instruction" 350, .str "node" 351] 0, #[]⟩) ::
(nat_lit 104, ⟨.type "tuple", none, .seq #[.str "@" 353, .str "::" 354, .str "(" 355, .str "[" 356, .str "," 357] 0, #[]⟩) ::
(nat_lit 112, ⟨.type "tuple", none, .seq #[] 0, #[]⟩) ::
(nat_lit 114, ⟨.type "tuple", none, .seq #[.str "self" 374, .str "kind" 375, .str "text" 376, .str "place" 377] 0, #[]⟩) ::
(nat_lit 115, ⟨.type "tuple", none, .seq #[] 0, #[]⟩) ::
(nat_lit 117, ⟨.type "code", none, .fields #[.str "__init__" 371, .str "Word.__init__" 372, .str "/claim/cut.py" 373, .int 45 0, .int 4 0, .int 0 0, .int 0 0, .int 3 0, .ref 112, .bool true, .int 181 0, .ref 113, .none, .ref 114, .ref 115, .ref 116, .int 378 0, .int 45 0, .str "/claim/cut.py" 379], #[]⟩) ::
(nat_lit 118, ⟨.type "function", none, .func ⟨"__init__", "Word.__init__", a118, .stmts b118, s118, 3, [], .none, .none, .none, .str "markupmill.xpath_words" 310, none, .ref 117, .none, 0⟩, #[]⟩) ::
(nat_lit 119, ⟨.type "tuple", none, .seq #[] 0, #[]⟩) ::
(nat_lit 121, ⟨.type "tuple", none, .seq #[.str "self" 384, .str "text" 385] 0, #[]⟩) ::
(nat_lit 122, ⟨.type "tuple", none, .seq #[] 0, #[]⟩) ::
(nat_lit 124, ⟨.type "code", none, .fields #[.str "is_sign" 381, .str "Word.is_sign" 382, .str "/claim/cut.py" 383, .int 50 0, .int 2 0, .int 0 0, .int 0 0, .int 3 0, .ref 119, .bool true, .int 181 0, .ref 120, .none, .ref 121, .ref 122, .ref 123, .int 386 0, .int 50 0, .str "/claim/cut.py" 387], #[]⟩) ::
(nat_lit 125, ⟨.type "function", none, .func ⟨"is_sign", "Word.is_sign", a125, .stmts b125, s125, 3, [], .none, .none, .none, .str "markupmill.xpath_words" 310, none, .ref 124, .none, 0⟩, #[]⟩) ::
(nat_lit 126, ⟨.type "tuple", none, .seq #[] 0, #[]⟩) ::
(nat_lit 128, ⟨.type "tuple", none, .seq #[.str "self" 392, .str "text" 393] 0, #[]⟩) ::
(nat_lit 129, ⟨.type "tuple", none, .seq #[] 0, #[]⟩) ::
(nat_lit 131, ⟨.type "code", none, .fields #[.str "is_operator" 389, .str "Word.is_operator" 390, .str "/claim/cut.py" 391, .int 53 0, .int 2 0, .int 0 0, .int 0 0, .int 3 0, .ref 126, .bool true, .int 181 0, .ref 127, .none, .ref 128, .ref 129, .ref 130, .int 394 0, .int 53 0, .str "/claim/cut.py" 395], #[]⟩) ::
(nat_lit 132, ⟨.type "function", none, .func ⟨"is_operator", "Word.is_operator", a132, .stmts b132, s132, 3, [], .none, .none, .none, .str "markupmill.xpath_words" 310, none, .ref 131, .none, 0⟩, #[]⟩) ::
(nat_lit 133, ⟨.type "tuple", none, .seq #[] 0, #[]⟩) ::
(nat_lit 135, ⟨.type "tuple", none, .seq #[.str "self" 400] 0, #[]⟩) ::
(nat_lit 136, ⟨.type "tuple", none, .seq #[] 0, #[]⟩) ::
(nat_lit 138, ⟨.type "code", none, .fields #[.str "row" 397, .str "Word.row" 398, .str "/claim/cut.py" 399, .int 56 0, .int 1 0, .int 0 0, .int 0 0, .int 3 0, .ref 133, .bool true, .int 181 0, .ref 134, .none, .ref 135, .ref 136, .ref 137, .int 401 0, .int 56 0, .str "/claim/cut.py" 402], #[]⟩) ::
(nat_lit 139, ⟨.type "function", none, .func ⟨"row", "Word.row", a139, .stmts b139, s139, 3, [], .none, .none, .none, .str "markupmill.xpath_words" 310, none, .ref 138, .none, 0⟩, #[]⟩) ::
(nat_lit 140, ⟨.type "tuple", none, .seq #[.str "kind" 404, .str "place" 405, .str "text" 406] 0, #[]⟩) ::
(nat_lit 141, ⟨.type "dict", none, .dict #[⟨PyData.keyHash P "__module__", .str "__module__" 366, .str "markupmill.xpath_words" 310⟩, ⟨PyData.keyHash P "__firstlineno__", .str "__firstlineno__" 370, .int 43 369⟩, ⟨PyData.keyHash P "__init__", .str "__init__" 380, .ref 118⟩, ⟨PyData.keyHash P "is_sign", .str "is_sign" 388, .ref 125⟩, ⟨PyData.keyHash P "is_operator", .str "is_operator" 396, .ref 132⟩, ⟨PyData.keyHash P "row", .str "row" 403, .ref 139⟩, ⟨PyData.keyHash P "__static_attributes__", .str "__static_attributes__" 407, .ref 140⟩, ⟨PyData.keyHash P "__dict__", .str "__dict__" 409, .ref 143⟩, ⟨PyData.keyHash P "__weakref__", .str "__weakref__" 411, .ref 144⟩, ⟨PyData.keyHash P "__doc__", .str "__doc__" 412, .none⟩] 4, #[]⟩) ::
(nat_lit 142, ⟨.type "type", none, .cls ⟨"Word", [.type "object"], [.ref 142, .type "object"], 141, "Word", true, [], [], false, none, false⟩, #[none, none, some (.str "Word" 359), some (.str "Word" 367), some (.builtin "object.__new__"), some (.bool true)]⟩) ::
(nat_lit 143, ⟨.type "getset_descriptor", none, .fields #[.str "__dict__" 408, .ref 142, .builtin "function.__dict__", .builtin "function.__dict__#set"], #[]⟩) ::
(nat_lit 144, ⟨.type "getset_descriptor", none, .fields #[.str "__weakref__" 410, .ref 142, .builtin "ExceptionGroup.__weakref__", .none], #[]⟩) ::
(nat_lit 154, ⟨.type "tuple", none, .seq #[] 0, #[]⟩) ::
(nat_lit 156, ⟨.type "tuple", none, .seq #[.str "self" 430, .str "text" 431] 0, #[]⟩) ::
(nat_lit 157, ⟨.type "tuple", none, .seq #[] 0, #[]⟩) ::
(nat_lit 159, ⟨.type "code", none, .fields #[.str "__init__" 427, .str "PathScanner.__init__" 428, .str "/claim/cut.py" 429, .int 60 0, .int 2 0, .int 0 0, .int 0 0, .int 3 0, .ref 154, .bool true, .int 181 0, .ref 155, .none, .ref 156, .ref 157, .ref 158, .int 432 0, .int 60 0, .str "/claim/cut.py" 433], #[]⟩) ::
(nat_lit 160, ⟨.type "function", none, .func ⟨"__init__", "PathScanner.__init__", a160, .stmts b160, s160, 3, [], .none, .none, .none, .str "markupmill.xpath_words" 310, none, .ref 159, .none, 0⟩, #[]⟩) ::
(nat_lit 161, ⟨.type "tuple", none, .seq #[.int 0 435] 0, #[]⟩) ::
(nat_lit 162, ⟨.type "tuple", none, .seq #[] 0, #[]⟩) ::
(nat_lit 164, ⟨.type "tuple", none, .seq #[.str "self" 439, .str "ahead" 440, .str "place" 441] 0, #[]⟩) ::
(nat_lit 165, ⟨.type "tuple", none, .seq #[] 0, #[]⟩) ::
(nat_lit 167, ⟨.type "code", none, .fields #[.str "sign" 436, .str "PathScanner.sign" 437, .str "/claim/cut.py" 438, .int 65 0, .int 2 0, .int 0 0, .int 0 0, .int 3 0, .ref 162, .bool true, .int 181 0, .ref 163, .none, .ref 164, .ref 165, .ref 166, .int 442 0, .int 65 0, .str "/claim/cut.py" 443], #[]⟩) ::
(nat_lit 168, ⟨.type "function", none, .func ⟨"sign", "PathScanner.sign", a168, .stmts b168, s168, 3, [], .ref 161, .none, .none, .str "markupmill.xpath_words" 310, none, .ref 167, .none, 0⟩, #[]⟩) ::
(nat_lit 169, ⟨.type "tuple", none, .seq #[] 0, #[]⟩) ::
(nat_lit 171, ⟨.type "tuple", none, .seq #[.str "self" 448, .str "kind" 449, .str "text" 450, .str "begin" 451] 0, #[]⟩) ::
(nat_lit 172, ⟨.type "tuple", none, .seq #[] 0, #[]⟩) ::
(nat_lit 174, ⟨.type "code", none, .fields #[.str "add" 445, .str "PathScanner.add" 446, .str "/claim/cut.py" 447, .int 69 0, .int 4 0, .int 0 0, .int 0 0, .int 3 0, .ref 169, .bool true, .int 181 0, .ref 170, .none, .ref 171, .ref 172, .ref 173, .int 452 0, .int 69 0, .str "/claim/cut.py" 453], #[]⟩) ::
(nat_lit 175, ⟨.type "function", none, .func ⟨"add", "PathScanner.add", a175, .stmts b175, s175, 3, [], .none, .none, .none, .str "markupmill.xpath_words" 310, none, .ref 174, .none, 0⟩, #[]⟩) ::
(nat_lit 176, ⟨.type "tuple", none, .seq #[] 0, #[]⟩) ::
(nat_lit 178, ⟨.type "tuple", none, .seq #[.str "self" 458] 0, #[]⟩) ::
(nat_lit 179, ⟨.type "tuple", none, .seq #[] 0, #[]⟩) ::
(nat_lit 181, ⟨.type "code", none, .fields #[.str "run" 455, .str "PathScanner.run" 456, .str "/claim/cut.py" 457, .int 72 0, .int 1 0, .int 0 0, .int 0 0, .int 3 0, .ref 176, .bool true, .int 181 0, .ref 177, .none, .ref 178, .ref 179, .ref 180, .int 459 0, .int 72 0, .str "/claim/cut.py" 460], #[]⟩) ::
(nat_lit 182, ⟨.type "function", none, .func ⟨"run", "PathScanner.run", a182, .stmts b182, s182, 3, [], .none, .none, .none, .str "markupmill.xpath_words" 310, none, .ref 181, .none, 0⟩, #[]⟩) ::
(nat_lit 183, ⟨.type "tuple", none, .seq #[] 0, #[]⟩) ::
(nat_lit 185, ⟨.type "tuple", none, .seq #[.str "self" 465] 0, #[]⟩) ::
(nat_lit 186, ⟨.type "tuple", none, .seq #[] 0, #[]⟩) ::
(nat_lit 188, ⟨.type "code", none, .fields #[.str "skip" 462, .str "PathScanner.skip" 463, .str "/claim/cut.py" 464, .int 80 0, .int 1 0, .int 0 0, .int 0 0, .int 3 0, .ref 183, .bool true, .int 181 0, .ref 184, .none, .ref 185, .ref 186, .ref 187, .int 466 0, .int 80 0, .str "/claim/cut.py" 467], #[]⟩) ::
(nat_lit 189, ⟨.type "function", none, .func ⟨"skip", "PathScanner.skip", a189, .stmts b189, s189, 3, [], .none, .none, .none, .str "markupmill.xpath_words" 310, none, .ref 188, .none, 0⟩, #[]⟩) ::
(nat_lit 190, ⟨.type "tuple", none, .seq #[] 0, #[]⟩) ::
(nat_lit 192, ⟨.type "tuple", none, .seq #[.str "self" 472, .str "word" 473] 0, #[]⟩) ::
(nat_lit 193, ⟨.type "tuple", none, .seq #[] 0, #[]⟩) ::
(nat_lit 195, ⟨.type "code", none, .fields #[.str "is_behind_operand" 469, .str "PathScanner.is_behind_operand" 470, .str "/claim/cut.py" 471, .int 84 0, .int 1 0, .int 0 0, .int 0 0, .int 3 0, .ref 190, .bool true, .int 181 0, .ref 191, .none, .ref 192, .ref 193, .ref 194, .int 474 0, .int 84 0, .str "/claim/cut.py" 475], #[]⟩) ::
(nat_lit 196, ⟨.type "function", none, .func ⟨"is_behind_operand", "PathScanner.is_behind_operand", a196, .stmts b196, s196, 3, [], .none, .none, .none, .str "markupmill.xpath_words" 310, none, .ref 195, .none, 0⟩, #[]⟩) ::
(nat_lit 197, ⟨.type "tuple", none, .seq #[] 0, #[]⟩) ::
(nat_lit 199, ⟨.type "tuple", none, .seq #[.str "self" 480, .str "sign" 481] 0, #[]⟩) ::
(nat_lit 200, ⟨.type "tuple", none, .seq #[] 0, #[]⟩) ::
(nat_lit 202, ⟨.type "code", none, .fields #[.str "step" 477, .str "PathScanner.step" 478, .str "/claim/cut.py" 479, .int 92 0, .int 1 0, .int 0 0, .int 0 0, .int 3 0, .ref 197, .bool true, .int 181 0, .ref 198, .none, .ref 199, .ref 200, .ref 201, .int 482 0, .int 92 0, .str "/claim/cut.py" 483], #[]⟩) ::
(nat_lit 203, ⟨.type "function", none, .func ⟨"step", "PathScanner.step", a203, .stmts b203, s203, 3, [], .none, .none, .none, .str "markupmill.xpath_words" 310, none, .ref 202, .none, 0⟩, #[]⟩) ::
(nat_lit 204, ⟨.type "tuple", none, .seq #[] 0, #[]⟩) ::
(nat_lit 206, ⟨.type "tuple", none, .seq #[.str "self" 488, .str "begin" 489] 0, #[]⟩) ::
(nat_lit 207, ⟨.type "tuple", none, .seq #[] 0, #[]⟩) ::
(nat_lit 209, ⟨.type "code", none, .fields #[.str "number" 485, .str "PathScanner.number" 486, .str "/claim/cut.py" 487, .int 108 0, .int 1 0, .int 0 0, .int 0 0, .int 3 0, .ref 204, .bool true, .int 181 0, .ref 205, .none, .ref 206, .ref 207, .ref 208, .int 490 0, .int 108 0, .str "/claim/cut.py" 491], #[]⟩) ::
(nat_lit 210, ⟨.type "function", none, .func ⟨"number", "PathScanner.number", a210, .stmts b210, s210, 3, [], .none, .none, .none, .str "markupmill.xpath_words" 310, none, .ref 209, .none, 0⟩, #[]⟩) ::
(nat_lit 211, ⟨.type "tuple", none, .seq #[] 0, #[]⟩) ::
(nat_lit 213, ⟨.type "tuple", none, .seq #[.str "self" 496] 0, #[]⟩) ::
(nat_lit 214, ⟨.type "tuple", none, .seq #[] 0, #[]⟩) ::
(nat_lit 216, ⟨.type "code", none, .fields #[.str "figures" 493, .str "PathScanner.figures" 494, .str "/claim/cut.py" 495, .int 116 0, .int 1 0, .int 0 0, .int 0 0, .int 3 0, .ref 211, .bool true, .int 181 0, .ref 212, .none, .ref 213, .ref 214, .ref 215, .int 497 0, .int 116 0, .str "/claim/cut.py" 498], #[]⟩) ::
(nat_lit 217, ⟨.type "function", none, .func ⟨"figures", "PathScanner.figures", a217, .stmts b217, s217, 3, [], .none, .none, .none, .str "markupmill.xpath_words" 310, none, .ref 216, .none, 0⟩, #[]⟩) ::
(nat_lit 218, ⟨.type "tuple", none, .seq #[] 0, #[]⟩) ::
(nat_lit 220, ⟨.type "tuple", none, .seq #[.str "self" 503, .str "quote" 504, .str "begin" 505, .str "end" 506] 0, #[]⟩) ::
(nat_lit 221, ⟨.type "tuple", none, .seq #[] 0, #[]⟩) ::
(nat_lit 223, ⟨.type "code", none, .fields #[.str "literal" 500, .str "PathScanner.literal" 501, .str "/claim/cut.py" 502, .int 120 0, .int 2 0, .int 0 0, .int 0 0, .int 3 0, .ref 218, .bool true, .int 181 0, .ref 219, .none, .ref 220, .ref 221, .ref 222, .int 507 0, .int 120 0, .str "/claim/cut.py" 508], #[]⟩) ::
(nat_lit 224, ⟨.type "function", none, .func ⟨"literal", "PathScanner.literal", a224, .stmts b224, s224, 3, [], .none, .none, .none, .str "markupmill.xpath_words" 310, none, .ref 223, .none, 0⟩, #[]⟩) ::
(nat_lit 225, ⟨.type "tuple", none, .seq #[] 0, #[]⟩) ::
(nat_lit 227, ⟨.type "tuple", none, .seq #[.str "self" 513, .str "begin" 514, .str "name" 515] 0, #[]⟩) ::
(nat_lit 228, ⟨.type "tuple", none, .seq #[] 0, #[]⟩) ::
(nat_lit 230, ⟨.type "code", none, .fields #[.str "variable" 510, .str "PathScanner.variable" 511, .str "/claim/cut.py" 512, .int 128 0, .int 1 0, .int 0 0, .int 0 0, .int 3 0, .ref 225, .bool true, .int 181 0, .ref 226, .none, .ref 227, .ref 228, .ref 229, .int 516 0, .int 128 0, .str "/claim/cut.py" 517], #[]⟩) ::
(nat_lit 231, ⟨.type "function", none, .func ⟨"variable", "PathScanner.variable", a231, .stmts b231, s231, 3, [], .none, .none, .none, .str "markupmill.xpath_words" 310, none, .ref 230, .none, 0⟩, #[]⟩) ::
(nat_lit 232, ⟨.type "tuple", none, .seq #[] 0, #[]⟩) ::
(nat_lit 234, ⟨.type "tuple", none, .seq #[.str "self" 522, .str "begin" 523] 0, #[]⟩) ::
(nat_lit 235, ⟨.type "tuple", none, .seq #[] 0, #[]⟩) ::
(nat_lit 237, ⟨.type "code", none, .fields #[.str "plain_name" 519, .str "PathScanner.plain_name" 520, .str "/claim/cut.py" 521, .int 136 0, .int 1 0, .int 0 0, .int 0 0, .int 3 0, .ref 232, .bool true, .int 181 0, .ref 233, .none, .ref 234, .ref 235, .ref 236, .int 524 0, .int 136 0, .str "/claim/cut.py" 525], #[]⟩) ::
(nat_lit 238, ⟨.type "function", none, .func ⟨"plain_name", "PathScanner.plain_name", a238, .stmts b238, s238, 3, [], .none, .none, .none, .str "markupmill.xpath_words" 310, none, .ref 237, .none, 0⟩, #[]⟩) ::
(nat_lit 239, ⟨.type "tuple", none, .seq #[] 0, #[]⟩) ::
(nat_lit 241, ⟨.type "tuple", none, .seq #[.str "self" 530, .str "first" 531, .str "second" 532] 0, #[]⟩) ::
(nat_lit 242, ⟨.type "tuple", none, .seq #[] 0, #[]⟩) ::
(nat_lit 244, ⟨.type "code", none, .fields #[.str "qualified" 527, .str "PathScanner.qualified" 528, .str "/claim/cut.py" 529, .int 144 0, .int 1 0, .int 0 0, .int 0 0, .int 3 0, .ref 239, .bool true, .int 181 0, .ref 240, .none, .ref 241, .ref 242, .ref 243, .int 533 0, .int 144 0, .str "/claim/cut.py" 534], #[]⟩) ::
(nat_lit 245, ⟨.type "function", none, .func ⟨"qualified", "PathScanner.qualified", a245, .stmts b245, s245, 3, [], .none, .none, .none, .str "markupmill.xpath_words" 310, none, .ref 244, .none, 0⟩, #[]⟩) ::
(nat_lit 246, ⟨.type "tuple", none, .seq #[] 0, #[]⟩) ::
(nat_lit 248, ⟨.type "tuple", none, .seq #[.str "self" 539, .str "begin" 540, .str "word" 541, .str "behind" 542] 0, #[]⟩) ::
(nat_lit 249, ⟨.type "tuple", none, .seq #[] 0, #[]⟩) ::
(nat_lit 251, ⟨.type "code", none, .fields #[.str "name" 536, .str "PathScanner.name" 537, .str "/claim/cut.py" 538, .int 157 0, .int 1 0, .int 0 0, .int 0 0, .int 3 0, .ref 246, .bool true, .int 181 0, .ref 247, .none, .ref 248, .ref 249, .ref 250, .int 543 0, .int 157 0, .str "/claim/cut.py" 544], #[]⟩) ::
(nat_lit 252, ⟨.type "function", none, .func ⟨"name", "PathScanner.name", a252, .stmts b252, s252, 3, [], .none, .none, .none, .str "markupmill.xpath_words" 310, none, .ref 251, .none, 0⟩, #[]⟩) ::
(nat_lit 253, ⟨.type "tuple", none, .seq #[] 0, #[]⟩) ::
(nat_lit 255, ⟨.type "tuple", none, .seq #[.str "self" 549, .str "begin" 550, .str "text" 551] 0, #[]⟩) ::
(nat_lit 256, ⟨.type "tuple", none, .seq #[] 0, #[]⟩) ::
(nat_lit 258, ⟨.type "code", none, .fields #[.str "mark" 546, .str "PathScanner.mark" 547, .str "/claim/cut.py" 548, .int 176 0, .int 1 0, .int 0 0, .int 0 0, .int 3 0, .ref 253, .bool true, .int 181 0, .ref 254, .none, .ref 255, .ref 256, .ref 257, .int 552 0, .int 176 0, .str "/claim/cut.py" 553], #[]⟩) ::
(nat_lit 259, ⟨.type "function", none, .func ⟨"mark", "PathScanner.mark", a259, .stmts b259, s259, 3, [], .none, .none, .none, .str "markupmill.xpath_words" 310, none, .ref 258, .none, 0⟩, #[]⟩) ::
(nat_lit 260, ⟨.type "tuple", none, .seq #[.str "at" 555, .str "found" 556, .str "text" 557] 0, #[]⟩) ::
(nat_lit 261, ⟨.type "dict", none, .dict #[⟨PyData.keyHash P "__module__", .str "__module__" 422, .str "markupmill.xpath_words" 310⟩, ⟨PyData.keyHash P "__firstlineno__", .str "__firstlineno__" 426, .int 58 425⟩, ⟨PyData.keyHash P "__init__", .str "__init__" 434, .ref 160⟩, ⟨PyData.keyHash P "sign", .str "sign" 444, .ref 168⟩, ⟨PyData.keyHash P "add", .str "add" 454, .ref 175⟩, ⟨PyData.keyHash P "run", .str "run" 461, .ref 182⟩, ⟨PyData.keyHash P "skip", .str "skip" 468, .ref 189⟩, ⟨PyData.keyHash P "is_behind_operand", .str "is_behind_operand" 476, .ref 196⟩, ⟨PyData.keyHash P "step", .str "step" 484, .ref 203⟩, ⟨PyData.keyHash P "number", .str "number" 492, .ref 210⟩, ⟨PyData.keyHash P "figures", .str "figures" 499, .ref 217⟩, ⟨PyData.keyHash P "literal", .str "literal" 509, .ref 224⟩, ⟨PyData.keyHash P "variable", .str "variable" 518, .ref 231⟩, ⟨PyData.keyHash P "plain_name", .str "plain_name" 526, .ref 238⟩, ⟨PyData.keyHash P "qualified", .str "qualified" 535, .ref 245⟩, ⟨PyData.keyHash P "name", .str "name" 545, .ref 252⟩, ⟨PyData.keyHash P "mark", .str "mark" 554, .ref 259⟩, ⟨PyData.keyHash P "__static_attributes__", .str "__static_attributes__" 558, .ref 260⟩, ⟨PyData.keyHash P "__dict__", .str "__dict__" 560, .ref 263⟩, ⟨PyData.keyHash P "__weakref__", .str "__weakref__" 562, .ref 264⟩, ⟨PyData.keyHash P "__doc__", .str "__doc__" 563, .none⟩] 4, #[]⟩) ::
(nat_lit 262, ⟨.type "type", none, .cls ⟨"PathScanner", [.type "object"], [.ref 262, .type "object"], 261, "PathScanner", true, [], [], false, none, false⟩, #[none, none, some (.str "PathScanner" 415), some (.str "PathScanner" 423), some (.builtin "object.__new__"), some (.bool true)]⟩) ::
(nat_lit 263, ⟨.type "getset_descriptor", none, .fields #[.str "__dict__" 559, .ref 262, .builtin "function.__dict__", .builtin "function.__dict__#set"], #[]⟩) ::
(nat_lit 264, ⟨.type "getset_descriptor", none, .fields #[.str "__weakref__" 561, .ref 262, .builtin "ExceptionGroup.__weakref__", .none], #[]⟩) ::
(nat_lit 267, ⟨.type "tuple", none, .seq #[] 0, #[]⟩) ::
(nat_lit 269, ⟨.type "tuple", none, .seq #[.str "text" 569] 0, #[]⟩) ::
(nat_lit 270, ⟨.type "tuple", none, .seq #[] 0, #[]⟩) ::
(nat_lit 272, ⟨.type "code", none, .fields #[.str "path_words" 566, .str "path_words" 567, .str "/claim/cut.py" 568, .int 188 0, .int 1 0, .int 0 0, .int 0 0, .int 3 0, .ref 267, .bool true, .int 181 0, .ref 268, .none, .ref 269, .ref 270, .ref 271, .int 570 0, .int 188 0, .str "/claim/cut.py" 571], #[]⟩) ::
(nat_lit 273, ⟨.type "function", none, .func ⟨"path_words", "path_words", a273, .stmts b273, s273, 3, [], .none, .none, .none, .str "markupmill.xpath_words" 310, none, .ref 272, .none, 0⟩, #[]⟩) ::
(nat_lit 274, ⟨.type "tuple", none, .seq #[] 0, #[]⟩) ::
(nat_lit 276, ⟨.type "tuple", none, .seq #[.str "script" 578, .str "k" 579, .str "cell" 580, .str "big" 581, .str "mixed" 582] 0, #[]⟩) ::
(nat_lit 277, ⟨.type "tuple", none, .seq #[] 0, #[]⟩) ::
(nat_lit 279, ⟨.type "code", none, .fields #[.str "_law_pool" 575, .str "_law_pool" 576, .str "/claim/cut.py" 577, .int 191 0, .int 2 0, .int 0 0, .int 0 0, .int 3 0, .ref 274, .bool true, .int 181 0, .ref 275, .none, .ref 276, .ref 277, .ref 278, .int 583 0, .int 191 0, .str "/claim/cut.py" 584], #[]⟩) ::
(nat_lit 280, ⟨.type "function", none, .func ⟨"_law_pool", "_law_pool", a280, .stmts b280, s280, 3, [], .none, .none, .none, .str "law_on0185_01" 573, none, .ref 279, .none, 0⟩, #[]⟩) ::
(nat_lit 281, ⟨.type "tuple", none, .seq #[] 0, #[]⟩) ::
(nat_lit 283, ⟨.type "tuple", none, .seq #[.str "source" 589, .str "top" 590, .str "drawn" 591] 0, #[]⟩) ::
(nat_lit 284, ⟨.type "tuple", none, .seq #[] 0, #[]⟩) ::
(nat_lit 286, ⟨.type "code", none, .fields #[.str "_law_take" 586, .str "_law_take" 587, .str "/claim/cut.py" 588, .int 198 0, .int 2 0, .int 0 0, .int 0 0, .int 3 0, .ref 281, .bool true, .int 181 0, .ref 282, .none, .ref 283, .ref 284, .ref 285, .int 592 0, .int 198 0, .str "/claim/cut.py" 593], #[]⟩) ::
(nat_lit 287, ⟨.type "function", none, .func ⟨"_law_take", "_law_take", a287, .stmts b287, s287, 3, [], .none, .none, .none, .str "law_on0185_01" 573, none, .ref 286, .none, 0⟩, #[]⟩) ::
(nat_lit 288, ⟨.type "tuple", none, .seq #[] 0, #[]⟩) ::
(nat_lit 290, ⟨.type "tuple", none, .seq #[.str "source" 598, .str "things" 599] 0, #[]⟩) ::
(nat_lit 291, ⟨.type "tuple", none, .seq #[] 0, #[]⟩) ::
(nat_lit 293, ⟨.type "code", none, .fields #[.str "_law_one" 595, .str "_law_one" 596, .str "/claim/cut.py" 597, .int 205 0, .int 2 0, .int 0 0, .int 0 0, .int 3 0, .ref 288, .bool true, .int 181 0, .ref 289, .none, .ref 290, .ref 291, .ref 292, .int 600 0, .int 205 0, .str "/claim/cut.py" 601], #[]⟩) ::
(nat_lit 294, ⟨.type "function", none, .func ⟨"_law_one", "_law_one", a294, .stmts b294, s294, 3, [], .none, .none, .none, .str "law_on0185_01" 573, none, .ref 293, .none, 0⟩, #[]⟩) ::
(nat_lit 295, ⟨.type "tuple", none, .seq #[] 0, #[]⟩) ::
(nat_lit 297, ⟨.type "tuple", none, .seq #[.str "source" 606, .str "first" 607] 0, #[]⟩) ::
(nat_lit 298, ⟨.type "tuple", none, .seq #[] 0, #[]⟩) ::
(nat_lit 300, ⟨.type "code", none, .fields #[.str "_law_name" 603, .str "_law_name" 604, .str "/claim/cut.py" 605, .int 207 0, .int 1 0, .int 0 0, .int 0 0, .int 3 0, .ref 295, .bool true, .int 181 0, .ref 296, .none, .ref 297, .ref 298, .ref 299, .int 608 0, .int 207 0, .str "/claim/cut.py" 609], #[]⟩) ::
(nat_lit 301, ⟨.type "function", none, .func ⟨"_law_name", "_law_name", a301, .stmts b301, s301, 3, [], .none, .none, .none, .str "law_on0185_01" 573, none, .ref 300, .none, 0⟩, #[]⟩) ::
(nat_lit 302, ⟨.type "tuple", none, .seq #[] 0, #[]⟩) ::
(nat_lit 304, ⟨.type "tuple", none, .seq #[.str "source" 614, .str "way" 615, .str "kind" 616] 0, #[]⟩) ::
(nat_lit 305, ⟨.type "tuple", none, .seq #[] 0, #[]⟩) ::
(nat_lit 307, ⟨.type "code", none, .fields #[.str "_law_operand" 611, .str "_law_operand" 612, .str "/claim/cut.py" 613, .int 210 0, .int 1 0, .int 0 0, .int 0 0, .int 3 0, .ref 302, .bool true, .int 181 0, .ref 303, .none, .ref 304, .ref 305, .ref 306, .int 617 0, .int 210 0, .str "/claim/cut.py" 618], #[]⟩) ::
(nat_lit 308, ⟨.type "function", none, .func ⟨"_law_operand", "_law_operand", a308, .stmts b308, s308, 3, [], .none, .none, .none, .str "law_on0185_01" 573, none, .ref 307, .none, 0⟩, #[]⟩) ::
(nat_lit 309, ⟨.type "tuple", none, .seq #[] 0, #[]⟩) ::
(nat_lit 311, ⟨.type "tuple", none, .seq #[.str "source" 623, .str "way" 624] 0, #[]⟩) ::
(nat_lit 312, ⟨.type "tuple", none, .seq #[] 0, #[]⟩) ::
(nat_lit 314, ⟨.type "code", none, .fields #[.str "_law_behind" 620, .str "_law_behind" 621, .str "/claim/cut.py" 622, .int 234 0, .int 1 0, .int 0 0, .int 0 0, .int 3 0, .ref 309, .bool true, .int 181 0, .ref 310, .none, .ref 311, .ref 312, .ref 313, .int 625 0, .int 234 0, .str "/claim/cut.py" 626], #[]⟩) ::
(nat_lit 315, ⟨.type "function", none, .func ⟨"_law_behind", "_law_behind", a315, .stmts b315, s315, 3, [], .none, .none, .none, .str "law_on0185_01" 573, none, .ref 314, .none, 0⟩, #[]⟩) ::
(nat_lit 316, ⟨.type "tuple", none, .seq #[] 0, #[]⟩) ::
(nat_lit 318, ⟨.type "tuple", none, .seq #[.str "source" 631, .str "found" 632, .str "is_behind" 633, .str "turn" 634, .str "more" 635] 0, #[]⟩) ::
(nat_lit 319, ⟨.type "tuple", none, .seq #[] 0, #[]⟩) ::
(nat_lit 321, ⟨.type "code", none, .fields #[.str "_law_words" 628, .str "_law_words" 629, .str "/claim/cut.py" 630, .int 245 0, .int 1 0, .int 0 0, .int 0 0, .int 3 0, .ref 316, .bool true, .int 181 0, .ref 317, .none, .ref 318, .ref 319, .ref 320, .int 636 0, .int 245 0, .str "/claim/cut.py" 637], #[]⟩) ::
(nat_lit 322, ⟨.type "function", none, .func ⟨"_law_words", "_law_words", a322, .stmts b322, s322, 3, [], .none, .none, .none, .str "law_on0185_01" 573, none, .ref 321, .none, 0⟩, #[]⟩) ::
(nat_lit 323, ⟨.type "tuple", none, .seq #[] 0, #[]⟩) ::
(nat_lit 325, ⟨.type "tuple", none, .seq #[.str "source" 642, .str "word" 643, .str "kind" 644, .str "text" 645, .str "quote" 646] 0, #[]⟩) ::
(nat_lit 326, ⟨.type "tuple", none, .seq #[] 0, #[]⟩) ::
(nat_lit 328, ⟨.type "code", none, .fields #[.str "_law_written" 639, .str "_law_written" 640, .str "/claim/cut.py" 641, .int 251 0, .int 2 0, .int 0 0, .int 0 0, .int 3 0, .ref 323, .bool true, .int 181 0, .ref 324, .none, .ref 325, .ref 326, .ref 327, .int 647 0, .int 251 0, .str "/claim/cut.py" 648], #[]⟩) ::
(nat_lit 329, ⟨.type "function", none, .func ⟨"_law_written", "_law_written", a329, .stmts b329, s329, 3, [], .none, .none, .none, .str "law_on0185_01" 573, none, .ref 328, .none, 0⟩, #[]⟩) ::
(nat_lit 330, ⟨.type "tuple", none, .seq #[] 0, #[]⟩) ::
(nat_lit 332, ⟨.type "tuple", none, .seq #[.str "source" 653, .str "words" 654, .str "text" 655, .str "rows" 656, .str "ahead" 657, .str "word" 658, .str "gap" 659, .str "is_bare" 660] 0, #[]⟩) ::
(nat_lit 333, ⟨.type "tuple", none, .seq #[] 0, #[]⟩) ::
(nat_lit 335, ⟨.type "code", none, .fields #[.str "_law_text" 650, .str "_law_text" 651, .str "/claim/cut.py" 652, .int 259 0, .int 2 0, .int 0 0, .int 0 0, .int 3 0, .ref 330, .bool true, .int 181 0, .ref 331, .none, .ref 332, .ref 333, .ref 334, .int 661 0, .int 259 0, .str "/claim/cut.py" 662], #[]⟩) ::
(nat_lit 336, ⟨.type "function", none, .func ⟨"_law_text", "_law_text", a336, .stmts b336, s336, 3, [], .none, .none, .none, .str "law_on0185_01" 573, none, .ref 335, .none, 0⟩, #[]⟩) ::
(nat_lit 337, ⟨.type "tuple", none, .seq #[] 0, #[]⟩) ::
(nat_lit 339, ⟨.type "tuple", none, .seq #[.str "text" 667] 0, #[]⟩) ::
(nat_lit 340, ⟨.type "tuple", none, .seq #[] 0, #[]⟩) ::
(nat_lit 342, ⟨.type "code", none, .fields #[.str "_law_refused" 664, .str "_law_refused" 665, .str "/claim/cut.py" 666, .int 271 0, .int 1 0, .int 0 0, .int 0 0, .int 3 0, .ref 337, .bool true, .int 181 0, .ref 338, .none, .ref 339, .ref 340, .ref 341, .int 668 0, .int 271 0, .str "/claim/cut.py" 669], #[]⟩) ::
(nat_lit 343, ⟨.type "function", none, .func ⟨"_law_refused", "_law_refused", a343, .stmts b343, s343, 3, [], .none, .none, .none, .str "law_on0185_01" 573, none, .ref 342, .none, 0⟩, #[]⟩) ::
(nat_lit 344, ⟨.type "tuple", none, .seq #[] 0, #[]⟩) ::
(nat_lit 347, ⟨.type "code", none, .fields #[.str "_law_fixed_right" 671, .str "_law_fixed_right" 672, .str "/claim/cut.py" 673, .int 277 0, .int 0 0, .int 0 0, .int 0 0, .int 3 0, .ref 344, .bool true, .int 181 0, .ref 345, .none, .none, .none, .ref 346, .int 674 0, .int 277 0, .str "/claim/cut.py" 675], #[]⟩) ::
(nat_lit 348, ⟨.type "function", none, .func ⟨"_law_fixed_right", "_law_fixed_right", a348, .stmts b348, s348, 3, [], .none, .none, .none, .str "law_on0185_01" 573, none, .ref 347, .none, 0⟩, #[]⟩) ::
(nat_lit 349, ⟨.type "tuple", none, .seq #[] 0, #[]⟩) ::
(nat_lit 352, ⟨.type "code", none, .fields #[.str "law" 677, .str "law" 678, .str "/claim/cut.py" 679, .int 284 0, .int 1 0, .int 0 0, .int 0 0, .int 3 0, .ref 349, .bool true, .int 181 0, .ref 350, .none, .none, .none, .ref 351, .int 680 0, .int 284 0, .str "/claim/cut.py" 681], #[]⟩) ::
(nat_lit 353, ⟨.type "function", none, .func ⟨"law", "law", a353, .stmts b353, s353, 3, [], .none, .none, .none, .str "law_on0185_01" 573, none, .ref 352, .none, 0⟩, #[]⟩) ::
[]
/-- the other objects that the top leaves -/
noncomputable def rest : Params → Frag := by
  refine (?f : ∀ (a36 : Arguments) (b36 : List Stmt) (s36 : Scope) (a43 : Arguments) (b43 : List Stmt) (s43 : Scope) (a50 : Arguments) (b50 : List Stmt) (s50 : Scope) (a57 : Arguments) (b57 : List Stmt) (s57 : Scope) (a64 : Arguments) (b64 : List Stmt) (s64 : Scope) (a78 : Arguments) (b78 : List Stmt) (s78 : Scope) (a116 : Arguments) (b116 : List Stmt) (s116 : Scope) (a123 : Arguments) (b123 : List Stmt) (s123 : Scope) (a130 : Arguments) (b130 : List Stmt) (s130 : Scope) (a137 : Arguments) (b137 : List Stmt) (s137 : Scope) (a158 : Arguments) (b158 : List Stmt) (s158 : Scope) (a166 : Arguments) (b166 : List Stmt) (s166 : Scope) (a173 : Arguments) (b173 : List Stmt) (s173 : Scope) (a180 : Arguments) (b180 : List Stmt) (s180 : Scope) (a187 : Arguments) (b187 : List Stmt) (s187 : Scope) (a194 : Arguments) (b194 : List Stmt) (s194 : Scope) (a201 : Arguments) (b201 : List Stmt) (s201 : Scope) (a208 : Arguments) (b208 : List Stmt) (s208 : Scope) (a215 : Arguments) (b215 : List Stmt) (s215 : Scope) (a222 : Arguments) (b222 : List Stmt) (s222 : Scope) (a229 : Arguments) (b229 : List Stmt) (s229 : Scope) (a236 : Arguments) (b236 : List Stmt) (s236 : Scope) (a243 : Arguments) (b243 : List Stmt) (s243 : Scope) (a250 : Arguments) (b250 : List Stmt) (s250 : Scope) (a257 : Arguments) (b257 : List Stmt) (s257 : Scope) (a271 : Arguments) (b271 : List Stmt) (s271 : Scope) (a278 : Arguments) (b278 : List Stmt) (s278 : Scope) (a285 : Arguments) (b285 : List Stmt) (s285 : Scope) (a292 : Arguments) (b292 : List Stmt) (s292 : Scope) (a299 : Arguments) (b299 : List Stmt) (s299 : Scope) (a306 : Arguments) (b306 : List Stmt) (s306 : Scope) (a313 : Arguments) (b313 : List Stmt) (s313 : Scope) (a320 : Arguments) (b320 : List Stmt) (s320 : Scope) (a327 : Arguments) (b327 : List Stmt) (s327 : Scope) (a334 : Arguments) (b334 : List Stmt) (s334 : Scope) (a341 : Arguments) (b341 : List Stmt) (s341 : Scope) (a346 : Arguments) (b346 : List Stmt) (s346 : Scope) (a351 : Arguments) (b351 : List Stmt) (s351 : Scope), fnAt 5 = some (a36, b36, s36) → fnAt 6 = some (a43, b43, s43) → fnAt 7 = some (a50, b50, s50) → fnAt 8 = some (a57, b57, s57) → fnAt 9 = some (a64, b64, s64) → meAt 11 0 = some (a78, b78, s78) → meAt 21 0 = some (a116, b116, s116) → meAt 21 1 = some (a123, b123, s123) → meAt 21 2 = some (a130, b130, s130) → meAt 21 3 = some (a137, b137, s137) → meAt 22 0 = some (a158, b158, s158) → meAt 22 1 = some (a166, b166, s166) → meAt 22 2 = some (a173, b173, s173) → meAt 22 3 = some (a180, b180, s180) → meAt 22 4 = some (a187, b187, s187) → meAt 22 5 = some (a194, b194, s194) → meAt 22 6 = some (a201, b201, s201) → meAt 22 7 = some (a208, b208, s208) → meAt 22 8 = some (a215, b215, s215) → meAt 22 9 = some (a222, b222, s222) → meAt 22 10 = some (a229, b229, s229) → meAt 22 11 = some (a236, b236, s236) → meAt 22 12 = some (a243, b243, s243) → meAt 22 13 = some (a250, b250, s250) → meAt 22 14 = some (a257, b257, s257) → fnAt 23 = some (a271, b271, s271) → fnAt 25 = some (a278, b278, s278) → fnAt 26 = some (a285, b285, s285) → fnAt 27 = some (a292, b292, s292) → fnAt 28 = some (a299, b299, s299) → fnAt 29 = some (a306, b306, s306) → fnAt 30 = some (a313, b313, s313) → fnAt 31 = some (a320, b320, s320) → fnAt 32 = some (a327, b327, s327) → fnAt 33 = some (a334, b334, s334) → fnAt 34 = some (a341, b341, s341) → fnAt 35 = some (a346, b346, s346) → fnAt 36 = some (a351, b351, s351) → Params → Frag) _ _ _ _ _ _ _ _ _ _ _ _ _ _ _ _ _ _ _ _ _ _ _ _ _ _ _ _ _ _ _ _ _ _ _ _ _ _ _ _ _ _ _ _ _ _ _ _ _ _ _ _ _ _ _ _ _ _ _ _ _ _ _ _ _ _ _ _ _ _ _ _ _ _ _ _ _ _ _ _ _ _ _ _ _ _ _ _ _ _ _ _ _ _ _ _ _ _ _ _ _ _ _ _ _ _ _ _ _ _ _ _ _ _ rfl rfl rfl rfl rfl rfl rfl rfl rfl rfl rfl rfl rfl rfl rfl rfl rfl rfl rfl rfl rfl rfl rfl rfl rfl rfl rfl rfl rfl rfl rfl rfl rfl rfl rfl rfl rfl rfl
  exact fun a36 b36 s36 a43 b43 s43 a50 b50 s50 a57 b57 s57 a64 b64 s64 a78 b78 s78 a116 b116 s116 a123 b123 s123 a130 b130 s130 a137 b137 s137 a158 b158 s158 a166 b166 s166 a173 b173 s173 a180 b180 s180 a187 b187 s187 a194 b194 s194 a201 b201 s201 a208 b208 s208 a215 b215 s215 a222 b222 s222 a229 b229 s229 a236 b236 s236 a243 b243 s243 a250 b250 s250 a257 b257 s257 a271 b271 s271 a278 b278 s278 a285 b285 s285 a292 b292 s292 a299 b299 s299 a306 b306 s306 a313 b313 s313 a320 b320 s320 a327 b327 s327 a334 b334 s334 a341 b341 s341 a346 b346 s346 a351 b351 s351 _ _ _ _ _ _ _ _ _ _ _ _ _ _ _ _ _ _ _ _ _ _ _ _ _ _ _ _ _ _ _ _ _ _ _ _ _ _ => fun P =>
(0, boot_o_0 P) ::
(1, boot_o_1 P) ::
(4, boot_o_4 P) ::
(5, boot_o_5 P) ::
(6, boot_o_6 P) ::
(7, boot_o_7 P) ::
(8, boot_o_8 P) ::
(9, boot_o_9 P) ::
(10, boot_o_10 P) ::
(11, ⟨.type "tuple", none, .seq #[] 0, #[]⟩) ::
(12, ⟨.none, none, .fields (List.toArray (.int 6 0 :: .int 0 0 :: .ref 37 :: .int 13 0 :: .int 0 0 :: .ref 44 :: .int 15 0 :: .int 0 0 :: .ref 51 :: .int 17 0 :: .int 0 0 :: .ref 58 :: .int 21 0 :: .int 0 0 :: .ref 65 :: .int 28 0 :: .int 0 0 :: .ref 72 :: .int 33 0 :: .int 0 0 :: .ref 92 :: .int 43 0 :: .int 0 0 :: .ref 110 :: .int 58 0 :: .int 0 0 :: .ref 152 :: .int 188 0 :: .int 0 0 :: .ref 272 :: .int 191 0 :: .int 0 0 :: .ref 279 :: .int 198 0 :: .int 0 0 :: .ref 286 :: .int 205 0 :: .int 0 0 :: .ref 293 :: .int 207 0 :: .int 0 0 :: .ref 300 :: .int 210 0 :: .int 0 0 :: .ref 307 :: .int 234 0 :: .int 0 0 :: .ref 314 :: .int 245 0 :: .int 0 0 :: .ref 321 :: .int 251 0 :: .int 0 0 :: .ref 328 :: .int 259 0 :: .int 0 0 :: .ref 335 :: .int 271 0 :: .int 0 0 :: .ref 342 :: .int 277 0 :: .int 0 0 :: .ref 347 :: .int 284 0 :: .int 0 0 :: .ref 352 :: [])), #[]⟩) ::
(13, ⟨.type "code", none, .fields #[.str "<module>" 182, .str "<module>" 183, .str "/claim/cut.py" 184, .int 1 0, .int 0 0, .int 0 0, .int 0 0, .int 0 0, .ref 11, .bool false, .int 181 0, .ref 12, .none, .none, .none, .none, .int 185 0, .int 1 0, .str "/claim/cut.py" 186], #[]⟩) ::
(14, ⟨.type "frame", none, .plain, #[some (.ref 13), some (.ref 3), some (.ref 3), none, some (.str "__main__" 164), none, some (.ref 0)]⟩) ::
(33, ⟨.none, none, .fields #[], #[]⟩) ::
(36, ⟨.none, none, .func ⟨"is_in_ranges", "is_in_ranges", a36, .stmts b36, s36, 0, [], .none, .none, .none, .none, none, .none, .none, 0⟩, #[]⟩) ::
(40, ⟨.none, none, .fields #[], #[]⟩) ::
(43, ⟨.none, none, .func ⟨"is_space", "is_space", a43, .stmts b43, s43, 0, [], .none, .none, .none, .none, none, .none, .none, 0⟩, #[]⟩) ::
(47, ⟨.none, none, .fields #[], #[]⟩) ::
(50, ⟨.none, none, .func ⟨"is_small_letter", "is_small_letter", a50, .stmts b50, s50, 0, [], .none, .none, .none, .none, none, .none, .none, 0⟩, #[]⟩) ::
(54, ⟨.none, none, .fields #[], #[]⟩) ::
(57, ⟨.none, none, .func ⟨"is_name_start", "is_name_start", a57, .stmts b57, s57, 0, [], .none, .none, .none, .none, none, .none, .none, 0⟩, #[]⟩) ::
(61, ⟨.none, none, .fields #[], #[]⟩) ::
(64, ⟨.none, none, .func ⟨"is_name_char", "is_name_char", a64, .stmts b64, s64, 0, [], .none, .none, .none, .none, none, .none, .none, 0⟩, #[]⟩) ::
(68, ⟨.type "builtin_function_or_method", none, .fields #[.builtin "type.__prepare__", .type "type"], #[]⟩) ::
(69, ⟨.type "dict", none, .dict #[⟨PyData.keyHash P "__module__", .str "__module__" 272, .str "markupmill.errors" 263⟩, ⟨PyData.keyHash P "__qualname__", .str "__qualname__" 274, .str "MarkupError" 273⟩, ⟨PyData.keyHash P "__firstlineno__", .str "__firstlineno__" 276, .int 28 275⟩, ⟨PyData.keyHash P "__init__", .str "__init__" 284, .ref 80⟩, ⟨PyData.keyHash P "__static_attributes__", .str "__static_attributes__" 286, .ref 81⟩] 5, #[]⟩) ::
(70, ⟨.type "tuple", none, .seq #[] 0, #[]⟩) ::
(71, ⟨.none, none, .fields #[.int 30 0, .int 4 0, .ref 79], #[]⟩) ::
(72, ⟨.type "code", none, .fields #[.str "MarkupError" 267, .str "MarkupError" 268, .str "/claim/cut.py" 269, .int 28 0, .int 0 0, .int 0 0, .int 0 0, .int 0 0, .ref 70, .bool false, .int 181 0, .ref 71, .none, .none, .none, .none, .int 270 0, .int 28 0, .str "/claim/cut.py" 271], #[]⟩) ::
(73, ⟨.type "frame", none, .plain, #[some (.ref 72), some (.ref 3), some (.ref 69), none, some (.str "markupmill.errors" 263), none, some (.ref 0)]⟩) ::
(75, ⟨.none, none, .fields #[], #[]⟩) ::
(78, ⟨.none, none, .func ⟨"__init__", "MarkupError.__init__", a78, .stmts b78, s78, 0, [], .none, .none, .none, .none, none, .none, .none, 0⟩, #[]⟩) ::
(85, ⟨.type "super", none, .fields #[.ref 83, .ref 83, .ref 83], #[]⟩) ::
(86, ⟨.type "builtin_function_or_method", none, .fields #[.builtin "object.__init_subclass__", .ref 83], #[]⟩) ::
(88, ⟨.type "builtin_function_or_method", none, .fields #[.builtin "type.__prepare__", .type "type"], #[]⟩) ::
(89, ⟨.type "dict", none, .dict #[⟨PyData.keyHash P "__module__", .str "__module__" 301, .str "markupmill.errors" 263⟩, ⟨PyData.keyHash P "__qualname__", .str "__qualname__" 303, .str "PathFault" 302⟩, ⟨PyData.keyHash P "__firstlineno__", .str "__firstlineno__" 305, .int 33 304⟩, ⟨PyData.keyHash P "__static_attributes__", .str "__static_attributes__" 306, .ref 94⟩] 4, #[]⟩) ::
(90, ⟨.type "tuple", none, .seq #[] 0, #[]⟩) ::
(91, ⟨.none, none, .fields #[], #[]⟩) ::
(92, ⟨.type "code", none, .fields #[.str "PathFault" 296, .str "PathFault" 297, .str "/claim/cut.py" 298, .int 33 0, .int 0 0, .int 0 0, .int 0 0, .int 0 0, .ref 90, .bool false, .int 181 0, .ref 91, .none, .none, .none, .none, .int 299 0, .int 33 0, .str "/claim/cut.py" 300], #[]⟩) ::
(93, ⟨.type "frame", none, .plain, #[some (.ref 92), some (.ref 3), some (.ref 89), none, some (.str "markupmill.errors" 263), none, some (.ref 0)]⟩) ::
(97, ⟨.type "super", none, .fields #[.ref 96, .ref 96, .ref 96], #[]⟩) ::
(98, ⟨.type "builtin_function_or_method", none, .fields #[.builtin "object.__init_subclass__", .ref 96], #[]⟩) ::
(105, ⟨.type "tuple", none, .seq #[] 0, #[]⟩) ::
(106, ⟨.type "builtin_function_or_method", none, .fields #[.builtin "type.__prepare__", .type "type"], #[]⟩) ::
(107, ⟨.type "dict", none, .dict #[⟨PyData.keyHash P "__module__", .str "__module__" 366, .str "markupmill.xpath_words" 310⟩, ⟨PyData.keyHash P "__qualname__", .str "__qualname__" 368, .str "Word" 367⟩, ⟨PyData.keyHash P "__firstlineno__", .str "__firstlineno__" 370, .int 43 369⟩, ⟨PyData.keyHash P "__init__", .str "__init__" 380, .ref 118⟩, ⟨PyData.keyHash P "is_sign", .str "is_sign" 388, .ref 125⟩, ⟨PyData.keyHash P "is_operator", .str "is_operator" 396, .ref 132⟩, ⟨PyData.keyHash P "row", .str "row" 403, .ref 139⟩, ⟨PyData.keyHash P "__static_attributes__", .str "__static_attributes__" 407, .ref 140⟩] 8, #[]⟩) ::
(108, ⟨.type "tuple", none, .seq #[] 0, #[]⟩) ::
(109, ⟨.none, none, .fields #[.int 45 0, .int 4 0, .ref 117, .int 50 0, .int 4 0, .ref 124, .int 53 0, .int 4 0, .ref 131, .int 56 0, .int 4 0, .ref 138], #[]⟩) ::
(110, ⟨.type "code", none, .fields #[.str "Word" 361, .str "Word" 362, .str "/claim/cut.py" 363, .int 43 0, .int 0 0, .int 0 0, .int 0 0, .int 0 0, .ref 108, .bool false, .int 181 0, .ref 109, .none, .none, .none, .none, .int 364 0, .int 43 0, .str "/claim/cut.py" 365], #[]⟩) ::
(111, ⟨.type "frame", none, .plain, #[some (.ref 110), some (.ref 3), some (.ref 107), none, some (.str "markupmill.xpath_words" 310), none, some (.ref 0)]⟩) ::
(113, ⟨.none, none, .fields #[], #[]⟩) ::
(116, ⟨.none, none, .func ⟨"__init__", "Word.__init__", a116, .stmts b116, s116, 0, [], .none, .none, .none, .none, none, .none, .none, 0⟩, #[]⟩) ::
(120, ⟨.none, none, .fields #[], #[]⟩) ::
(123, ⟨.none, none, .func ⟨"is_sign", "Word.is_sign", a123, .stmts b123, s123, 0, [], .none, .none, .none, .none, none, .none, .none, 0⟩, #[]⟩) ::
(127, ⟨.none, none, .fields #[], #[]⟩) ::
(130, ⟨.none, none, .func ⟨"is_operator", "Word.is_operator", a130, .stmts b130, s130, 0, [], .none, .none, .none, .none, none, .none, .none, 0⟩, #[]⟩) ::
(134, ⟨.none, none, .fields #[], #[]⟩) ::
(137, ⟨.none, none, .func ⟨"row", "Word.row", a137, .stmts b137, s137, 0, [], .none, .none, .none, .none, none, .none, .none, 0⟩, #[]⟩) ::
(145, ⟨.type "super", none, .fields #[.ref 142, .ref 142, .ref 142], #[]⟩) ::
(146, ⟨.type "builtin_function_or_method", none, .fields #[.builtin "object.__init_subclass__", .ref 142], #[]⟩) ::
(147, ⟨.type "tuple", none, .seq #[] 0, #[]⟩) ::
(148, ⟨.type "builtin_function_or_method", none, .fields #[.builtin "type.__prepare__", .type "type"], #[]⟩) ::
(149, ⟨.type "dict", none, .dict #[⟨PyData.keyHash P "__module__", .str "__module__" 422, .str "markupmill.xpath_words" 310⟩, ⟨PyData.keyHash P "__qualname__", .str "__qualname__" 424, .str "PathScanner" 423⟩, ⟨PyData.keyHash P "__firstlineno__", .str "__firstlineno__" 426, .int 58 425⟩, ⟨PyData.keyHash P "__init__", .str "__init__" 434, .ref 160⟩, ⟨PyData.keyHash P "sign", .str "sign" 444, .ref 168⟩, ⟨PyData.keyHash P "add", .str "add" 454, .ref 175⟩, ⟨PyData.keyHash P "run", .str "run" 461, .ref 182⟩, ⟨PyData.keyHash P "skip", .str "skip" 468, .ref 189⟩, ⟨PyData.keyHash P "is_behind_operand", .str "is_behind_operand" 476, .ref 196⟩, ⟨PyData.keyHash P "step", .str "step" 484, .ref 203⟩, ⟨PyData.keyHash P "number", .str "number" 492, .ref 210⟩, ⟨PyData.keyHash P "figures", .str "figures" 499, .ref 217⟩, ⟨PyData.keyHash P "literal", .str "literal" 509, .ref 224⟩, ⟨PyData.keyHash P "variable", .str "variable" 518, .ref 231⟩, ⟨PyData.keyHash P "plain_name", .str "plain_name" 526, .ref 238⟩, ⟨PyData.keyHash P "qualified", .str "qualified" 535, .ref 245⟩, ⟨PyData.keyHash P "name", .str "name" 545, .ref 252⟩, ⟨PyData.keyHash P "mark", .str "mark" 554, .ref 259⟩, ⟨PyData.keyHash P "__static_attributes__", .str "__static_attributes__" 558, .ref 260⟩] 19, #[]⟩) ::
(150, ⟨.type "tuple", none, .seq #[] 0, #[]⟩) ::
(151, ⟨.none, none, .fields (List.toArray (.int 60 0 :: .int 4 0 :: .ref 159 :: .int 65 0 :: .int 4 0 :: .ref 167 :: .int 69 0 :: .int 4 0 :: .ref 174 :: .int 72 0 :: .int 4 0 :: .ref 181 :: .int 80 0 :: .int 4 0 :: .ref 188 :: .int 84 0 :: .int 4 0 :: .ref 195 :: .int 92 0 :: .int 4 0 :: .ref 202 :: .int 108 0 :: .int 4 0 :: .ref 209 :: .int 116 0 :: .int 4 0 :: .ref 216 :: .int 120 0 :: .int 4 0 :: .ref 223 :: .int 128 0 :: .int 4 0 :: .ref 230 :: .int 136 0 :: .int 4 0 :: .ref 237 :: .int 144 0 :: .int 4 0 :: .ref 244 :: .int 157 0 :: .int 4 0 :: .ref 251 :: .int 176 0 :: .int 4 0 :: .ref 258 :: [])), #[]⟩) ::
(152, ⟨.type "code", none, .fields #[.str "PathScanner" 417, .str "PathScanner" 418, .str "/claim/cut.py" 419, .int 58 0, .int 0 0, .int 0 0, .int 0 0, .int 0 0, .ref 150, .bool false, .int 181 0, .ref 151, .none, .none, .none, .none, .int 420 0, .int 58 0, .str "/claim/cut.py" 421], #[]⟩) ::
(153, ⟨.type "frame", none, .plain, #[some (.ref 152), some (.ref 3), some (.ref 149), none, some (.str "markupmill.xpath_words" 310), none, some (.ref 0)]⟩) ::
(155, ⟨.none, none, .fields #[], #[]⟩) ::
(158, ⟨.none, none, .func ⟨"__init__", "PathScanner.__init__", a158, .stmts b158, s158, 0, [], .none, .none, .none, .none, none, .none, .none, 0⟩, #[]⟩) ::
(163, ⟨.none, none, .fields #[], #[]⟩) ::
(166, ⟨.none, none, .func ⟨"sign", "PathScanner.sign", a166, .stmts b166, s166, 0, [], .none, .none, .none, .none, none, .none, .none, 0⟩, #[]⟩) ::
(170, ⟨.none, none, .fields #[], #[]⟩) ::
(173, ⟨.none, none, .func ⟨"add", "PathScanner.add", a173, .stmts b173, s173, 0, [], .none, .none, .none, .none, none, .none, .none, 0⟩, #[]⟩) ::
(177, ⟨.none, none, .fields #[], #[]⟩) ::
(180, ⟨.none, none, .func ⟨"run", "PathScanner.run", a180, .stmts b180, s180, 0, [], .none, .none, .none, .none, none, .none, .none, 0⟩, #[]⟩) ::
(184, ⟨.none, none, .fields #[], #[]⟩) ::
(187, ⟨.none, none, .func ⟨"skip", "PathScanner.skip", a187, .stmts b187, s187, 0, [], .none, .none, .none, .none, none, .none, .none, 0⟩, #[]⟩) ::
(191, ⟨.none, none, .fields #[], #[]⟩) ::
(194, ⟨.none, none, .func ⟨"is_behind_operand", "PathScanner.is_behind_operand", a194, .stmts b194, s194, 0, [], .none, .none, .none, .none, none, .none, .none, 0⟩, #[]⟩) ::
(198, ⟨.none, none, .fields #[], #[]⟩) ::
(201, ⟨.none, none, .func ⟨"step", "PathScanner.step", a201, .stmts b201, s201, 0, [], .none, .none, .none, .none, none, .none, .none, 0⟩, #[]⟩) ::
(205, ⟨.none, none, .fields #[], #[]⟩) ::
(208, ⟨.none, none, .func ⟨"number", "PathScanner.number", a208, .stmts b208, s208, 0, [], .none, .none, .none, .none, none, .none, .none, 0⟩, #[]⟩) ::
(212, ⟨.none, none, .fields #[], #[]⟩) ::
(215, ⟨.none, none, .func ⟨"figures", "PathScanner.figures", a215, .stmts b215, s215, 0, [], .none, .none, .none, .none, none, .none, .none, 0⟩, #[]⟩) ::
(219, ⟨.none, none, .fields #[], #[]⟩) ::
(222, ⟨.none, none, .func ⟨"literal", "PathScanner.literal", a222, .stmts b222, s222, 0, [], .none, .none, .none, .none, none, .none, .none, 0⟩, #[]⟩) ::
(226, ⟨.none, none, .fields #[], #[]⟩) ::
(229, ⟨.none, none, .func ⟨"variable", "PathScanner.variable", a229, .stmts b229, s229, 0, [], .none, .none, .none, .none, none, .none, .none, 0⟩, #[]⟩) ::
(233, ⟨.none, none, .fields #[], #[]⟩) ::
(236, ⟨.none, none, .func ⟨"plain_name", "PathScanner.plain_name", a236, .stmts b236, s236, 0, [], .none, .none, .none, .none, none, .none, .none, 0⟩, #[]⟩) ::
(240, ⟨.none, none, .fields #[], #[]⟩) ::
(243, ⟨.none, none, .func ⟨"qualified", "PathScanner.qualified", a243, .stmts b243, s243, 0, [], .none, .none, .none, .none, none, .none, .none, 0⟩, #[]⟩) ::
(247, ⟨.none, none, .fields #[], #[]⟩) ::
(250, ⟨.none, none, .func ⟨"name", "PathScanner.name", a250, .stmts b250, s250, 0, [], .none, .none, .none, .none, none, .none, .none, 0⟩, #[]⟩) ::
(254, ⟨.none, none, .fields #[], #[]⟩) ::
(257, ⟨.none, none, .func ⟨"mark", "PathScanner.mark", a257, .stmts b257, s257, 0, [], .none, .none, .none, .none, none, .none, .none, 0⟩, #[]⟩) ::
(265, ⟨.type "super", none, .fields #[.ref 262, .ref 262, .ref 262], #[]⟩) ::
(266, ⟨.type "builtin_function_or_method", none, .fields #[.builtin "object.__init_subclass__", .ref 262], #[]⟩) ::
(268, ⟨.none, none, .fields #[], #[]⟩) ::
(271, ⟨.none, none, .func ⟨"path_words", "path_words", a271, .stmts b271, s271, 0, [], .none, .none, .none, .none, none, .none, .none, 0⟩, #[]⟩) ::
(275, ⟨.none, none, .fields #[], #[]⟩) ::
(278, ⟨.none, none, .func ⟨"_law_pool", "_law_pool", a278, .stmts b278, s278, 0, [], .none, .none, .none, .none, none, .none, .none, 0⟩, #[]⟩) ::
(282, ⟨.none, none, .fields #[], #[]⟩) ::
(285, ⟨.none, none, .func ⟨"_law_take", "_law_take", a285, .stmts b285, s285, 0, [], .none, .none, .none, .none, none, .none, .none, 0⟩, #[]⟩) ::
(289, ⟨.none, none, .fields #[], #[]⟩) ::
(292, ⟨.none, none, .func ⟨"_law_one", "_law_one", a292, .stmts b292, s292, 0, [], .none, .none, .none, .none, none, .none, .none, 0⟩, #[]⟩) ::
(296, ⟨.none, none, .fields #[], #[]⟩) ::
(299, ⟨.none, none, .func ⟨"_law_name", "_law_name", a299, .stmts b299, s299, 0, [], .none, .none, .none, .none, none, .none, .none, 0⟩, #[]⟩) ::
(303, ⟨.none, none, .fields #[], #[]⟩) ::
(306, ⟨.none, none, .func ⟨"_law_operand", "_law_operand", a306, .stmts b306, s306, 0, [], .none, .none, .none, .none, none, .none, .none, 0⟩, #[]⟩) ::
(310, ⟨.none, none, .fields #[], #[]⟩) ::
(313, ⟨.none, none, .func ⟨"_law_behind", "_law_behind", a313, .stmts b313, s313, 0, [], .none, .none, .none, .none, none, .none, .none, 0⟩, #[]⟩) ::
(317, ⟨.none, none, .fields #[], #[]⟩) ::
(320, ⟨.none, none, .func ⟨"_law_words", "_law_words", a320, .stmts b320, s320, 0, [], .none, .none, .none, .none, none, .none, .none, 0⟩, #[]⟩) ::
(324, ⟨.none, none, .fields #[], #[]⟩) ::
(327, ⟨.none, none, .func ⟨"_law_written", "_law_written", a327, .stmts b327, s327, 0, [], .none, .none, .none, .none, none, .none, .none, 0⟩, #[]⟩) ::
(331, ⟨.none, none, .fields #[], #[]⟩) ::
(334, ⟨.none, none, .func ⟨"_law_text", "_law_text", a334, .stmts b334, s334, 0, [], .none, .none, .none, .none, none, .none, .none, 0⟩, #[]⟩) ::
(338, ⟨.none, none, .fields #[], #[]⟩) ::
(341, ⟨.none, none, .func ⟨"_law_refused", "_law_refused", a341, .stmts b341, s341, 0, [], .none, .none, .none, .none, none, .none, .none, 0⟩, #[]⟩) ::
(345, ⟨.none, none, .fields #[], #[]⟩) ::
(346, ⟨.none, none, .func ⟨"_law_fixed_right", "_law_fixed_right", a346, .stmts b346, s346, 0, [], .none, .none, .none, .none, none, .none, .none, 0⟩, #[]⟩) ::
(350, ⟨.none, none, .fields #[], #[]⟩) ::
(351, ⟨.none, none, .func ⟨"law", "law", a351, .stmts b351, s351, 0, [], .none, .none, .none, .none, none, .none, .none, 0⟩, #[]⟩) ::
[]
noncomputable def vw : Program := PySem.W.view PySem.Challenge.pw_on0185_01 [1, 2, 3, 4, 5, 6, 7, 8, 9, 11, 12, 14, 15, 16, 17, 18, 19, 20, 21, 22, 23, 25, 26, 27, 28, 29, 30, 31, 32, 33, 34, 35, 36]
noncomputable def ads : List Nat := [2, 3, 15, 16, 17, 18, 19, 20, 21, 22, 23, 24, 25, 26, 27, 28, 29, 30, 31, 32, 34, 35, 37, 38, 39, 41, 42, 44, 45, 46, 48, 49, 51, 52, 53, 55, 56, 58, 59, 60, 62, 63, 65, 66, 67, 74, 76, 77, 79, 80, 81, 82, 83, 84, 87, 94, 95, 96, 99, 100, 101, 102, 103, 104, 112, 114, 115, 117, 118, 119, 121, 122, 124, 125, 126, 128, 129, 131, 132, 133, 135, 136, 138, 139, 140, 141, 142, 143, 144, 154, 156, 157, 159, 160, 161, 162, 164, 165, 167, 168, 169, 171, 172, 174, 175, 176, 178, 179, 181, 182, 183, 185, 186, 188, 189, 190, 192, 193, 195, 196, 197, 199, 200, 202, 203, 204, 206, 207, 209, 210, 211, 213, 214, 216, 217, 218, 220, 221, 223, 224, 225, 227, 228, 230, 231, 232, 234, 235, 237, 238, 239, 241, 242, 244, 245, 246, 248, 249, 251, 252, 253, 255, 256, 258, 259, 260, 261, 262, 263, 264, 267, 269, 270, 272, 273, 274, 276, 277, 279, 280, 281, 283, 284, 286, 287, 288, 290, 291, 293, 294, 295, 297, 298, 300, 301, 302, 304, 305, 307, 308, 309, 311, 312, 314, 315, 316, 318, 319, 321, 322, 323, 325, 326, 328, 329, 330, 332, 333, 335, 336, 337, 339, 340, 342, 343, 344, 347, 348, 349, 352, 353]
end Mine
/- H3 -/
namespace Mine
open PySem PySem.W PySem.Calls PyProof.Rows
set_option maxHeartbeats 0

/-- two written heaps, by their addresses, as one list of objects -/
def weave : Nat → Frag → Frag → List Obj
  | 0, _, _ => []
  | _ + 1, [], [] => []
  | n + 1, x :: r, [] => x.2 :: weave n r []
  | n + 1, [], y :: t => y.2 :: weave n [] t
  | n + 1, x :: r, y :: t => match Nat.ble x.1 y.1 with
    | true => x.2 :: weave n r (y :: t)
    | false => y.2 :: weave n (x :: r) t
noncomputable def endHeap (P : Params) : Heap := ⟨⟨weave 354 (heap P) (rest P)⟩, {}⟩
noncomputable abbrev endS (w : World) (os : OsState) : Shared := ⟨endHeap w.params, #[], {}, 683, os⟩

theorem ads_of (P : Params) : ads = (heap P).map (·.1) := by kernel_rfl
theorem opens : opening PySem.Challenge.pw_on0185_01 = plainProg PySem.Challenge.pw_on0185_01.main.scope.names := by kernel_rfl
theorem fences (s : Shared) : fenceModules? PySem.Challenge.pw_on0185_01 s = some s := by kernel_rfl
theorem size (w : World) : ((boot_heap w.params).isNs mainGlobals && (#[] : Array GenState).size == 0, (boot_heap w.params).objs.size, (boot_heap w.params).nsMap mainGlobals "__annotations__") = (true, 11, some (.ref 6)) := by kernel_rfl

/-- the top, statement by statement: what stands between -/
def cutDict (k : Nat) (v : Value) : Obj → Obj
  | ⟨c, d, .dict es _, s⟩ => ⟨c, d, .dict ⟨(match es.toList with | e :: r => DictEntry.mk e.hash e.key v :: r | [] => []).take k⟩ k, s⟩
  | o => o
def cutTab (j : Nat) : Obj → Obj
  | ⟨c, d, .fields fs, s⟩ => ⟨c, d, .fields ⟨fs.toList.take j⟩, s⟩
  | o => o
def tpAlter (k j : Nat) (v : Value) (more : Frag) (i : Nat) (o : Obj) : Obj := match Nat.beq i 3 with
  | true => cutDict k v o
  | false => match Nat.beq i 12 with
    | true => cutTab j o
    | false => match more.lookup i with | some x => x | none => o
def tpAltered (f : Nat → Obj → Obj) : Nat → Nat → List Obj → List Obj
  | 0, _, _ => []
  | _ + 1, _, [] => []
  | n + 1, i, o :: r => f i o :: tpAltered f n (i + 1) r
noncomputable def tpMid (P : Params) (n k j : Nat) (v : Value) (more : Frag) : Heap := ⟨⟨tpAltered (tpAlter k j v more) n 0 (weave 354 (heap P) (rest P))⟩, {}⟩
noncomputable abbrev tpProg : Program := PySem.Challenge.pw_on0185_01
noncomputable abbrev tpSuite : List Stmt := behindTheImports tpProg
noncomputable abbrev tpEnv : Env := { scope := tpProg.main.scope, locals := mainNs, globals := mainNs, cells := [], code := .ref 13, frame := some 14 }
noncomputable abbrev tpCode : Code := .body tpSuite tpEnv
abbrev tpPos : Pos := ⟨0, 0, 0, 0⟩
noncomputable abbrev tpH0 (P : Params) : Heap := tpMid P 15 9 0 (.str "__main__" 164) [(2, boot_o_2 P)]
noncomputable abbrev tpS0 (w : World) (os : OsState) : Shared := ⟨tpH0 w.params, #[], {}, 187, os⟩
noncomputable abbrev tpH1 (P : Params) : Heap := tpMid P 67 18 15 (.str "markupmill.errors" 263) [(2, boot_o_2 P)]
noncomputable abbrev tpS1 (w : World) (os : OsState) : Shared := ⟨tpH1 w.params, #[], {}, 265, os⟩
noncomputable abbrev tpH2 (P : Params) : Heap := tpMid P 87 19 18 (.str "markupmill.errors" 263) [(83, ⟨.type "type", none, .cls ⟨"MarkupError", [.type "Exception"], [.ref 83, .type "Exception", .type "BaseException", .type "object"], 82, "MarkupError", true, [], [], false, none, false⟩, #[some (.ref 67), none, some (.str "MarkupError" 265), some (.str "MarkupError" 273), some (.builtin "Exception.__new__"), some (.bool true)]⟩)]
noncomputable abbrev tpS2 (w : World) (os : OsState) : Shared := ⟨tpH2 w.params, #[], {}, 294, os⟩
noncomputable abbrev tpH3 (P : Params) : Heap := tpMid P 105 27 21 (.str "markupmill.xpath_words" 310) []
noncomputable abbrev tpS3 (w : World) (os : OsState) : Shared := ⟨tpH3 w.params, #[], {}, 359, os⟩
noncomputable abbrev tpH4 (P : Params) : Heap := tpMid P 147 28 24 (.str "markupmill.xpath_words" 310) []
noncomputable abbrev tpS4 (w : World) (os : OsState) : Shared := ⟨tpH4 w.params, #[], {}, 415, os⟩
noncomputable abbrev tpH5 (P : Params) : Heap := tpMid P 267 29 27 (.str "markupmill.xpath_words" 310) []
noncomputable abbrev tpS5 (w : World) (os : OsState) : Shared := ⟨tpH5 w.params, #[], {}, 566, os⟩
noncomputable abbrev tpH6 (P : Params) : Heap := tpMid P 349 41 63 (.str "law_on0185_01" 573) []
noncomputable abbrev tpS6 (w : World) (os : OsState) : Shared := ⟨tpH6 w.params, #[], {}, 677, os⟩
noncomputable abbrev tpS7 (w : World) (os : OsState) : Shared := endS w os
noncomputable def tpSts1 : List Stmt := (tpSuite.drop 0).take 11
noncomputable def tpSts2 : List Stmt := (tpSuite.drop 11).take 1
noncomputable def tpSts3 : List Stmt := (tpSuite.drop 12).take 9
noncomputable def tpSts4 : List Stmt := (tpSuite.drop 21).take 1
noncomputable def tpSts5 : List Stmt := (tpSuite.drop 22).take 1
noncomputable def tpSts6 : List Stmt := (tpSuite.drop 23).take 13
noncomputable def tpSts7 : List Stmt := (tpSuite.drop 36).take 1
theorem tpSuite_eq : tpSuite = tpSts1 ++ ( tpSts2 ++ ( tpSts3 ++ ( tpSts4 ++ ( tpSts5 ++ ( tpSts6 ++ ( tpSts7 ++ [])))))) := by kernel_rfl
theorem tpPre (w : World) (os : OsState) : topGo treeTable tpProg w 11 (some (.ref 6)) 12 ⟨boot_heap w.params, #[], boot_drawn, boot_toks, os⟩ (topStub tpProg) = some (tpS0 w os, ⟨denote treeTable tpCode, tpCode, tpPos, [topFrame tpPos]⟩) := by
  rw [PySem.W.Fast.te15667345088766844465, PySem.W.Fast.te14364793385576792824, PySem.W.Fast.te11892475500146522536]
  kernel_rfl
theorem tpBlk (w : World) (os : OsState) : segRun treeTable tpProg w 11 (some (.ref 6)) 1 1 (tpS0 w os) (blockOf tpSuite tpEnv tpCode tpPos [topFrame tpPos]) = some (.next, tpS0 w os, tpCode, tpPos) := by
  rw [PySem.W.Fast.te14374325043358763698, PySem.W.Fast.te14364793385576792824]
  kernel_rfl
theorem tpPc1 (w : World) (os : OsState) : segRun treeTable tpProg w 11 (some (.ref 6)) 1 265 (tpS0 w os) (piecesOf tpSts1 tpEnv tpCode ⟨0, 0, 0, 0⟩ [topFrame tpPos]) = some (.next, tpS1 w os, tpCode, ⟨27, 0, 27, 8⟩) := by
  rw [PySem.W.Fast.te14374325043358763698, PySem.W.Fast.te14364793385576792824]
  kernel_rfl
theorem tpPc2 (w : World) (os : OsState) : segRun treeTable tpProg w 11 (some (.ref 6)) 1 229 (tpS1 w os) (piecesOf tpSts2 tpEnv tpCode ⟨27, 0, 27, 8⟩ [topFrame tpPos]) = some (.next, tpS2 w os, tpCode, ⟨28, 0, 32, 30⟩) := by
  rw [PySem.W.Fast.te14374325043358763698, PySem.W.Fast.te14364793385576792824]
  kernel_rfl
theorem tpPc3 (w : World) (os : OsState) : segRun treeTable tpProg w 11 (some (.ref 6)) 1 331 (tpS2 w os) (piecesOf tpSts3 tpEnv tpCode ⟨28, 0, 32, 30⟩ [topFrame tpPos]) = some (.next, tpS3 w os, tpCode, ⟨42, 0, 42, 17⟩) := by
  rw [PySem.W.Fast.te14374325043358763698, PySem.W.Fast.te14364793385576792824]
  kernel_rfl
theorem tpPc4 (w : World) (os : OsState) : segRun treeTable tpProg w 11 (some (.ref 6)) 1 322 (tpS3 w os) (piecesOf tpSts4 tpEnv tpCode ⟨42, 0, 42, 17⟩ [topFrame tpPos]) = some (.next, tpS4 w os, tpCode, ⟨43, 0, 57, 37⟩) := by
  rw [PySem.W.Fast.te14374325043358763698, PySem.W.Fast.te14364793385576792824]
  kernel_rfl
theorem tpPc5 (w : World) (os : OsState) : segRun treeTable tpProg w 11 (some (.ref 6)) 1 682 (tpS4 w os) (piecesOf tpSts5 tpEnv tpCode ⟨43, 0, 57, 37⟩ [topFrame tpPos]) = some (.next, tpS5 w os, tpCode, ⟨58, 0, 187, 35⟩) := by
  rw [PySem.W.Fast.te14374325043358763698, PySem.W.Fast.te14364793385576792824]
  kernel_rfl
theorem tpPc6 (w : World) (os : OsState) : segRun treeTable tpProg w 11 (some (.ref 6)) 1 381 (tpS5 w os) (piecesOf tpSts6 tpEnv tpCode ⟨58, 0, 187, 35⟩ [topFrame tpPos]) = some (.next, tpS6 w os, tpCode, ⟨277, 0, 283, 98⟩) := by
  rw [PySem.W.Fast.te14374325043358763698, PySem.W.Fast.te14364793385576792824]
  kernel_rfl
theorem tpPc7 (w : World) (os : OsState) : segRun treeTable tpProg w 11 (some (.ref 6)) 1 27 (tpS6 w os) (piecesOf tpSts7 tpEnv tpCode ⟨277, 0, 283, 98⟩ [topFrame tpPos]) = some (.next, tpS7 w os, tpCode, ⟨284, 0, 298, 29⟩) := by
  rw [PySem.W.Fast.te14374325043358763698, PySem.W.Fast.te14364793385576792824]
  kernel_rfl
theorem tpFin (w : World) (os : OsState) : topRun treeTable tpProg w 11 (some (.ref 6)) 2 (tpS7 w os) ⟨doneF .next, tpCode, ⟨284, 0, 298, 29⟩, [topFrame tpPos]⟩ = some (endS w os) := by
  rw [PySem.W.Fast.te14082659384304107361, PySem.W.Fast.te14364793385576792824]
  kernel_rfl
theorem run (w : World) (os : OsState) : topRun treeTable PySem.Challenge.pw_on0185_01 w 11 (some (Value.ref 6)) (12 + (1 + (265 + (229 + (331 + (322 + (682 + (381 + (27 + (2)))))))))) ⟨boot_heap w.params, #[], boot_drawn, boot_toks, os⟩ (topStub PySem.Challenge.pw_on0185_01) = some (endS w os) := by
  refine go_top (tpPre w os) (piece_block (tpBlk w os) ?_)
  rw [show restOf tpSuite tpEnv tpCode tpPos [topFrame tpPos] = _ from congrArg (fun l => restOf l tpEnv tpCode tpPos [topFrame tpPos]) tpSuite_eq]
  exact piece_app (tpPc1 w os) (piece_app (tpPc2 w os) (piece_app (tpPc3 w os) (piece_app (tpPc4 w os) (piece_app (tpPc5 w os) (piece_app (tpPc6 w os) (piece_app (tpPc7 w os) (piece_nil (tpFin w os))))))))
theorem look0 (w : World) (os : OsState) : (staticsOk (importedModules PySem.Challenge.pw_on0185_01.main.body) (boot_heap w.params) (endS w os).heap && namesBound PySem.Challenge.pw_on0185_01 (endS w os).heap && gensDone (endS w os) && laidKept (boot_heap w.params) (endS w os).heap) = true := by
  rw [PySem.W.Fast.te5923862056798008813]
  kernel_rfl
theorem look1 (w : World) (os : OsState) : seen ((recsOf vw).map (·.name)) (ownsOf vw) [] { endS w os with gens := #[] } = expectedOf vw := by
  rw [PySem.W.Fast.te5160383126252970620, PySem.W.Fast.te3399658132070893891, PySem.W.Fast.te5991557255702980513]
  kernel_rfl
theorem look2 (w : World) (os : OsState) : (endS w os).heap.bltView = bltViewBooted := by
  kernel_rfl
theorem look3 (w : World) (os : OsState) : ((endS w os).heap.keysOk (looseW vw []) ((recsOf vw).map (·.name)) ((litsOf vw).map (·.1)) ((clssOf vw (looseW vw [])).map (·.name)) && (endS w os).heap.accountedOkI (importedModules PySem.Challenge.pw_on0185_01.main.body) && (endS w os).heap.isNs mainGlobals && (endS w os).heap.isNs builtinsNs && tablesOk vw (endS w os).heap
    && (xlAt vw [] (endS w os) && recOk (RowW.records PySem.Challenge.rw_on0185_01.row.toRowW) (endS w os)) && (if true then (endS w os).gens.size == 0 else !leftWithCleanup (endS w os).gens)) = true := by
  rw [PySem.W.Fast.te10880121769531294198, PySem.W.Fast.te821141287760084731, PySem.W.Fast.te3399658132070893891, PySem.W.Fast.te7409074990110511671, PySem.W.Fast.te13664370479719496447, PySem.W.Fast.te14722251495701143533, PySem.W.Fast.te5923862056798008813, PySem.W.Fast.te10994771534591457954]
  kernel_rfl
theorem look4 (w : World) (os : OsState) : tabsOk vw (endS w os) = true := by
  rw [PySem.W.Fast.te479339242167458305]
  kernel_rfl
theorem look5 (w : World) (os : OsState) : pinSeenD vw (drecsOf vw) (endS w os) = pinGoodD (drecsOf vw) := by
  rw [PySem.W.Fast.te16090120013241838585, PySem.W.Fast.te3247288618530077131]
  kernel_rfl
theorem look6 (w : World) (os : OsState) : plainSeenE vw (looseW vw []) (endS w os) = plainGoodE vw (looseW vw []) := by
  rw [PySem.W.Fast.te2386780881361962483, PySem.W.Fast.te821141287760084731]
  kernel_rfl
theorem look7 (w : World) (os : OsState) : plainSeenD vw [] (endS w os) = plainGoodD vw [] := by
  rw [PySem.W.Fast.te11698064438423848299]
  kernel_rfl
theorem look8 (w : World) (os : OsState) : wideSeen vw (endS w os) = wideGood vw := by
  rw [PySem.W.Fast.te7317090234206586261]
  kernel_rfl
theorem look9 (w : World) (os : OsState) : clsSeenW vw [] (endS w os) = clsGoodW vw [] := by
  rw [PySem.W.Fast.te7369524293546568484]
  kernel_rfl
theorem look10 (w : World) (os : OsState) : ads.map (endS w os).heap.get? = (heap w.params).map fun p => some p.2 := by
  kernel_rfl
theorem looks (w : World) (os : OsState) : openSeen vw [] (importedModules PySem.Challenge.pw_on0185_01.main.body) (fun s => xlAt vw [] s && recOk (RowW.records PySem.Challenge.rw_on0185_01.row.toRowW) s) true (endS w os) = openGood vw [] :=
  looks_pair (look1 w os) (looks_pair (look2 w os) (looks_pair (look3 w os) (looks_pair (look4 w os) (looks_pair (look5 w os) (looks_pair (look6 w os) (looks_pair (look7 w os) (looks_pair (look8 w os) (look9 w os))))))))
theorem left : LeftO PySem.Challenge.pw_on0185_01 vw [] (fun s => xlAt vw [] s && recOk (RowW.records PySem.Challenge.rw_on0185_01.row.toRowW) s) (Hook.obs (kHook heap ads ads_of)) (Hook.val (kHook heap ads ads_of)) 2300 :=
  LeftO.of_pieces (boot_open opens (by decide +kernel) fences) size run (by decide +kernel) fun w => funext fun os => looks_pair (look0 w os) (looks_pair (looks w os) (look10 w os))
end Mine
/- H4 -/
namespace Mine
open PySem PySem.W PySem.Calls PyProof.Rows
set_option maxHeartbeats 0
noncomputable abbrev hook : Hook := kHook heap ads ads_of
theorem lk1 : sreFenced tpProg.main = true := by
  rw [PySem.W.Fast.te11788848310118352699]
  kernel_rfl
theorem lk2 : ((moduleNames tpProg.main.body).isEmpty || lookedIntoSs (moduleNames tpProg.main.body) tpProg.main.body) = true := by
  rw [PySem.W.Fast.te9807087744658564304, PySem.W.Fast.te12862048085361865435]
  kernel_rfl
theorem lk3 : namesResolve tpProg = true := by
  rw [PySem.W.Fast.te8377067652309620493]
  kernel_rfl
theorem lk4 : (tpProg.boundNames.all (fun n => !worldNames.contains n)) = true := by
  rw [PySem.W.Fast.te18344453789297297638, PySem.W.Fast.te14412699480532031325]
  kernel_rfl
theorem lk5 : noRoadLSs { strict := !(importedModules tpProg.main.body).all cThrough.contains, foot := none, bare := (["vars", "dir", "locals"] : List Str).filter (readsOut tpProg tpProg.main.body) } tpProg.main.body = true := by
  rw [PySem.W.Fast.te8326940854005059898, PySem.W.Fast.te5923862056798008813, PySem.W.Fast.te17691160309236699985, PySem.W.Fast.te13343964577679436407]
  kernel_rfl
theorem lk6 : (namesMeet tpProg tpProg.main.body fun _ n => attrL n) = true := by
  rw [PySem.W.Fast.te17119622794617984870, PySem.W.Fast.te17868728402115742887]
  kernel_rfl
theorem looksSaid : looksOpen PySem.Challenge.rw_on0185_01.row.prog = true := look_both (look_both (look_both (look_both (look_both lk1 lk2) lk3) lk4) lk5) lk6
theorem partSaid : PySem.Challenge.rw_on0185_01.row.partSaid = true := by
  unfold OpenRow.partSaid
  rw [looksSaid, Bool.true_and, PySem.W.Fast.te18344453789297297638, PySem.W.Fast.te13582783067957832011]
  kernel_rfl
theorem rowSaid : PySem.Challenge.rw_on0185_01.row.wellSaid = true := by
  unfold OpenRow.wellSaid
  rw [partSaid, Bool.true_and, PySem.W.Fast.te18344453789297297638, PySem.W.Fast.te12749700546528644094]
  kernel_rfl
theorem wellSaid : PySem.Challenge.rw_on0185_01.wellSaid = true := by
  unfold OpenLaw.wellSaid
  rw [rowSaid, Bool.true_and, PySem.W.Fast.te8326940854005059898, PySem.W.Fast.te9558739934217749035, PySem.W.Fast.te16286561074155671207, PySem.W.Fast.te6984425678791042302, PySem.W.Fast.te482687673346738481,
    PySem.W.Fast.te17119622794617984870, PySem.W.Fast.te10792542408131684335, PySem.W.Fast.te8179353310426384613, PySem.W.Fast.te10501279942588096481, PySem.W.Fast.te797321630700447069, PySem.W.Fast.named_eq]
  kernel_rfl
theorem chains : (chainsOk vw && opensWell PySem.Challenge.rw_on0185_01.row.prog && (frees PySem.Challenge.rw_on0185_01.row.toRowW && PySem.Challenge.rw_on0185_01.row.within.isEmpty)) = true := by kernel_rfl
theorem bare : PySem.Challenge.rw_on0185_01.row.prog.bare := ⟨rfl, rfl, rfl, rfl, rfl, by decide +kernel⟩
theorem promised : PySem.Challenge.rw_on0185_01.row.toRowW.promised := by w_witness2
theorem top {d : DefRec} {kwd : List (Str × Expr)} (hdef : defOf vw PySem.Challenge.rw_on0185_01.row.name = some (d, kwd)) (hp : PySem.Challenge.rw_on0185_01.row.prog.theDef PySem.Challenge.rw_on0185_01.row.name = some (d.params, d.body, d.scope))
    (hk : kwWritten? d.params.kwonlyargs d.params.kw_defaults = some kwd) (walk : WalkO vw [] (XL vw []) hook.says PySem.Challenge.rw_on0185_01.row.toRowW d kwd fun f vs => PySem.call f vs) : PySem.Challenge.rw_on0185_01.Holds :=
  holds_law wellSaid fun said => holds_open (q := vw) (loose := []) (Xt := fun s => xlAt vw [] s && recOk (RowW.records PySem.Challenge.rw_on0185_01.row.toRowW) s) (XP := XL vw []) (Yf := hook.obs) (Ya := hook.val) (YP := hook.says) (N := 2300) left hook.of hook.keeps
    (fun _ e => xl_of _ (Bool.and_eq_true_iff.mp e).1) XL.keeps hdef hp hk (fun _ e => recFacts_of (Bool.and_eq_true_iff.mp e).2) rfl said chains bare promised walk
end Mine
/- M1 -/
namespace Mine
open PySem PySem.W PySem.Calls PyProof.Rows
set_option maxHeartbeats 200000

abbrev Led := List (Addr × Obj)
abbrev PR := PySem.Challenge.rw_on0185_01.row.prog

def Shape (h h' : Heap) : Prop := ∀ b o, h.get? b = some o → (∀ vs, o.data ≠ .fields vs) → ∃ o', h'.get? b = some o' ∧ ∀ vs, o'.data ≠ .fields vs
theorem Shape.refl (h : Heap) : Shape h h := fun _ o e n => ⟨o, e, n⟩
theorem Shape.trans {a b c : Heap} (x : Shape a b) (y : Shape b c) : Shape a c := fun p o e n => let ⟨o', e', n'⟩ := x p o e n; y p o' e' n'
theorem Shape.keeps {h h' : Heap} (k : ∀ b o, h.get? b = some o → h'.get? b = some o) : Shape h h' := fun b o e n => ⟨o, k b o e, n⟩
theorem Shape.frames {h h' base : Heap} (x : Shape h h') : ∀ {l : List Env}, h.FunFrames base l → h'.FunFrames base l
  | [], _ => trivial
  | _ :: _, ⟨hk, ⟨L, o, hf, hn, ho, hd⟩, hr⟩ => let ⟨o', e', n'⟩ := x L o ho hd; ⟨hk, ⟨L, o', hf, hn, e', n'⟩, x.frames hr⟩

theorem fresh_size {g h : Heap} (k : g.StaysIn h) : g.get? h.objs.size = none := Heap.StaysIn.fresh k

structure Has (g : Heap) (led : Led) (h : Heap) : Prop where
  keep : g.StaysIn h
  at_ : ∀ p ∈ led, h.get? p.1 = some p.2 ∧ g.get? p.1 = none
  nd : (led.map (·.1)).Nodup

/-- o' is o, but for the slots where a is one of fs -/
structure Sl (fs : List Addr) (a : Addr) (o o' : Obj) : Prop where
  slots : ∃ sl, o' = { o with slots := sl }
  same : a ∉ fs → o' = o
theorem Sl.refl {fs : List Addr} {a : Addr} (o : Obj) : Sl fs a o o := ⟨⟨o.slots, rfl⟩, fun _ => rfl⟩
theorem Sl.data {fs : List Addr} {a : Addr} {o o' : Obj} (x : Sl fs a o o') : o'.data = o.data := by obtain ⟨⟨sl, rfl⟩, _⟩ := x; rfl
theorem Sl.eq {a : Addr} {o o' : Obj} (x : Sl [] a o o') : o' = o := x.same (by simp)
theorem Sl.trans {fs fs' : List Addr} {a : Addr} {o o' o'' : Obj} (x : Sl fs a o o') (y : Sl fs' a o' o'') (h : a ∉ fs → a ∉ fs') : Sl fs a o o'' := by
  obtain ⟨⟨s1, rfl⟩, x2⟩ := x
  obtain ⟨⟨s2, rfl⟩, y2⟩ := y
  exact ⟨⟨s2, rfl⟩, fun n => (y2 (h n)).trans (x2 n)⟩

structure RanF (fs : List Addr) (g : Heap) (led : Led) (s : Shared) (g' : Heap) (led' : Led) (s' : Shared) : Prop where
  has : Has g' led' s'.heap
  le : g.StaysIn g'
  frame : ∀ a o, s.heap.get? a = some o → a ∉ led.map (·.1) → ∃ o', s'.heap.get? a = some o' ∧ Sl fs a o o'
  freshG : ∀ a o, g'.get? a = some o → g.get? a = some o ∨ a ∈ led.map (·.1) ∨ s.heap.get? a = none
  freshL : ∀ a ∈ led'.map (·.1), a ∈ led.map (·.1) ∨ s.heap.get? a = none
  shape : Shape s.heap s'.heap
  gens : s'.gens = s.gens
  os : s'.os = s.os

abbrev Ran := RanF []
theorem RanF.fresh {fs g led s g' led' s'} (R : RanF fs g led s g' led' s') {a : Addr} (h : s'.heap.get? a = none) : a ∈ led.map (·.1) ∨ s.heap.get? a = none := by
  cases q : s.heap.get? a with
  | none => exact .inr rfl
  | some o =>
    by_cases n : a ∈ led.map (·.1)
    · exact .inl n
    · obtain ⟨o', h', _⟩ := R.frame a o q n
      rw [h'] at h; cases h
theorem RanF.mono {fs fs' g led s g' led' s'} (R : RanF fs g led s g' led' s') (h : ∀ a, a ∈ fs → a ∈ fs') : RanF fs' g led s g' led' s' :=
  ⟨R.has, R.le, fun a o q n => let ⟨o', q', x⟩ := R.frame a o q n; ⟨o', q', x.slots, fun z => x.same fun y => z (h a y)⟩, R.freshG, R.freshL, R.shape, R.gens, R.os⟩
theorem Has.ran {g : Heap} {led : Led} {s : Shared} (H : Has g led s.heap) : Ran g led s g led s :=
  ⟨H, fun _ _ e => e, fun _ o e _ => ⟨o, e, .refl o⟩, fun _ _ e => .inl e, fun _ e => .inl e, .refl _, rfl, rfl⟩

/-- the state at a function's entry -/
structure Ent where
  g : Heap
  led : Led
  s : Shared
  fs : List Addr

structure St (e : Ent) (g : Heap) (L : Addr) (m : Str → Option Value) (led : Led) (s : Shared) : Prop where
  ran : RanF e.fs e.g e.led e.s g led s
  ns : s.heap.Ns L m
  gL : g.get? L = none
  lL : L ∉ led.map (·.1)
  eL : e.s.heap.get? L = none

theorem St.keep {e g L m led s} (S : St e g L m led s) : g.StaysIn s.heap := S.ran.has.keep
theorem St.get {e g L m led s} (S : St e g L m led s) {p} (h : p ∈ led) : s.heap.get? p.1 = some p.2 := (S.ran.has.at_ p h).1

section
variable {e : Ent} {g g' : Heap} {L : Addr} {m : Str → Option Value} {led led₁ led₁' rest : Led} {s s' : Shared}

theorem mem_map_fst {led : Led} {p : Addr × Obj} (h : p ∈ led) : p.1 ∈ led.map (·.1) := List.mem_map_of_mem h

theorem St.retF {fs : List Addr} (S : St e g L m (led₁ ++ rest) s) (R : RanF fs g led₁ s g' led₁' s') (hfs : ∀ a ∈ fs, (a = L ∨ a ∈ e.fs) ∧ a ∉ rest.map (·.1)) : St e g' L m (led₁' ++ rest) s' := by
  have nd := S.ran.has.nd
  rw [List.map_append, List.nodup_append] at nd
  obtain ⟨nd1, nd2, dj⟩ := nd
  have hL1 : L ∉ led₁.map (·.1) := fun q => S.lL (by rw [List.map_append]; exact List.mem_append_left _ q)
  have lt2 : ∀ a ∈ rest.map (·.1), s.heap.get? a ≠ none := fun a h q => by
    obtain ⟨p, hp, rfl⟩ := List.mem_map.mp h
    rw [S.get (List.mem_append_right _ hp)] at q; cases q
  have ltL : s.heap.get? L ≠ none := fun q => by
    obtain ⟨o, _, _, ho, _⟩ := S.ns
    rw [ho] at q; cases q
  refine ⟨⟨⟨R.has.keep, ?_, ?_⟩, fun b o q => R.le b o (S.ran.le b o q), ?_, ?_, ?_, S.ran.shape.trans R.shape, R.gens.trans S.ran.gens, R.os.trans S.ran.os⟩, ?_, ?_, ?_, S.eL⟩
  · intro p hp
    rcases List.mem_append.mp hp with hp | hp
    · exact R.has.at_ p hp
    · have n1 : p.1 ∉ led₁.map (·.1) := fun q => dj _ q _ (mem_map_fst hp) rfl
      obtain ⟨o', ho', x⟩ := R.frame _ _ (S.get (List.mem_append_right _ hp)) n1
      rw [x.same fun q => (hfs _ q).2 (mem_map_fst hp)] at ho'
      refine ⟨ho', ?_⟩
      cases q : g'.get? p.1 with
      | none => rfl
      | some o =>
        rcases R.freshG _ _ q with h | h | h
        · rw [(S.ran.has.at_ p (List.mem_append_right _ hp)).2] at h; cases h
        · exact absurd h n1
        · exact absurd h (lt2 _ (mem_map_fst hp))
  · rw [List.map_append, List.nodup_append]
    refine ⟨R.has.nd, nd2, fun a ha b hb q => ?_⟩
    subst q
    rcases R.freshL a ha with h | h
    · exact dj _ h _ hb rfl
    · exact absurd h (lt2 _ hb)
  · intro a o h n
    obtain ⟨o', ho', x⟩ := S.ran.frame a o h n
    obtain ⟨o'', ho'', y⟩ := R.frame a o' ho' fun q => by
      have : a ∈ (led₁ ++ rest).map (·.1) := by rw [List.map_append]; exact List.mem_append_left _ q
      rcases S.ran.freshL a this with h' | h'
      · exact n h'
      · rw [h] at h'; cases h'
    refine ⟨o'', ho'', x.trans y fun z q => ?_⟩
    rcases (hfs _ q).1 with h' | h'
    · rw [h', S.eL] at h; cases h
    · exact z h'
  · intro a o h
    rcases R.freshG a o h with h | h | h
    · exact S.ran.freshG a o h
    · exact .inr (S.ran.freshL a (by rw [List.map_append]; exact List.mem_append_left _ h))
    · exact .inr (S.ran.fresh h)
  · intro a h
    rw [List.map_append] at h
    rcases List.mem_append.mp h with h | h
    · rcases R.freshL a h with h | h
      · exact S.ran.freshL a (by rw [List.map_append]; exact List.mem_append_left _ h)
      · exact S.ran.fresh h
    · exact S.ran.freshL a (by rw [List.map_append]; exact List.mem_append_right _ h)
  · obtain ⟨o, es, ep, ho, hd, r⟩ := S.ns
    obtain ⟨o', ho', x⟩ := R.frame _ _ ho hL1
    exact ⟨o', es, ep, ho', x.data.trans hd, r⟩
  · cases q : g'.get? L with
    | none => rfl
    | some o =>
      rcases R.freshG _ _ q with h | h | h
      · rw [S.gL] at h; cases h
      · exact absurd h hL1
      · exact absurd h ltL
  · intro q
    rw [List.map_append] at q
    rcases List.mem_append.mp q with h | h
    · rcases R.freshL _ h with h | h
      · exact hL1 h
      · exact absurd h ltL
    · exact S.lL (by rw [List.map_append]; exact List.mem_append_right _ h)
theorem St.ret (S : St e g L m (led₁ ++ rest) s) (R : Ran g led₁ s g' led₁' s') : St e g' L m (led₁' ++ rest) s' := S.retF R (fun _ h => by cases h)

/-- only the counter of tokens turned -/
theorem St.tok (S : St e g L m led s) {tk : Nat} : St e g L m led { s with toks := tk } := by
  obtain ⟨R, a, b, c, d⟩ := S
  exact ⟨⟨R.has, R.le, R.frame, R.freshG, R.freshL, R.shape, R.gens, R.os⟩, a, b, c, d⟩

/-- the ledger in another order, or less of it -/
theorem St.sub (S : St e g L m led s) {led' : Led} (h : ∀ p ∈ led', p ∈ led) (nd : (led'.map (·.1)).Nodup) : St e g L m led' s := by
  have hm : ∀ a ∈ led'.map (·.1), a ∈ led.map (·.1) := fun a q => by
    obtain ⟨p, hp, rfl⟩ := List.mem_map.mp q
    exact mem_map_fst (h p hp)
  exact ⟨⟨⟨S.ran.has.keep, fun p hp => S.ran.has.at_ p (h p hp), nd⟩, S.ran.le, S.ran.frame, S.ran.freshG, fun a q => S.ran.freshL a (hm a q), S.ran.shape, S.ran.gens, S.ran.os⟩, S.ns, S.gL, fun q => S.lL (hm _ q), S.eL⟩
theorem St.perm (S : St e g L m led s) {led' : Led} (h : led'.Perm led) : St e g L m led' s :=
  S.sub (fun p hp => h.mem_iff.mp hp) ((h.map _).nodup_iff.mpr S.ran.has.nd)
theorem St.drop (S : St e g L m (led₁ ++ rest) s) : St e g L m rest s := by
  have nd := S.ran.has.nd
  rw [List.map_append, List.nodup_append] at nd
  exact S.sub (fun p hp => List.mem_append_right _ hp) nd.2.1
theorem St.drop0 {p : Addr × Obj} (S : St e g L m (p :: rest) s) : St e g L m rest s := St.drop (led₁ := [p]) S

/-- a new object -/
theorem St.push (S : St e g L m led s) {o : Obj} (hfree : o.isFreed = false) {tk : Nat} : St e g L m ((s.heap.objs.size, o) :: led) { s with heap := s.heap.push o, toks := tk } := by
  have kp : ∀ b x, s.heap.get? b = some x → (s.heap.push o).get? b = some x := fun b x h => Heap.get?_push_of_some _ h
  refine ⟨⟨⟨fun b x h => kp b x (S.keep b x h), ?_, ?_⟩, S.ran.le, fun a x h n => let ⟨x', h', y⟩ := S.ran.frame a x h n; ⟨x', kp _ _ h', y⟩, S.ran.freshG, ?_, S.ran.shape.trans (.keeps kp), S.ran.gens, S.ran.os⟩, S.ns.push o, S.gL, ?_, S.eL⟩
  · intro p hp
    rcases List.mem_cons.mp hp with rfl | hp
    · exact ⟨Heap.get?_push_size _ hfree, fresh_size S.keep⟩
    · exact ⟨kp _ _ (S.ran.has.at_ p hp).1, (S.ran.has.at_ p hp).2⟩
  · rw [List.map_cons, List.nodup_cons]
    refine ⟨fun q => ?_, S.ran.has.nd⟩
    obtain ⟨p, hp, e'⟩ := List.mem_map.mp q
    have := Heap.lt_size (S.get hp)
    rw [e'] at this
    exact Nat.lt_irrefl _ this
  · intro a h
    rw [List.map_cons] at h
    rcases List.mem_cons.mp h with rfl | h
    · exact S.ran.fresh (fresh_size fun _ _ q => q)
    · exact S.ran.freshL a h
  · intro q
    rw [List.map_cons] at q
    rcases List.mem_cons.mp q with h | h
    · exact Nat.lt_irrefl _ (h ▸ S.ns.lt)
    · exact S.lL h

/-- the locals' dict turned, nothing else -/
theorem St.set (S : St e g L m led s) {h' : Heap} {m' : Str → Option Value} {tk : Nat} (hn : h'.Ns L m') (hs : Heap.SameBut L s.heap h') : St e g L m' led { s with heap := h', toks := tk } := by
  have hg : ∀ b o, g.get? b = some o → b ≠ L := fun b o h q => by rw [q, S.gL] at h; cases h
  refine ⟨⟨⟨fun b o h => (hs.2 b (hg b o h)).trans (S.keep b o h), fun p hp => ⟨(hs.2 _ fun q => S.lL (q ▸ mem_map_fst hp)).trans (S.get hp), (S.ran.has.at_ p hp).2⟩, S.ran.has.nd⟩, S.ran.le, ?_, S.ran.freshG, S.ran.freshL, ?_, S.ran.gens, S.ran.os⟩, hn, S.gL, S.lL, S.eL⟩
  · intro a o h n
    obtain ⟨o', h', x⟩ := S.ran.frame a o h n
    refine ⟨o', (hs.2 a fun q => ?_).trans h', x⟩
    rw [q, S.eL] at h; cases h
  · refine S.ran.shape.trans fun b o h n => ?_
    by_cases q : b = L
    · subst q
      obtain ⟨o', es, ep, ho', hd', _⟩ := hn
      exact ⟨o', ho', fun vs z => by rw [hd'] at z; cases z⟩
    · exact ⟨o, (hs.2 b q).trans h, n⟩

/-- an object of the ledger turned -/
theorem St.upd {a : Addr} {o o' : Obj} (S : St e g L m ((a, o) :: rest) s) {h' : Heap} {tk : Nat} (hs : Heap.SameBut a s.heap h') (ho : h'.get? a = some o') (hf : (∀ vs, o.data ≠ .fields vs) → ∀ vs, o'.data ≠ .fields vs) :
    St e g L m ((a, o') :: rest) { s with heap := h', toks := tk } := by
  have ha := S.get (.head _)
  have nd := S.ran.has.nd
  rw [List.map_cons, List.nodup_cons] at nd
  have ga := (S.ran.has.at_ _ (.head _)).2
  have hg : ∀ b o, g.get? b = some o → b ≠ a := fun b o h q => by rw [q, ga] at h; cases h
  have La : L ≠ a := fun q => S.lL (by rw [List.map_cons, q]; exact .head _)
  refine ⟨⟨⟨fun b o h => (hs.2 b (hg b o h)).trans (S.keep b o h), ?_, by rw [List.map_cons, List.nodup_cons]; exact nd⟩, S.ran.le, ?_, S.ran.freshG, S.ran.freshL, ?_, S.ran.gens, S.ran.os⟩, S.ns.sameBut hs La, S.gL, S.lL, S.eL⟩
  · intro p hp
    rcases List.mem_cons.mp hp with rfl | hp
    · exact ⟨ho, ga⟩
    · have hne : p.1 ≠ a := fun q => nd.1 (q ▸ (mem_map_fst hp : p.1 ∈ rest.map (·.1)))
      exact ⟨(hs.2 _ hne).trans (S.get (.tail _ hp)), (S.ran.has.at_ p (.tail _ hp)).2⟩
  · intro b x h n
    obtain ⟨x', h', y⟩ := S.ran.frame b x h n
    refine ⟨x', (hs.2 b fun q => ?_).trans h', y⟩
    subst q
    rcases S.ran.freshL b (by rw [List.map_cons]; exact .head _) with h' | h'
    · exact n h'
    · rw [h] at h'; cases h'
  · refine S.ran.shape.trans fun b x h n => ?_
    by_cases q : b = a
    · subst q; rw [ha] at h; cases h; exact ⟨o', ho, hf n⟩
    · exact ⟨x, (hs.2 b q).trans h, n⟩

/-- any step that keeps all that was -/
theorem St.grow (S : St e g L m led s) {h' : Heap} {tk : Nat} (k : ∀ b o, s.heap.get? b = some o → h'.get? b = some o) : St e g L m led { s with heap := h', toks := tk } :=
  ⟨⟨⟨fun b o q => k b o (S.keep b o q), fun p hp => ⟨k _ _ (S.get hp), (S.ran.has.at_ p hp).2⟩, S.ran.has.nd⟩, S.ran.le, fun a o h n => let ⟨o', h', x⟩ := S.ran.frame a o h n; ⟨o', k _ _ h', x⟩, S.ran.freshG, S.ran.freshL, S.ran.shape.trans (.keeps k), S.ran.gens, S.ran.os⟩,
    S.ns.keeps k, S.gL, S.lL, S.eL⟩

/-- what freezing keeps -/
theorem frozen_get {h g : Heap} (as : List Addr) (k : g.StaysIn h) : ∃ f : Heap, ∀ a o, f.get? a = some o ↔ h.get? a = some o ∧ (g.get? a = some o ∨ a ∈ as) := by
  refine ⟨hideAll h ((List.range h.objs.size).filter fun a => (g.get? a).isNone && !as.contains a), fun a o => ?_⟩
  constructor
  · intro q
    have q' := of_hideAll _ q
    refine ⟨q', ?_⟩
    by_cases hm : a ∈ as
    · exact .inr hm
    · left
      cases z : g.get? a with
      | some o' => rw [k _ _ z] at q'; exact q'
      | none =>
        have : a ∈ (List.range h.objs.size).filter fun a => (g.get? a).isNone && !as.contains a := by
          rw [List.mem_filter]; refine ⟨List.mem_range.mpr (Heap.lt_size q'), ?_⟩
          simp [z, hm]
        rw [hideAll_none _ this] at q; cases q
  · rintro ⟨q, z⟩
    refine hideAll_get _ q fun hm => ?_
    rw [List.mem_filter] at hm
    rcases z with z | z
    · simp [z] at hm
    · simp [z] at hm

theorem St.freeze (S : St e g L m (led₁ ++ rest) s) : ∃ g', g.StaysIn g' ∧ St e g' L m rest s ∧ ∀ p ∈ led₁, g'.get? p.1 = some p.2 := by
  have nd := S.ran.has.nd
  rw [List.map_append, List.nodup_append] at nd
  obtain ⟨nd1, nd2, dj⟩ := nd
  have hL1 : L ∉ led₁.map (·.1) := fun q => S.lL (by rw [List.map_append]; exact List.mem_append_left _ q)
  obtain ⟨f, fg⟩ := frozen_get (led₁.map (·.1)) S.keep
  refine ⟨f, fun b o q => (fg b o).mpr ⟨S.keep b o q, .inl q⟩, ?_, fun p hp => (fg _ _).mpr ⟨S.get (List.mem_append_left _ hp), .inr (mem_map_fst hp)⟩⟩
  have sub : ∀ a ∈ led₁.map (·.1), a ∈ e.led.map (·.1) ∨ e.s.heap.get? a = none := fun a h => S.ran.freshL a (by rw [List.map_append]; exact List.mem_append_left _ h)
  refine ⟨⟨⟨fun b o q => ((fg b o).mp q).1, fun p hp => ⟨S.get (List.mem_append_right _ hp), ?_⟩, nd2⟩, fun b o q => (fg b o).mpr ⟨S.keep b o (S.ran.le b o q), .inl (S.ran.le b o q)⟩, S.ran.frame, ?_, fun a h => S.ran.freshL a (by rw [List.map_append]; exact List.mem_append_right _ h), S.ran.shape, S.ran.gens, S.ran.os⟩, S.ns, ?_, ?_, S.eL⟩
  · cases q : f.get? p.1 with
    | none => rfl
    | some o =>
      rcases ((fg _ _).mp q).2 with h | h
      · rw [(S.ran.has.at_ p (List.mem_append_right _ hp)).2] at h; cases h
      · exact absurd rfl (dj _ h _ (mem_map_fst hp))
  · intro a o q
    rcases ((fg _ _).mp q).2 with h | h
    · exact S.ran.freshG a o h
    · exact .inr (sub a h)
  · cases q : f.get? L with
    | none => rfl
    | some o =>
      rcases ((fg _ _).mp q).2 with h | h
      · rw [S.gL] at h; cases h
      · exact absurd h hL1
  · exact fun q => S.lL (by rw [List.map_append]; exact List.mem_append_right _ q)
theorem St.freeze0 {a : Addr} {o : Obj} (S : St e g L m ((a, o) :: rest) s) : ∃ g', g.StaysIn g' ∧ St e g' L m rest s ∧ g'.get? a = some o := by
  obtain ⟨g', h1, h2, h3⟩ := St.freeze (led₁ := [(a, o)]) S
  exact ⟨g', h1, h2, h3 _ (.head _)⟩
end
end Mine
/- M2 -/
namespace Mine
open PySem PySem.W PySem.Calls PyProof.Rows
set_option maxHeartbeats 200000

structure Cx (w : World) (g : Heap) (A : Around) (d : Nat) : Prop where
  X : (heap w.params).In g
  T : ∃ mean mg mb, Top vw (looseW vw []) mean mg mb g
  depth : A.depth + d ≤ 500
  units : A.units + 10 * d ≤ 5000
  hand : A.handled = none

theorem Cx.mono {w g g' A d} (C : Cx w g A d) (k : g.StaysIn g') : Cx w g' A d :=
  ⟨C.X.keeps k, let ⟨a, b, c, t⟩ := C.T; ⟨a, b, c, t.keeps k⟩, C.depth, C.units, C.hand⟩
theorem Cx.deeper {w g A d} (C : Cx w g A (d + 1)) (env : Env) : Cx w g (A.deeper env) d :=
  ⟨C.X, C.T, (by have := C.depth; show A.depth + 1 + d ≤ 500; omega), (by have := C.units; show A.units + 3 + 10 * d ≤ 5000; omega), C.hand⟩
theorem Cx.less {w g A d d'} (C : Cx w g A d) (h : d' ≤ d) : Cx w g A d' := ⟨C.X, C.T, (by have := C.depth; omega), (by have := C.units; omega), C.hand⟩
theorem Cx.in1 {w g A d} (C : Cx w g A (d + 1)) : Cx w g A.in1 d := ⟨C.X, C.T, (by have := C.depth; show A.depth + d ≤ 500; omega), (by have := C.units; show A.units + 1 + 10 * d ≤ 5000; omega), C.hand⟩

section
variable {w : World} {A : Around} {E : Value → Shared → Prop} {s : Shared} {e : Ent} {g : Heap} {L f : Addr} {m : Str → Option Value} {led : Led} {qn : Str} {sc : Scope} {cd : Value} {d : Nat}

/-- what waits behind a def's body, behind a statement -/
def fnK (R : Result → Shared → Prop) (fl : Flow) (s' : Shared) : Prop := R (.ok (.ret (match fl with | .ret v => v | _ => .none))) s'
theorem fnK_ret {R : Result → Shared → Prop} {v : Value} (h : R (.ok (.ret v)) s) : fnK R (.ret v) s := h
theorem fnK_next {R : Result → Shared → Prop} (h : R (.ok (.ret .none)) s) : fnK R .next s := h
def kont (M : Model) (A : Around) (rest : List Stmt) (env : Env) (Q : Flow → Shared → Prop) (E : Value → Shared → Prop) (f : Flow) (s' : Shared) : Prop := match f with | .next => wpAny M A (execs rest env) Q E s' | f => Q f s'
theorem kont_next {M : Model} {rest : List Stmt} {env : Env} {Q : Flow → Shared → Prop} (h : wpAny M A (execs rest env) Q E s) : kont M A rest env Q E .next s := h
theorem kont_ret {M : Model} {rest : List Stmt} {env : Env} {Q : Flow → Shared → Prop} {v : Value} (h : Q (.ret v) s) : kont M A rest env Q E (.ret v) s := h
theorem x_cons {st : Stmt} {rest : List Stmt} {env : Env} {Q : Flow → Shared → Prop} (h : wpAny (model PR w) A (exec st env) (kont (model PR w) A rest env Q E) E s) : wpAny (model PR w) A (execs (st :: rest) env) Q E s := wpAny_execs_cons h
theorem x_nil {env : Env} {Q : Flow → Shared → Prop} (h : Q .next s) : wpAny (model PR w) A (execs [] env) Q E s := wpAny_execs_nil h
theorem x_return {v : PySem.Expr} {pos : Pos} {rest : List Stmt} {env : Env} {Q : Flow → Shared → Prop} (h : wpAny (model PR w) A (eval v env) (fun v => Q (.ret v)) E s) : wpAny (model PR w) A (execs (.Return (some v) pos :: rest) env) Q E s :=
  x_cons (wpAny_Return_some (wpAny_mono h (fun _ _ x => kont_ret x) fun _ _ x => x))
theorem x_assign {x : Str} {pos' pos : Pos} {value : PySem.Expr} {rest : List Stmt} {env : Env} {Q : Flow → Shared → Prop}
    (h : wpAny (model PR w) A (eval value env) (fun v s₁ => wpAny (model PR w) A (storeName env x v) (fun _ s₂ => wpAny (model PR w) A (execs rest env) Q E s₂) E s₁) E s)
    (hs : swapsWith value (some (.Name x pos')) pos.line env = pure false) : wpAny (model PR w) A (execs (.Assign [.Name x pos'] value pos :: rest) env) Q E s := x_cons (wpAny_Assign_Name h hs)
theorem x_if {test : PySem.Expr} {body orelse : List Stmt} {pos : Pos} {rest : List Stmt} {env : Env} {Q : Flow → Shared → Prop}
    (h : wpAny (model PR w) A (isTrue test env (eval test env)) (fun b s₂ => if b = true then wpAny (model PR w) A (execs body env) (kont (model PR w) A rest env Q E) E s₂ else wpAny (model PR w) A (execs orelse env) (kont (model PR w) A rest env Q E) E s₂) E s) :
    wpAny (model PR w) A (execs (.If test body orelse pos :: rest) env) Q E s := x_cons (wpAny_If h)
theorem x_expr {v : PySem.Expr} {pos : Pos} {rest : List Stmt} {env : Env} {Q : Flow → Shared → Prop} (h : wpAny (model PR w) A (eval v env) (fun _ s₂ => wpAny (model PR w) A (execs rest env) Q E s₂) E s)
    (hi : interactive env = false) (hs : swapsWith v none pos.line env = pure false) : wpAny (model PR w) A (execs (.Expr v pos :: rest) env) Q E s := x_cons (wpAny_Expr_any h hi hs)
theorem x_setattr {o : PySem.Expr} {attr : Str} {pos' pos : Pos} {value : PySem.Expr} {rest : List Stmt} {env : Env} {Q : Flow → Shared → Prop}
    (h : wpAny (model PR w) A (eval value env) (fun v s₁ => wpAny (model PR w) A (eval o env) (fun ov s₂ => wpAny (model PR w) A (setAttr ov attr v) (fun _ s₃ => wpAny (model PR w) A (execs rest env) Q E s₃) E s₂) E s₁) E s)
    (hs : swapsWith value (some (.Attribute o attr pos')) pos.line env = pure false) : wpAny (model PR w) A (execs (.Assign [.Attribute o attr pos'] value pos :: rest) env) Q E s := x_cons (plainObj_wpAny_Assign_Attribute h hs)

/-- into a def's body; what is raised goes on as it is -/
theorem enterE {R : Result → Shared → Prop} {name qual : Str} {params : Arguments} {body : List Stmt} {scope : Scope} {dV kV doc pm cdv ct oc : Value} {an od : Option Addr} {osl : Array (Option Value)} {args : Args} {binds : List (Str × Value)}
    (C : Cx w g A (d + 1)) (H : Has g led s.heap)
    (ho : (heap w.params).lookup f = some ⟨oc, od, .func (fnOf name qual params body scope dV kV doc pm an cdv ct), osl⟩) (hcd : codeIn (heap w.params) cdv qual = true)
    (hbind : BindsTo s (fnOf name qual params body scope dV kV doc pm an cdv ct) args binds) (hloc : ∀ y ∈ binds, scope.names.lookup y.1 = some .local)
    (h : ∀ L s', St ⟨g, led, s, []⟩ g L (fun x => binds.reverse.lookup x) led s' → Cx w g (A.deeper (envOf qual scope L f cdv)) d →
      wpAny (model PR w) (A.deeper (envOf qual scope L f cdv)) (execs body (envOf qual scope L f cdv))
        (fnK R)
        (fun e s' => wpAny (model PR w) (A.deeper (envOf qual scope L f cdv)) (leaving (envOf qual scope L f cdv) e) (fun _ s'' => R (.error e) s'') (fun e' s'' => R (.error e') s'') s') s')
    (hco : scope.isCoroutine = false) (hgen : scope.isGenerator = false) (hk : scope.kind = .function)
    (hcell : ∀ x ∈ scope.names, x.2 ≠ .cell) : codeAny (model PR w) A (.call (.ref f) args) R s := by
  obtain ⟨_, _, _, T⟩ := C.T
  refine codeAny_call_def (fd := fnOf name qual params body scope dV kV doc pm an cdv ct) (body := body) (binds := binds) (Nat.lt_of_le_of_lt C.depth (by show 500 < 1000 + (d+1); omega) |> fun x => by show A.depth < 1000; have := C.depth; omega)
    ((C.X.keeps H.keep) _ _ ho) rfl (T.nolimit.keeps H.keep) (codeRec_of (C.X.keeps H.keep) hcd) rfl hbind hcell hloc (fun h₁ hns hk₁ => ?_) hco hgen hk
  refine h s.heap.objs.size _ ⟨⟨⟨fun b o q => hk₁ b o (H.keep b o q), fun p hp => ⟨hk₁ _ _ (H.at_ p hp).1, (H.at_ p hp).2⟩, H.nd⟩, fun _ _ q => q, fun a o q _ => ⟨o, hk₁ a o q, .refl o⟩, fun _ _ q => .inl q, fun _ q => .inl q, .keeps hk₁, rfl, rfl⟩, hns, fresh_size H.keep, fun q => ?_, fresh_size fun _ _ q => q⟩ (C.deeper _)
  obtain ⟨p, hp, e'⟩ := List.mem_map.mp q
  have := Heap.lt_size (H.at_ p hp).1
  rw [e'] at this; exact Nat.lt_irrefl _ this

theorem enter {R : Result → Shared → Prop} {name qual : Str} {params : Arguments} {body : List Stmt} {scope : Scope} {dV kV doc pm cdv ct oc : Value} {an od : Option Addr} {osl : Array (Option Value)} {args : Args} {binds : List (Str × Value)}
    (C : Cx w g A (d + 1)) (H : Has g led s.heap)
    (ho : (heap w.params).lookup f = some ⟨oc, od, .func (fnOf name qual params body scope dV kV doc pm an cdv ct), osl⟩) (hcd : codeIn (heap w.params) cdv qual = true)
    (hbind : BindsTo s (fnOf name qual params body scope dV kV doc pm an cdv ct) args binds) (hloc : ∀ y ∈ binds, scope.names.lookup y.1 = some .local)
    (h : ∀ L s', St ⟨g, led, s, []⟩ g L (fun x => binds.reverse.lookup x) led s' → Cx w g (A.deeper (envOf qual scope L f cdv)) d →
      wpAny (model PR w) (A.deeper (envOf qual scope L f cdv)) (execs body (envOf qual scope L f cdv))
        (fnK R) (fun _ _ => False) s')
    (hco : scope.isCoroutine = false) (hgen : scope.isGenerator = false) (hk : scope.kind = .function)
    (hcell : ∀ x ∈ scope.names, x.2 ≠ .cell) : codeAny (model PR w) A (.call (.ref f) args) R s :=
  enterE C H ho hcd hbind hloc (fun L s' S C' => wpAny_mono (h L s' S C') (fun _ _ x => x) fun _ _ x => x.elim) hco hgen hk hcell

theorem r_local {x : Str} {pos : Pos} {v : Value} {Q : Value → Shared → Prop} (S : St e g L m led s) (hv : m x = some v) (h : Q v s)
    (hk : sc.kind = .function) (hl : (envOf qn sc L f cd).kindOf x = some .local) (hd : (x == ("__debug__" : Str)) = false) :
    wpAny (model PR w) A (eval (.Name x pos) (envOf qn sc L f cd)) Q E s := wpAny_Name (wpAny_loadName_local hk hl S.ns hv h) hd

theorem r_glob {x : Str} {pos : Pos} {v : Value} {Q : Value → Shared → Prop} (C : Cx w g A d) (S : St e g L m led s) (hv : nsIn (heap w.params) mainGlobals x = some (some v)) (h : Q v s)
    (hk : sc.kind = .function) (hl : (envOf qn sc L f cd).kindOf x = some .globalImplicit) (hd : (x == ("__debug__" : Str)) = false) :
    wpAny (model PR w) A (eval (.Name x pos) (envOf qn sc L f cd)) Q E s :=
  let ⟨_, _, _, T⟩ := C.T
  Name_function_global hk hl (loadGlobal_global (env := envOf qn sc L f cd) (T.g.keeps S.keep) (mg_of C.X T.g hv) h) hd

theorem r_bi {x : Str} {pos : Pos} {v : Value} {Q : Value → Shared → Prop} (C : Cx w g A d) (S : St e g L m led s) (hv : nsIn (heap w.params) mainGlobals x = some none) (hb : bootBuiltins x = some v) (hn : x ≠ "__name__") (h : Q v s)
    (hk : sc.kind = .function) (hl : (envOf qn sc L f cd).kindOf x = some .globalImplicit) (hd : (x == ("__debug__" : Str)) = false) :
    wpAny (model PR w) A (eval (.Name x pos) (envOf qn sc L f cd)) Q E s :=
  let ⟨_, _, _, T⟩ := C.T
  Name_function_global hk hl (loadGlobal_builtin (env := envOf qn sc L f cd) (T.g.keeps S.keep) (mg_none_of C.X T.g hv) (T.b.keeps S.keep) ((T.builtins x hn).trans hb) h) hd

theorem r_int {i : Int} {k pos} {Q : Value → Shared → Prop} {env : Env} (S : St e g L m led s) (h : ∀ tk s', St e g L m led s' → Q (.int i tk) s') : wpAny (model PR w) A (eval (.Constant (.int i) k pos) env) Q E s :=
  wpAny_Constant_int (h _ _ S.tok)
theorem r_str {x : Str} {k pos} {Q : Value → Shared → Prop} {env : Env} (S : St e g L m led s) (h : ∀ tk s', St e g L m led s' → Q (.str x tk) s') : wpAny (model PR w) A (eval (.Constant (.str x) k pos) env) Q E s :=
  wpAny_Constant_str (h _ _ S.tok)
theorem r_bool {b : Bool} {k pos} {Q : Value → Shared → Prop} {env : Env} (h : Q (.bool b) s) : wpAny (model PR w) A (eval (.Constant (.bool b) k pos) env) Q E s :=
  wpAny_Constant_bool h
theorem r_store {x : Str} {v : Value} {Q : Unit → Shared → Prop} (S : St e g L m led s) (h : ∀ s', St e g L (fun y => if y = x then some v else m y) led s' → Q () s')
    (hk : sc.kind = .function) (hl : (envOf qn sc L f cd).kindOf x = some .local) : wpAny (model PR w) A (storeName (envOf qn sc L f cd) x v) Q E s :=
  wpAny_storeName_local hl S.ns (fun h' hn hs => h _ (S.set hn hs)) (by show (sc.kind == .class || (sc.kind == .module && L != mainGlobals)) = false; rw [hk]; rfl)
end

/-- the end of a plain function: a value that is no reference, nothing turned -/
def Gives (g : Heap) (led : Led) (s : Shared) (v : Value → Prop) (r : Result) (s' : Shared) : Prop := (∃ x, r = .ok (.ret x) ∧ v x) ∧ Ran g led s g led s'
end Mine
/- M3 -/
namespace Mine
open PySem PySem.W PySem.Calls PyProof.Rows
set_option maxHeartbeats 200000

section
variable {w : World} {A : Around} {E : Value → Shared → Prop} {s : Shared} {e : Ent} {g : Heap} {L f : Addr} {m : Str → Option Value} {led rest : Led} {d : Nat}

theorem St.lose {a : Addr} {o : Obj} (S : St e g L m ((a, o) :: rest) s) {h' : Heap} {tk : Nat} (hs : Heap.ExtBut a s.heap h') (hf : ∃ vs, o.data = .fields vs) : St e g L m rest { s with heap := h', toks := tk } := by
  have ha := S.get (.head _)
  have nd := S.ran.has.nd
  rw [List.map_cons, List.nodup_cons] at nd
  have ga := (S.ran.has.at_ _ (.head _)).2
  have hg : ∀ b o, g.get? b = some o → b ≠ a := fun b o h q => by rw [q, ga] at h; cases h
  have La : L ≠ a := fun q => S.lL (by rw [List.map_cons, q]; exact .head _)
  refine ⟨⟨⟨fun b o h => hs b o (hg b o h) (S.keep b o h), ?_, nd.2⟩, S.ran.le, ?_, S.ran.freshG, fun x h => S.ran.freshL x (by rw [List.map_cons]; exact .tail _ h), ?_, S.ran.gens, S.ran.os⟩, S.ns.extBut hs La, S.gL, fun q => S.lL (by rw [List.map_cons]; exact .tail _ q), S.eL⟩
  · intro p hp
    have hne : p.1 ≠ a := fun q => nd.1 (q ▸ (mem_map_fst hp : p.1 ∈ rest.map (·.1)))
    exact ⟨hs _ _ hne (S.get (.tail _ hp)), (S.ran.has.at_ p (.tail _ hp)).2⟩
  · intro b x h n
    obtain ⟨x', h', y⟩ := S.ran.frame b x h n
    refine ⟨x', hs b x' (fun q => ?_) h', y⟩
    subst q
    rcases S.ran.freshL b (by rw [List.map_cons]; exact .head _) with h' | h'
    · exact n h'
    · rw [h] at h'; cases h'
  · refine S.ran.shape.trans fun b x h n => ?_
    by_cases q : b = a
    · subst q; rw [ha] at h; cases h; obtain ⟨vs, hv⟩ := hf; exact absurd hv (n vs)
    · exact ⟨x, hs b x q h, n⟩

/-- a new object beside others that are kept -/
theorem St.extNew (S : St e g L m led s) {h' : Heap} {tk : Nat} (hs : Heap.ExtBut s.heap.objs.size s.heap h') : St e g L m led { s with heap := h', toks := tk } :=
  S.grow fun b o q => hs b o (Nat.ne_of_lt (Heap.lt_size q)) q

-- ints
theorem r_add {a b : Int} {t u : Tok} {Q : Value → Shared → Prop} (S : St e g L m led s) (h : ∀ tk s', St e g L m led s' → Q (.int (a + b) tk) s') : wpAny (model PR w) A (binaryOp .Add (.int a t) (.int b u)) Q E s := PyProof.Rows.add_int (h _ _ S.tok)
theorem r_sub {a b : Int} {t u : Tok} {Q : Value → Shared → Prop} (S : St e g L m led s) (h : ∀ tk s', St e g L m led s' → Q (.int (a - b) tk) s') : wpAny (model PR w) A (binaryOp .Sub (.int a t) (.int b u)) Q E s := PyProof.Rows.sub_int (h _ _ S.tok)
theorem r_mul {a b : Int} {t u : Tok} {Q : Value → Shared → Prop} (S : St e g L m led s) (hm : IntMulOk a b) (h : ∀ tk s', St e g L m led s' → Q (.int (a * b) tk) s') : wpAny (model PR w) A (binaryOp .Mult (.int a t) (.int b u)) Q E s := PyProof.Rows.mul_int (h _ _ S.tok) hm
theorem r_mod {a b : Int} {t u : Tok} {Q : Value → Shared → Prop} (S : St e g L m led s) (hb : 0 < b) (h : ∀ tk s', St e g L m led s' → Q (.int (a % b) tk) s') : wpAny (model PR w) A (binaryOp .Mod (.int a t) (.int b u)) Q E s :=
  PyProof.Rows.mod_int' (by omega) (by rw [Int.fmod_eq_emod_of_nonneg a (by omega)]; exact h _ _ S.tok)
theorem r_fdiv {a b : Int} {t u : Tok} {Q : Value → Shared → Prop} (S : St e g L m led s) (hb : 0 < b) (hs : b < 1073741824) (h : ∀ tk s', St e g L m led s' → Q (.int (a / b) tk) s') : wpAny (model PR w) A (binaryOp .FloorDiv (.int a t) (.int b u)) Q E s :=
  PyProof.Rows.floordiv_int (by omega) (by rw [Int.fdiv_eq_ediv_of_nonneg a (by omega)]; exact h _ _ S.tok) (.inl (PyProof.noPylong_small (by omega)))
theorem r_pow {a n : Int} {t u : Tok} {Q : Value → Shared → Prop} (S : St e g L m led s) (hn : 0 ≤ n) (hz : (Builtin.Int.intBits a : Int) * n ≤ 2 ^ 27) (h : ∀ tk s', St e g L m led s' → Q (.int (a ^ n.toNat) tk) s') : wpAny (model PR w) A (binaryOp .Pow (.int a t) (.int n u)) Q E s := PyProof.Rows.pow_int hn hz (h _ _ S.tok)
theorem r_neg {a : Int} {t : Tok} {Q : Value → Shared → Prop} (S : St e g L m led s) (h : ∀ tk s', St e g L m led s' → Q (.int (-a) tk) s') : wpAny (model PR w) A (unaryOp .USub (.int a t)) Q E s := PyProof.Rows.neg_int (h _ _ S.tok)
-- strs
theorem r_cat {x y : Str} {t u : Tok} {Q : Value → Shared → Prop} (S : St e g L m led s) (hz : x.length + y.length ≤ sizeLine) (h : ∀ tk s', St e g L m led s' → Q (.str (x ++ y) tk) s') : wpAny (model PR w) A (binaryOp .Add (.str x t) (.str y u)) Q E s :=
  PyProof.Rows.add_str (fun _ _ => h _ _ S.tok) hz
theorem r_ord {x : Str} {t : Tok} {Q : Value → Shared → Prop} (S : St e g L m led s) (h1 : x.length = 1) (h : ∀ tk s', St e g L m led s' → Q (.int (x.cps.getD 0 0 : Nat) tk) s') : wpAny (model PR w) A (call (.builtin "ord") [.str x t]) Q E s :=
  PyProof.Rows.ord_of_one h1 (h _ _ S.tok)
theorem r_lenS {x : Str} {t : Tok} {Q : Value → Shared → Prop} (S : St e g L m led s) (hz : x.length ≤ sizeLine) (h : ∀ tk s', St e g L m led s' → Q (.int (x.length : Nat) tk) s') : wpAny (model PR w) A (call (.builtin "len") [.str x t]) Q E s :=
  PyProof.Rows.len_str (by rw [sizeLine_eq] at hz; omega) (h _ _ S.tok)
theorem r_find3 {x y : Str} {t u v : Tok} {i : Int} {Q : Value → Shared → Prop} (S : St e g L m led s) (h : ∀ tk s', St e g L m led s' → Q (.int (Txt.find3 x y i) tk) s') : wpAny (model PR w) A (call (.builtin "str.find") [.str x t, .str y u, .int i v]) Q E s :=
  SC.find3 (h _ _ S.tok)
theorem r_ends {x y : Str} {t u : Tok} {Q : Value → Shared → Prop} (h : Q (.bool (Txt.endswith x y)) s) : wpAny (model PR w) A (call (.builtin "str.endswith") [.str x t, .str y u]) Q E s :=
  SC.endswith h
theorem r_item {x : Str} {t u : Tok} {i : Nat} {c : Nat} {value slice : Expr} {Q : Value → Shared → Prop} (S : St e g L m led s) (hz : x.length ≤ sizeLine) (hc : x.cps[i]? = some c) (h : ∀ tk s', St e g L m led s' → Q (.str ⟨#[c]⟩ tk) s')
    (hs : subscripted slice false (.str x t) (.int i u) = operate [.str x t, .int i u] (getItem (.str x t) (.int i u)) := by with_unfolding_all rfl) :
    wpAny (model PR w) A (subscriptTail value slice (.str x t) (.int i u)) Q E s := by
  have hi : i < x.length := by
    have := Array.getElem?_eq_some_iff.mp hc
    exact this.1
  rw [sizeLine_eq] at hz
  refine tail_any (typeIs_str s x t) slot_str_getitem.lookup (PyProof.Rows.getItem_str ?_ ?_ (h _ _ S.tok)) hs
  · simp only [Bool.or_eq_false_iff, decide_eq_false_iff_not]; omega
  · have e1 : seqIndex? (i : Int) x.length = some i := by
      unfold seqIndex?
      simp only [show ¬ ((i : Int) < 0) by omega, if_false]
      simp [hi]
    rw [e1]; exact hc
end
end Mine
/- M4 -/
namespace Mine
open PySem PySem.W PySem.Calls PyProof.Rows
set_option maxHeartbeats 200000

section
variable {w : World} {A : Around} {E : Value → Shared → Prop} {s : Shared} {e : Ent} {g g' : Heap} {L f : Addr} {m : Str → Option Value} {led led₁ led₁' rest : Led} {d : Nat}

/-- from a frame: call what has a contract -/
theorem r_call {f : Value} {args : List Value} {R : Result → Shared → Prop} {Q : Value → Shared → Prop} (hc : codeAny (model PR w) A (.call f ⟨args, []⟩) R s)
    (h : ∀ r s', R r s' → ∃ v, r = .ok (.ret v) ∧ Q v s') : wpAny (model PR w) A (call f args []) Q E s :=
  wpAny_call (codeAny_mono hc fun r s' q => by obtain ⟨v, rfl, k⟩ := h r s' q; exact k)

/-- a contract that gives back one value and leaves all as it was -/
def Pure (g : Heap) (s : Shared) (v : Value → Prop) (r : Result) (s' : Shared) : Prop := ∃ x, r = .ok (.ret x) ∧ v x ∧ Ran g [] s g [] s'
theorem r_pure {f : Value} {args : List Value} {v : Value → Prop} {Q : Value → Shared → Prop} (S : St e g L m led s) (hc : codeAny (model PR w) A (.call f ⟨args, []⟩) (Pure g s v) s)
    (h : ∀ x s', v x → St e g L m led s' → Q x s') : wpAny (model PR w) A (call f args []) Q E s :=
  r_call hc fun _ s' ⟨x, hr, hv, R⟩ => ⟨x, hr, h x s' hv (St.ret (led₁ := []) (led₁' := []) S R)⟩
theorem St.has0 (S : St e g L m led s) : Has g [] s.heap := ⟨S.keep, fun _ h => (nomatch h), .nil⟩
theorem St.pure {g : Heap} {s0 s : Shared} {v : Value → Prop} {x : Value} {L : Addr} {m : Str → Option Value} (S : St ⟨g, [], s0, []⟩ g L m [] s) (h : v x) : Pure g s0 v (.ok (.ret x)) s := ⟨x, rfl, h, S.ran⟩

theorem boolOp_one {x : Sem Value} {pos : Pos} {op : BoolOp} {Q : Value → Shared → Prop} (h : wpAny (model PR w) A x Q E s) : wpAny (model PR w) A (boolOp pos op [x]) Q E s := h
theorem boolOp_or {x y : Sem Value} {ys : List (Sem Value)} {pos : Pos} {Q : Value → Shared → Prop}
    (h : wpAny (model PR w) A x (fun v s₁ => wpAny (model PR w) A (truthy v) (fun t s₂ => if t then Q v s₂ else wpAny (model PR w) A (boolOp pos .Or (y :: ys)) Q E s₂) E s₁) E s) : wpAny (model PR w) A (boolOp pos .Or (x :: y :: ys)) Q E s := by
  show wpAny _ _ (do let v ← x; standAt pos; let t ← holding [v] (truthy v); match BoolOp.Or, t with | .And, false | .Or, true => pure v | _, _ => boolOp pos .Or (y :: ys)) Q E s
  refine wpAny_bind (wpAny_mono h (fun v s₁ h₁ => wpAny_bind (wpAny_standAt (wpAny_bind (wpAny_holding (wpAny_mono h₁ (fun t s₂ h₂ => ?_) fun _ _ x => x))))) fun _ _ x => x)
  cases t with
  | true => exact wpAny_pure h₂
  | false => exact h₂
theorem boolOp_and {x y : Sem Value} {ys : List (Sem Value)} {pos : Pos} {Q : Value → Shared → Prop}
    (h : wpAny (model PR w) A x (fun v s₁ => wpAny (model PR w) A (truthy v) (fun t s₂ => if t then wpAny (model PR w) A (boolOp pos .And (y :: ys)) Q E s₂ else Q v s₂) E s₁) E s) : wpAny (model PR w) A (boolOp pos .And (x :: y :: ys)) Q E s := by
  show wpAny _ _ (do let v ← x; standAt pos; let t ← holding [v] (truthy v); match BoolOp.And, t with | .And, false | .Or, true => pure v | _, _ => boolOp pos .And (y :: ys)) Q E s
  refine wpAny_bind (wpAny_mono h (fun v s₁ h₁ => wpAny_bind (wpAny_standAt (wpAny_bind (wpAny_holding (wpAny_mono h₁ (fun t s₂ h₂ => ?_) fun _ _ x => x))))) fun _ _ x => x)
  cases t with
  | true => exact h₂
  | false => exact wpAny_pure h₂
theorem eval_boolOp {op : BoolOp} {x : Expr} {xs : List Expr} {pos : Pos} {env : Env} {Q : Value → Shared → Prop} (h : wpAny (model PR w) A (boolOp pos op (eval x env :: evalEach xs env)) Q E s) : wpAny (model PR w) A (eval (.BoolOp op (x :: xs) pos) env) Q E s := by
  rw [arm_eval_BoolOp]; exact h
theorem evalEach_cons {x : Expr} {xs : List Expr} {env : Env} : evalEach (x :: xs) env = eval x env :: evalEach xs env := rfl
theorem boolOp_orE {x : Sem Value} {y : Expr} {ys : List Expr} {env : Env} {pos : Pos} {Q : Value → Shared → Prop}
    (h : wpAny (model PR w) A x (fun v s₁ => wpAny (model PR w) A (truthy v) (fun t s₂ => if t then Q v s₂ else wpAny (model PR w) A (boolOp pos .Or (eval y env :: evalEach ys env)) Q E s₂) E s₁) E s) : wpAny (model PR w) A (boolOp pos .Or (x :: evalEach (y :: ys) env)) Q E s := boolOp_or h
theorem boolOp_andE {x : Sem Value} {y : Expr} {ys : List Expr} {env : Env} {pos : Pos} {Q : Value → Shared → Prop}
    (h : wpAny (model PR w) A x (fun v s₁ => wpAny (model PR w) A (truthy v) (fun t s₂ => if t then wpAny (model PR w) A (boolOp pos .And (eval y env :: evalEach ys env)) Q E s₂ else Q v s₂) E s₁) E s) : wpAny (model PR w) A (boolOp pos .And (x :: evalEach (y :: ys) env)) Q E s := boolOp_and h
theorem boolOp_oneE {x : Sem Value} {env : Env} {pos : Pos} {op : BoolOp} {Q : Value → Shared → Prop} (h : wpAny (model PR w) A x Q E s) : wpAny (model PR w) A (boolOp pos op (x :: evalEach [] env)) Q E s := h

theorem chain_linkE {pos : Pos} {a : Value} {op op' : CmpOp} {ops : List CmpOp} {r r' : Expr} {rs : List Expr} {env : Env} {Q : Value → Shared → Prop}
    (h : wpAny (model PR w) A (eval r env) (fun b s₁ => wpAny (model PR w) A (compareOp op a b) (fun c s₂ => wpAny (model PR w) A (truthy c)
      (fun t s₃ => if t then wpAny (model PR w) A (compareChain pos b (op' :: ops) (eval r' env :: evalEach rs env)) Q E s₃ else Q c s₃) E s₂) E s₁) E s) :
    wpAny (model PR w) A (compareChain pos a (op :: op' :: ops) (eval r env :: eval r' env :: evalEach rs env)) Q E s := chain_link h
theorem chain_lastE {pos : Pos} {a : Value} {op : CmpOp} {r : Expr} {env : Env} {Q : Value → Shared → Prop}
    (h : wpAny (model PR w) A (eval r env) (fun b s₁ => wpAny (model PR w) A (compareOp op a b) Q E s₁) E s) : wpAny (model PR w) A (compareChain pos a [op] (eval r env :: evalEach [] env)) Q E s := chain_last h

theorem r_callW {f : Addr} {pos : Pos} {first : List Value} {x : Expr} {rest : List Expr} {env : Env} {Q : Value → Shared → Prop} (C : Cx w g A d) (hk : keepIn (heap w.params) (.ref f) = true)
    (h : wpAny (model PR w) A (spliced (backTo pos (starEach (x :: rest) env))) (fun vs s₁ => (heap w.params).In s₁.heap ∧ wpAny (model PR w) A (call (.ref f) (first ++ vs)) Q E s₁) E s)
    (he : starEach (x :: rest) env = (false, eval x env) :: starEach rest env) (hplain : (backTo pos (starEach rest env)).any (·.1) = false) :
    wpAny (model PR w) A (callWith pos (.ref f) first (backTo pos (starEach (x :: rest) env)) (backToKw pos (keywordEach [] env))) Q E s := callWith_K C.X hk h he hplain
theorem r_callW0 {f : Addr} {pos : Pos} {first : List Value} {env : Env} {Q : Value → Shared → Prop} (C : Cx w g A d) (S : St e g L m led s) (hk : keepIn (heap w.params) (.ref f) = true)
    (h : wpAny (model PR w) A (call (.ref f) (first ++ [])) Q E s) :
    wpAny (model PR w) A (callWith pos (.ref f) first (backTo pos (starEach [] env)) (backToKw pos (keywordEach [] env))) Q E s := callWith_K0 (C.X.keeps S.keep) hk h
theorem r_callB {id : String} {pos : Pos} {x : Expr} {rest : List Expr} {env : Env} {Q : Value → Shared → Prop}
    (h : wpAny (model PR w) A (spliced (backTo pos (starEach (x :: rest) env))) (fun vs s₁ => wpAny (model PR w) A (call (.builtin id) vs) Q E s₁) E s)
    (he : starEach (x :: rest) env = (false, eval x env) :: starEach rest env) (hp : (backTo pos (starEach rest env)).any (·.1) = false) :
    wpAny (model PR w) A (callWith pos (.builtin id) [] (backTo pos (starEach (x :: rest) env)) (backToKw pos (keywordEach [] env))) Q E s := PyProof.Rows.callWith_builtin1 h he hp
theorem r_callT {T : String} {pos : Pos} {x : Expr} {rest : List Expr} {env : Env} {Q : Value → Shared → Prop}
    (h : wpAny (model PR w) A (spliced (backTo pos (starEach (x :: rest) env))) (fun vs s₁ => wpAny (model PR w) A (call (.type T) vs) Q E s₁) E s)
    (he : starEach (x :: rest) env = (false, eval x env) :: starEach rest env) (hp : (backTo pos (starEach rest env)).any (·.1) = false) :
    wpAny (model PR w) A (callWith pos (.type T) [] (backTo pos (starEach (x :: rest) env)) (backToKw pos (keywordEach [] env))) Q E s := PyProof.Rows.callWith_type1 h he hp
theorem inK (C : Cx w g A d) (S : St e g L m led s) {P : Prop} (h : P) : (heap w.params).In s.heap ∧ P := ⟨C.X.keeps S.keep, h⟩
theorem ite_t {b : Bool} {P Q : Prop} (hb : b = true) (h : P) : if b = true then P else Q := by rw [if_pos hb]; exact h
theorem ite_f {b : Bool} {P Q : Prop} (hb : b = false) (h : Q) : if b = true then P else Q := by rw [if_neg (by rw [hb]; decide)]; exact h
theorem ite_c {b : Bool} {P Q : Prop} (h1 : b = true → P) (h2 : b = false → Q) : if b = true then P else Q := by
  cases b
  · rw [if_neg (by decide)]; exact h2 rfl
  · rw [if_pos rfl]; exact h1 rfl
end

-- small facts of strings
theorem lt1 (a b : Nat) : ([a] < [b]) = (a < b) := by
  apply propext; constructor
  · intro h; cases h with
    | rel h => exact h
    | cons h => cases h
  · intro h; exact .rel h
end Mine
/- M5 -/
namespace Mine
open PySem PySem.W PySem.Calls PyProof.Rows
set_option maxHeartbeats 200000

abbrev noE : Value → Shared → Prop := fun _ _ => False

section
variable {w : World} {A : Around} {E : Value → Shared → Prop} {s : Shared} {e : Ent} {g : Heap} {L : Addr} {m : Str → Option Value} {led rest : Led} {d : Nat} {env : Env}

/-- the ledger's first turned by a step that keeps all else -/
theorem St.turn {a : Addr} {o : Obj} (S : St e g L m ((a, o) :: rest) s) {h' : Heap} {o' : Obj} {tk : Nat} (hs : ∀ b x, b ∉ [a] → s.heap.get? b = some x → h'.get? b = some x) (hf : ∃ vs, o.data = .fields vs) (ho : h'.get? a = some o') :
    St e g L m ((a, o') :: rest) { s with heap := h', toks := tk } := by
  have S' := S.lose (h' := h') (tk := tk) (fun b x n q => hs b x (by simpa using n) q) hf
  have ga := (S.ran.has.at_ _ (.head _)).2
  have nd := S.ran.has.nd
  refine ⟨⟨⟨S'.keep, ?_, by rw [List.map_cons] at nd ⊢; exact nd⟩, S'.ran.le, S'.ran.frame, S'.ran.freshG, ?_, S'.ran.shape, S'.ran.gens, S'.ran.os⟩, S'.ns, S'.gL, ?_, S'.eL⟩
  · intro p hp
    rcases List.mem_cons.mp hp with rfl | hp
    · exact ⟨ho, ga⟩
    · exact S'.ran.has.at_ p hp
  · intro x h
    rw [List.map_cons] at h
    exact S.ran.freshL x (by rw [List.map_cons]; exact h)
  · have := S.lL
    rw [List.map_cons] at this ⊢; exact this

theorem x_while {test : PySem.Expr} {body : List Stmt} {pos : Pos} {rest : List Stmt} {Q : Flow → Shared → Prop} (I : Nat → Shared → Prop) (n : Nat) (h : I n s)
    (turn : ∀ n s, I n s → wpAny (model PR w) A (isTrue test env (eval test env)) (fun b s₂ =>
      if b = true then wpAny (model PR w) A (execs body env) (fun f s₃ => match f with
            | .next | .cont => ∃ m, m < n ∧ I m s₃
            | .brk => wpAny (model PR w) A (execs rest env) Q E s₃
            | .ret v => Q (.ret v) s₃) noE s₂
        else wpAny (model PR w) A (execs rest env) Q E s₂) noE s) :
    wpAny (model PR w) A (execs (.While test body [] pos :: rest) env) Q E s := by
  refine x_cons (wpAny_While (codeAny_whileLoop I (fun n s hI => ?_) n h))
  refine wpAny_mono (turn n s hI) (fun b s₂ h₂ => ?_) fun _ _ x => x.elim
  cases b with
  | true =>
    rw [if_pos rfl] at h₂ ⊢
    refine wpAny_mono h₂ (fun f s₃ h₃ => ?_) fun _ _ x => x.elim
    cases f <;> exact h₃
  | false =>
    rw [if_neg (by decide)] at h₂ ⊢
    exact x_nil h₂

/-- a loop over what walks: the source frozen in g, its iterator at the ledger's head -/
theorem loopW {target : PySem.Expr} {I : Addr} {o : Obj} {body : List Stmt} {Q : Flow → Shared → Prop} {fp : List Addr} {n : Nat} {P : Nat → Value → Prop} {W' : Nat → Heap → Prop}
    (W : Walks PR w A I fp [I] n P W') (live : ∀ i h, W' i h → ∃ o, h.get? I = some o ∧ ∃ vs, o.data = .fields vs) (hfp : ∀ b ∈ fp, b ≠ I → ∃ o, g.get? b = some o)
    (go : ∀ i v (s : Shared) (Q : Unit → Shared → Prop) (E : Value → Shared → Prop), W' i s.heap → Q () s → wpAny (model PR w) A (letOwnedTupleGo target (.ref I) v) Q E s)
    (J : Nat → Heap → (Str → Option Value) → Led → Prop)
    (S : St e g L m ((I, o) :: led) s) (hst : W' 0 s.heap) (h0 : J 0 g m led)
    (turn : ∀ i v g' m' led' o' s', i < n → g.StaysIn g' → J i g' m' led' → P i v → St e g' L m' ((I, o') :: led') s' →
      wpAny (model PR w) A (assign target env v) (fun _ s₂ => wpAny (model PR w) A (execs body env) (fun f s₃ => match f with
            | .next | .cont => ∃ g'' m'' led'', g'.StaysIn g'' ∧ J (i + 1) g'' m'' led'' ∧ St e g'' L m'' ((I, o') :: led'') s₃
            | .brk => Q .next s₃
            | .ret v => Q (.ret v) s₃) noE s₂) noE s')
    (fin : ∀ g' m' led' s', g.StaysIn g' → J n g' m' led' → St e g' L m' led' s' → Q .next s') :
    codeAny (model PR w) A (.forLoop target (.ref I) body [] env) (fun r s' => match r with | .ok f => Q f s' | .error e => cameBackBy (model PR w) A env E e s') s := by
  refine codeAny_forLoop_any (fun k s' => ∃ i g' m' led' o', i ≤ n ∧ k = n - i ∧ g.StaysIn g' ∧ J i g' m' led' ∧ St e g' L m' ((I, o') :: led') s' ∧ W' i s'.heap) ?_ n
    ⟨0, g, m, led, o, Nat.zero_le _, rfl, fun _ _ q => q, h0, S, hst⟩
  rintro k s' ⟨i, g', m', led', o', hi, rfl, hg, hJ, S', hw⟩
  have hf : ∃ vs, o'.data = .fields vs := by
    obtain ⟨o'', e1, e2⟩ := live i _ hw
    rw [S'.get (.head _)] at e1; cases e1; exact e2
  by_cases hlt : i < n
  · refine W.item i s' _ _ hlt hw fun v h' tk hP hw' hk => ?_
    obtain ⟨o'', ho'', hf''⟩ := live _ _ hw'
    have S₁ := S'.turn (tk := tk) hk hf ho''
    refine go (i + 1) v _ _ _ hw' ?_
    refine wpAny_mono (turn i v g' m' led' o'' _ hlt hg hJ hP S₁) (fun _ s₂ h₂ => ?_) fun _ _ x => x.elim
    refine wpAny_mono h₂ (fun f s₃ h₃ => ?_) fun _ _ x => x.elim
    have next : (∃ g'' m'' led'', g'.StaysIn g'' ∧ J (i + 1) g'' m'' led'' ∧ St e g'' L m'' ((I, o'') :: led'') s₃) → ∃ k', k' < n - i ∧ ∃ i' g'' m'' led'' o''', i' ≤ n ∧ k' = n - i' ∧ g.StaysIn g'' ∧ J i' g'' m'' led'' ∧ St e g'' L m'' ((I, o''') :: led'') s₃ ∧ W' i' s₃.heap := by
      rintro ⟨g'', m'', led'', hgg, hJ', S₃⟩
      refine ⟨n - (i + 1), by omega, i + 1, g'', m'', led'', o'', hlt, rfl, fun b x q => hgg b x (hg b x q), hJ', S₃, W.frame _ _ _ hw' fun b hb x q => ?_⟩
      by_cases hbI : b = I
      · subst hbI
        have e1 := S₁.get (.head _)
        rw [q] at e1; cases e1
        exact S₃.get (.head _)
      · obtain ⟨x', hx'⟩ := hfp b hb hbI
        have e1 := S₁.keep b x' (hg b x' hx')
        rw [q] at e1; cases e1
        exact S₃.keep b _ (hgg b _ (hg b _ hx'))
    cases f with
    | next => exact next h₃
    | cont => exact next h₃
    | brk => exact h₃
    | ret v => exact h₃
  · have hin : i = n := by omega
    subst hin
    refine W.done s' _ _ hw fun h' tk hk => ?_
    refine x_nil ?_
    exact fin g' m' led' _ hg hJ (S'.lose (fun b x nb q => hk b x (by simpa using nb) q) hf)

theorem loopList {target : PySem.Expr} {l : Addr} {items : Array Value} {body : List Stmt} {Q : Flow → Shared → Prop} (hh : A.handled = none) (hl : g.IsList l items)
    (J : Nat → Heap → (Str → Option Value) → Led → Prop) (S : St e g L m led s) (h0 : J 0 g m led)
    (turn : ∀ I i v g' m' led' o' s', i < items.size → g.StaysIn g' → J i g' m' led' → items[i]? = some v → St e g' L m' ((I, o') :: led') s' →
      wpAny (model PR w) A (assign target env v) (fun _ s₂ => wpAny (model PR w) A (execs body env) (fun f s₃ => match f with
            | .next | .cont => ∃ g'' m'' led'', g'.StaysIn g'' ∧ J (i + 1) g'' m'' led'' ∧ St e g'' L m'' ((I, o') :: led'') s₃
            | .brk => Q .next s₃
            | .ret v => Q (.ret v) s₃) noE s₂) noE s')
    (fin : ∀ g' m' led' s', g.StaysIn g' → J items.size g' m' led' → St e g' L m' led' s' → Q .next s') :
    wpAny (model PR w) A (pyIter (.ref l)) (fun it s₂ => codeAny (model PR w) A (.forLoop target it body [] env) (fun r s' => match r with | .ok f => Q f s' | .error e => cameBackBy (model PR w) A env E e s') s₂) E s := by
  obtain ⟨ol, hol, r⟩ := id hl
  have hls : s.heap.IsList l items := ⟨ol, S.keep _ _ hol, r⟩
  have hne : l ≠ s.heap.objs.size := Nat.ne_of_lt (Heap.lt_size (S.keep _ _ hol))
  refine wpAny_pyIter_list hls ?_
  refine loopW (Walks.list hh s.heap.objs.size l hne items) (fun i h x => let ⟨o, a, _, b⟩ := x.1; ⟨o, a, _, b⟩) ?_ (fun i v s Q E x q => letGo_listiter x.1 q) J (S.push rfl) ⟨⟨_, Heap.get?_push_size _ rfl, rfl, rfl⟩, hls.push _⟩ h0 (turn _) fin
  intro b hb hn
  simp only [List.mem_cons, List.not_mem_nil, or_false] at hb
  rcases hb with rfl | rfl
  · exact absurd rfl hn
  · exact ⟨ol, hol⟩

theorem loopTup {target : PySem.Expr} {l : Addr} {items : Array Value} {body : List Stmt} {Q : Flow → Shared → Prop} (hh : A.handled = none) (hl : g.IsTuple l items)
    (J : Nat → Heap → (Str → Option Value) → Led → Prop) (S : St e g L m led s) (h0 : J 0 g m led)
    (turn : ∀ I i v g' m' led' o' s', i < items.size → g.StaysIn g' → J i g' m' led' → items[i]? = some v → St e g' L m' ((I, o') :: led') s' →
      wpAny (model PR w) A (assign target env v) (fun _ s₂ => wpAny (model PR w) A (execs body env) (fun f s₃ => match f with
            | .next | .cont => ∃ g'' m'' led'', g'.StaysIn g'' ∧ J (i + 1) g'' m'' led'' ∧ St e g'' L m'' ((I, o') :: led'') s₃
            | .brk => Q .next s₃
            | .ret v => Q (.ret v) s₃) noE s₂) noE s')
    (fin : ∀ g' m' led' s', g.StaysIn g' → J items.size g' m' led' → St e g' L m' led' s' → Q .next s') :
    wpAny (model PR w) A (pyIter (.ref l)) (fun it s₂ => codeAny (model PR w) A (.forLoop target it body [] env) (fun r s' => match r with | .ok f => Q f s' | .error e => cameBackBy (model PR w) A env E e s') s₂) E s := by
  obtain ⟨ol, hol, r⟩ := id hl
  have hls : s.heap.IsTuple l items := ⟨ol, S.keep _ _ hol, r⟩
  have hne : l ≠ s.heap.objs.size := Nat.ne_of_lt (Heap.lt_size (S.keep _ _ hol))
  refine wpAny_pyIter_tuple hls ?_
  refine loopW (Walks.tuple hh s.heap.objs.size l hne items) (fun i h x => let ⟨o, a, _, b⟩ := x.1; ⟨o, a, _, b⟩) ?_ (fun i v s Q E x q => letGo_tupleiter x.1 q) J (S.push rfl) ⟨⟨_, Heap.get?_push_size _ rfl, rfl, rfl⟩, let ⟨o, a, b⟩ := hls; ⟨o, Heap.get?_push_of_some _ a, b⟩⟩ h0 (turn _) fin
  intro b hb hn
  simp only [List.mem_cons, List.not_mem_nil, or_false] at hb
  rcases hb with rfl | rfl
  · exact absurd rfl hn
  · exact ⟨ol, hol⟩

theorem x_for {target iter : PySem.Expr} {body : List Stmt} {pos : Pos} {rest : List Stmt} {Q : Flow → Shared → Prop}
    (h : wpAny (model PR w) A (eval iter env) (fun x s₁ => wpAny (model PR w) A (pyIter x) (fun it s₂ => codeAny (model PR w) A (.forLoop target it body [] env) (fun r s' => match r with | .ok f => kont (model PR w) A rest env Q E f s' | .error e => cameBackBy (model PR w) A env E e s') s₂) E s₁) E s)
    (hs : ∀ x, foldedSetIterable iter env x = pure x) : wpAny (model PR w) A (execs (.For target iter body [] pos :: rest) env) Q E s := x_cons (wpAny_For h hs)

/-- names of a tuple take its items -/
theorem r_unpack2 {x y : Str} {p₁ p₂ pos : Pos} {k : Nat} {t : Addr} {a b : Value} {Q : Unit → Shared → Prop} (hh : A.handled = none) (S : St e g L m led s) (ht : g.IsTuple t #[a, b])
    (h : ∀ s', St e g L m led s' → wpAny (model PR w) A (storeName env x a) (fun _ s₁ => wpAny (model PR w) A (storeName env y b) Q E s₁) E s') :
    wpAny (model PR w) A (assign (.Tuple [.Name x p₁, .Name y p₂] k pos) env (.ref t)) Q E s := by
  obtain ⟨o, ho, r⟩ := ht
  rw [assign_Tuple]
  refine wpAny_bind (wpAny_standAt ?_)
  refine unpack_tuple hh ⟨o, S.keep _ _ ho, r⟩ rfl rfl fun h' hx => ?_
  show wpAny _ _ (assignInOrder [assign (.Name x p₁) env, assign (.Name y p₂) env] [a, b]) _ _ _
  refine wpAny_assignInOrder_more (wpAny_assign_Name ?_)
  refine wpAny_mono (h _ (S.extNew hx)) (fun _ s₁ h₁ => wpAny_assignInOrder_more (wpAny_assign_Name (wpAny_mono h₁ (fun _ s₂ h₂ => wpAny_assignInOrder_none h₂) fun _ _ x => x))) fun _ _ x => x
end
end Mine
/- M6 -/
namespace Mine
open PySem PySem.W PySem.Calls PyProof.Rows
set_option maxHeartbeats 200000
local macro_rules | `(tactic| tb_start) => `(tactic| ((case C => assumption); (case H => assumption); (case ho => k_is); (case hcd => k_is); (case hb => exact BindsTo.of_eq rfl); (case hl => exact locs rfl); (case c1 => exact rfl); (case c2 => exact rfl); (case c3 => exact rfl); (case c4 => decide)))
local macro_rules | `(tactic| tb_rel) => `(tactic| first
  | with_reducible refine x_return ?_
  | with_reducible refine x_if ?_
  | ((with_reducible refine x_assign ?_ ?hs); (case hs => rfl))
  | ((with_reducible refine x_expr ?_ ?hi ?hs); (case hi => rfl); (case hs => rfl))
  | ((with_reducible refine x_setattr ?_ ?hs); (case hs => rfl))
  | with_reducible refine x_nil ?_
  | with_reducible refine kont_next ?_
  | with_reducible refine kont_ret ?_
  | with_reducible refine fnK_ret ?_
  | with_reducible refine fnK_next ?_
  | ((with_reducible refine wpAny_isTrue_Compare1 (hm := ?hm) ?_); (case hm => rfl))
  | ((with_reducible refine isTrue_chain (hm := ?hm) ?_); (case hm => rfl))
  | with_reducible refine wpAny_isTrue_BoolOp ?_
  | with_reducible refine wpAny_isTrue_Not ?_
  | with_reducible refine wpAny_allTrue_And_cons ?_
  | with_reducible refine wpAny_allTrue_Or_cons ?_
  | with_reducible refine wpAny_allTrue_And_nil ?_
  | with_reducible refine wpAny_allTrue_Or_nil ?_
  | ((with_reducible refine Compare_chain (hm := ?hm) ?_); (case hm => rfl))
  | with_reducible refine chain_linkE ?_
  | with_reducible refine chain_lastE ?_
  | ((with_reducible refine wpAny_Compare1 (hm := ?hm) ?_); (case hm => rfl))
  | with_reducible refine wpAny_BinOp ?_
  | with_reducible refine wpAny_IfExp ?_
  | with_reducible refine wpAny_UnaryOp ?_
  | with_reducible refine eval_boolOp ?_
  | with_reducible refine boolOp_orE ?_
  | with_reducible refine boolOp_andE ?_
  | with_reducible refine boolOp_oneE ?_
  | with_reducible refine wpAny_truthy_bool ?_
  | with_reducible refine wpAny_Call_ofName ?_
  | ((with_reducible refine MethodCall_ (he := ?he) ?_); (case he => rfl))
  | ((with_reducible refine PyProof.Rows.Attribute_any_ ?_ ?he); (case he => rfl))
  | with_reducible refine PyProof.Rows.Subscript_ ?_
  | with_reducible refine PyProof.Rows.Tuple_ ?_
  | with_reducible refine PyProof.Rows.List_ ?_
  | ((with_reducible refine r_callW (by assumption) ?hk ?_ ?he ?hp); (case hk => k_is); (case he => rfl); (case hp => rfl))
  | ((with_reducible refine r_callW0 (by assumption) (by assumption) ?hk ?_); (case hk => k_is))
  | ((with_reducible refine PyProof.Rows.callWith_method0 ?_))
  | ((with_reducible refine r_callB ?_ ?he ?hp); (case he => rfl); (case hp => rfl))
  | ((with_reducible refine PyProof.Rows.callWith_method1 ?_ ?he ?hp); (case he => rfl); (case hp => rfl))
  | ((with_reducible refine r_callT ?_ ?he ?hp); (case he => rfl); (case hp => rfl))
  | ((with_reducible refine PyProof.Rows.spliced_more ?_ ?he); (case he => rfl))
  | with_reducible refine PyProof.Rows.spliced_none ?_
  | with_reducible refine inK (by assumption) (by assumption) ?_
  | with_reducible refine PyProof.Rows.eq_int ?_
  | with_reducible refine PyProof.Rows.ne_int ?_
  | with_reducible refine PyProof.Rows.lt_int ?_
  | with_reducible refine PyProof.Rows.gt_int ?_
  | with_reducible refine PyProof.Rows.le_int ?_
  | with_reducible refine PyProof.Rows.ge_int ?_
  | with_reducible refine PyProof.Rows.eq_str ?_
  | with_reducible refine PyProof.Rows.ne_str ?_
  | with_reducible refine PySem.P.le_str ?_
  | with_reducible refine PyProof.Rows.in_str ?_
  | with_reducible refine r_bool ?_
  | ((rename St _ _ _ _ _ _ => S0); (first
     | (with_reducible refine r_str S0 ?_)
     | (with_reducible refine r_int S0 ?_)
     | (with_reducible refine r_add S0 ?_)
     | (with_reducible refine r_sub S0 ?_)
     | (with_reducible refine r_find3 S0 ?_)); clear S0; intro tk' s' S')
  | ((rename St _ _ _ _ _ _ => S0); (with_reducible refine' r_local S0 ?hv ?_ ?hk ?hl ?hd); (case hv => first | rfl | assumption); (case hk => rfl); (case hl => rfl); (case hd => decide))
  | ((rename St _ _ _ _ _ _ => S0); (with_reducible refine' r_glob (by assumption) S0 ?hv ?_ ?hk ?hl ?hd); (case hv => k_is); (case hk => rfl); (case hl => rfl); (case hd => decide))
  | ((rename St _ _ _ _ _ _ => S0); (with_reducible refine' r_bi (by assumption) S0 ?hv ?hb ?hn ?_ ?hk ?hl ?hd); (case hv => k_is); (case hb => boot_by_name); (case hn => decide); (case hk => rfl); (case hl => rfl); (case hd => decide))
  | ((rename St _ _ _ _ _ _ => S0); (with_reducible refine r_store S0 ?_ ?hk ?hl); clear S0; (case hk => rfl); (case hl => rfl); intro s' S')
  | ((with_reducible refine isTrue_plain ?_ ?he); (case he => rfl)))
example : PySem.Challenge.rw_on0185_01 = PySem.Challenge.rw_on0185_01 ∧ heap = heap := by
  k_fill
  exact ⟨rfl, rfl⟩
theorem vb {a b : Bool} (h : a = b) : Value.bool a = Value.bool b := by rw [h]
theorem lit_a : (Str.ofString "a").cps.toList = [97] := by decide +kernel
theorem lit_z : (Str.ofString "z").cps.toList = [122] := by decide +kernel
theorem lit_A : (Str.ofString "A").cps.toList = [65] := by decide +kernel
theorem lit_Z : (Str.ofString "Z").cps.toList = [90] := by decide +kernel
theorem lit_0 : (Str.ofString "0").cps.toList = [48] := by decide +kernel
theorem lit_9 : (Str.ofString "9").cps.toList = [57] := by decide +kernel
theorem sg (a b : Nat) : ((⟨#[a]⟩ : Str) == ⟨#[b]⟩) = decide (a = b) := by
  rw [Bool.eq_iff_iff]; simp
theorem L_us : Str.ofString "_" = ⟨#[95]⟩ := by decide +kernel
theorem L_co : Str.ofString ":" = ⟨#[58]⟩ := by decide +kernel
theorem L_mi : Str.ofString "-" = ⟨#[45]⟩ := by decide +kernel
theorem L_dot : Str.ofString "." = ⟨#[46]⟩ := by decide +kernel
theorem L_none : Str.ofString "" = ⟨#[]⟩ := by decide +kernel

def isSp (c : Nat) : Bool := c == 32 || c == 9 || c == 10 || c == 13
def isLow (c : Nat) : Bool := decide (97 ≤ c ∧ c ≤ 122)
/-- the signs that the law's texts are made of -/
def okc (c : Nat) : Prop := c < 128 ∨ c = 233
def isStart (c : Nat) : Bool := if c < 128 then (isLow c || decide (65 ≤ c ∧ c ≤ 90) || c == 95 || c == 58) else true
def isNameC (c : Nat) : Bool := isStart c || decide (48 ≤ c ∧ c ≤ 57) || c == 45 || c == 46

section
variable {w : World} {A : Around} {s : Shared} {g : Heap} {c : Nat} {tk : Tok} {d : Nat}
set_option maxHeartbeats 1000000 in
theorem k52 (C : Cx w g A (d + 1)) (H : Has g [] s.heap) :
    codeAny (model PR w) A (.call (.ref 52) ⟨[.str ⟨#[c]⟩ tk], []⟩) (Pure g s fun v => v = .bool (isLow c)) s := by
  refine' enter (binds := [("sign", .str ⟨#[c]⟩ tk)]) ?C ?H ?ho ?hcd ?hb ?hl ?_ ?c1 ?c2 ?c3 ?c4; tb_start
  intro L s1 S C1
  repeat tb_rel
  refine ite_c (fun h1 => ?_) (fun h1 => ?_)
  · repeat tb_rel
    rename St _ _ _ _ _ _ => S
    refine S.pure (vb ?_)
    simp only [lit_a, lit_z, lt1, isLow] at h1 ⊢
    rw [Bool.eq_iff_iff]; simp at h1 ⊢; omega
  · repeat tb_rel
    rename St _ _ _ _ _ _ => S
    refine S.pure (vb ?_)
    simp only [lit_a, lit_z, lt1, isLow] at h1 ⊢
    rw [Bool.eq_iff_iff]; simp at h1 ⊢; omega

set_option maxHeartbeats 1000000 in
theorem k38 (C : Cx w g A (d + 1)) (H : Has g [] s.heap) :
    codeAny (model PR w) A (.call (.ref 38) ⟨[.int 233 tk, .ref 27], []⟩) (Pure g s fun v => v = .bool true) s := by
  refine' enter (binds := [("code", .int 233 tk), ("ranges", .ref 27)]) ?C ?H ?ho ?hcd ?hb ?hl ?_ ?c1 ?c2 ?c3 ?c4; tb_start
  intro L s1 S C1
  refine x_for ?_ (fun _ => rfl)
  tb_rel
  rename St _ _ _ _ _ _ => S
  have h27 : g.IsTuple 27 #[.ref 15, .ref 16, .ref 17, .ref 18, .ref 19, .ref 20, .ref 21, .ref 22, .ref 23, .ref 24, .ref 25, .ref 26] := ⟨_, C.X _ _ (by k_is), rfl, _, rfl⟩
  have h15 : g.IsTuple 15 #[.int 192 191, .int 214 192] := ⟨_, C.X _ _ (by k_is), rfl, _, rfl⟩
  have h16 : g.IsTuple 16 #[.int 216 193, .int 246 194] := ⟨_, C.X _ _ (by k_is), rfl, _, rfl⟩
  refine loopTup C1.hand h27 (fun i g' m' led' => i < 2 ∧ g' = g ∧ led' = [] ∧ m' "code" = some (.int 233 tk)) S ⟨by decide, rfl, rfl, rfl⟩ ?_ ?_
  · rintro I i v g' m' led' o' s' _ _ ⟨hi, rfl, rfl, hm⟩ hv S
    match i, hi with
    | 0, _ =>
      cases hv
      refine r_unpack2 C1.hand S h15 fun s' S => ?_
      repeat tb_rel
      refine ite_f rfl ?_
      repeat tb_rel
      refine ite_f rfl ?_
      repeat tb_rel
      rename St _ _ _ _ _ _ => S
      refine ⟨_, _, _, fun _ _ q => q, ⟨by decide, rfl, rfl, ?_⟩, S⟩
      exact hm
    | 1, _ =>
      cases hv
      refine r_unpack2 C1.hand S h16 fun s' S => ?_
      repeat tb_rel
      refine ite_f rfl ?_
      repeat tb_rel
      refine ite_t rfl ?_
      repeat tb_rel
      rename St _ _ _ _ _ _ => S
      exact S.drop0.pure rfl
  · rintro g' m' led' s' _ ⟨hi, _⟩ _
    exact absurd hi (by decide)

theorem sp_in (c : Nat) : (!(Builtin.Str.occurrences (Str.ofString " \t\n\r") ⟨#[c]⟩ 0 (Str.ofString " \t\n\r").length 1).isEmpty) = isSp c := by
  rw [StrLaws.found_one, show (Str.ofString " \t\n\r").cps.toList = [32, 9, 10, 13] from by decide +kernel, Bool.eq_iff_iff]
  simp [isSp, or_assoc]
theorem ne_none (c : Nat) : ((⟨#[c]⟩ : Str) != Str.ofString "") = true := by
  rw [L_none]; simp [bne]
set_option maxHeartbeats 1000000 in
theorem k45 (C : Cx w g A (d + 1)) (H : Has g [] s.heap) :
    codeAny (model PR w) A (.call (.ref 45) ⟨[.str ⟨#[c]⟩ tk], []⟩) (Pure g s fun v => v = .bool (isSp c)) s := by
  refine' enter (binds := [("sign", .str ⟨#[c]⟩ tk)]) ?C ?H ?ho ?hcd ?hb ?hl ?_ ?c1 ?c2 ?c3 ?c4; tb_start
  intro L s1 S C1
  repeat tb_rel
  rw [sp_in]
  refine ite_c (fun h1 => ?_) (fun h1 => ?_)
  · repeat tb_rel
    rename St _ _ _ _ _ _ => S
    refine S.pure (vb ?_)
    rw [ne_none, h1]
  · repeat tb_rel
    rename St _ _ _ _ _ _ => S
    exact S.pure (vb rfl)

set_option maxHeartbeats 1000000 in
theorem k59 (C : Cx w g A (d + 2)) (H : Has g [] s.heap) (hc : okc c) :
    codeAny (model PR w) A (.call (.ref 59) ⟨[.str ⟨#[c]⟩ tk], []⟩) (Pure g s fun v => v = .bool (isStart c)) s := by
  refine' enter (binds := [("sign", .str ⟨#[c]⟩ tk)]) ?C ?H ?ho ?hcd ?hb ?hl ?_ ?c1 ?c2 ?c3 ?c4; tb_start
  intro L s1 S C1
  repeat tb_rel
  rename St _ _ _ _ _ _ => S
  refine r_ord S (by rfl) fun tk' s' S => ?_
  repeat tb_rel
  refine ite_c (fun h1 => ?_) (fun h1 => ?_)
  · have h1' : c < 128 := by simp at h1; omega
    repeat tb_rel
    rename St _ _ _ _ _ _ => S
    refine r_pure S (k52 C1 S.has0) fun x s' hx S => ?_
    subst hx
    clear h1
    repeat' (first | tb_rel | refine ite_c (fun hh => ?_) (fun hh => ?_))
    all_goals
      rename St _ _ _ _ _ _ => S
      refine S.pure (vb ?_)
      clear S C C1 H
      simp only [lit_A, lit_Z, lt1, L_us, L_co, sg, isStart, h1', if_true] at *
      rw [Bool.eq_iff_iff]
      simp at *
      try simp_all
      try omega
  · have h1' : c = 233 := by
      have : ¬ c < 128 := by simp at h1; omega
      unfold okc at hc; omega
    subst h1'
    repeat tb_rel
    rename St _ _ _ _ _ _ => S
    refine r_ord S (by rfl) fun tk' s' S => ?_
    repeat tb_rel
    rename St _ _ _ _ _ _ => S
    refine r_pure S (k38 C1 S.has0) fun x s' hx S => ?_
    subst hx
    repeat tb_rel
    rename St _ _ _ _ _ _ => S
    exact S.pure (vb rfl)

set_option maxHeartbeats 1000000 in
theorem k66 (C : Cx w g A (d + 3)) (H : Has g [] s.heap) (hc : okc c) :
    codeAny (model PR w) A (.call (.ref 66) ⟨[.str ⟨#[c]⟩ tk], []⟩) (Pure g s fun v => v = .bool (isNameC c)) s := by
  refine' enter (binds := [("sign", .str ⟨#[c]⟩ tk)]) ?C ?H ?ho ?hcd ?hb ?hl ?_ ?c1 ?c2 ?c3 ?c4; tb_start
  intro L s1 S C1
  repeat tb_rel
  rename St _ _ _ _ _ _ => S
  refine r_pure S (k59 C1 S.has0 hc) fun x s' hx S => ?_
  subst hx
  repeat tb_rel
  refine ite_c (fun h1 => ?_) (fun h1 => ?_)
  · repeat tb_rel
    rename St _ _ _ _ _ _ => S
    exact S.pure (vb (by simp [isNameC, h1]))
  repeat tb_rel
  rename St _ _ _ _ _ _ => S
  refine r_ord S (by rfl) fun tk' s' S => ?_
  repeat tb_rel
  refine ite_t (by
    rcases hc with hc | hc
    · simp; omega
    · subst hc; exact absurd h1 (by decide)) ?_
  repeat' (first | tb_rel | refine ite_c (fun hh => ?_) (fun hh => ?_))
  all_goals
    rename St _ _ _ _ _ _ => S
    refine S.pure (vb ?_)
    clear S C C1 H
    simp only [lit_0, lit_9, lt1, L_mi, L_dot, sg, isNameC, h1, Bool.false_or] at *
    rw [Bool.eq_iff_iff]
    simp at *
    try simp_all
    try omega
end
end Mine
/- M7 -/
namespace Mine
open PySem PySem.W PySem.Calls PyProof.Rows
set_option maxHeartbeats 200000

section
variable {w : World} {A : Around} {E : Value → Shared → Prop} {s : Shared} {e : Ent} {g : Heap} {L x Cl dx : Addr} {m : Str → Option Value} {led rest : Led} {d n : Nat} {es : List DictEntry} {name : Str}

/-- an object of an own class in the heap, its dict written out -/
structure Inst (h : Heap) (x Cl dx : Addr) (es : List DictEntry) : Prop where
  obj : h.get? x = some (instObj Cl dx)
  dict : ∃ n, h.get? dx = some (dictOf es n)
theorem Inst.keeps {h h' : Heap} (I : Inst h x Cl dx es) (k : h.StaysIn h') : Inst h' x Cl dx es := ⟨k _ _ I.obj, let ⟨n, q⟩ := I.dict; ⟨n, k _ _ q⟩⟩

theorem r_get {v : Value} {attr : Option Value} {Q : Value → Shared → Prop} (C : Cx w g A d) (S : St e g L m led s) (I : Inst s.heap x Cl dx es) (hg : plainGet (heap w.params) Cl name = true) (hh : hasDictIn (heap w.params) Cl = true)
    (ha : findIn (heap w.params) (.ref Cl) name = some attr) (hn : noGet (heap w.params) attr = true) (hl : getL name es = some (some v)) (hv : handedIn v = true) (h : ∀ s', s'.heap = s.heap → St e g L m led s' → Q v s') :
    wpAny (model PR w) A (getAttr (.ref x) name true) Q E s := by
  obtain ⟨hx, nd, hd⟩ := I
  exact get_value (od := some (dictOf es nd)) (C.X.keeps S.keep) ⟨hx, rfl, rfl, hd⟩ (plainGet_of hg).1 (findObj_own hh ha hn hl) hv (h _ rfl S.tok)

theorem r_meth {f : Addr} {pl : Sem Bool} {Q : Value × List Value → Shared → Prop} (C : Cx w g A d) (S : St e g L m led s) (I : Inst s.heap x Cl dx es) (hg : plainGet (heap w.params) Cl name = true)
    (hf : findIn (heap w.params) (.ref Cl) name = some (some (.ref f))) (ht : isFn (heap w.params) (.ref f) = true) (hl : getL name es = some none) (h : Q (.ref f, [.ref x]) s) : wpAny (model PR w) A (getMethod (.ref x) name pl) Q E s := by
  obtain ⟨hx, nd, hd⟩ := I
  exact method_fn (od := some (dictOf es nd)) (C.X.keeps S.keep) ⟨hx, rfl, rfl, hd⟩ (plainGet_of hg).1 (plainGet_of hg).2 hf (beq_iff_eq.mp ht) (by show (lookIn name (dictOf es nd)).map _ = _; rw [lookIn_dict, hl]; rfl) h

theorem r_set {v : Value} {Q : Unit → Shared → Prop} (C : Cx w g A d) (S : St e g L m ((dx, dictOf es n) :: rest) s) (hx : s.heap.get? x = some (instObj Cl dx))
    (hs : findIn (heap w.params) (.ref Cl) "__setattr__" = some (some (.builtin "object.__setattr__"))) (hp : plainOver (heap w.params) Cl = true) (ht : takerIn (heap w.params) Cl name = some none) (hh : hasDictIn (heap w.params) Cl = true)
    (hl : (getL name es).isSome = true) (hz : (putL name (PyData.keyHash w.params name) (.str name 0) v es).length ≤ 900)
    (h : ∀ tk n' s', St e g L m ((dx, dictOf (putL name (PyData.keyHash w.params name) (.str name tk) v es) n') :: rest) s' → s'.heap.get? x = some (instObj Cl dx) → Q () s') :
    wpAny (model PR w) A (setAttr (.ref x) name v) Q E s := by
  have D := S.get (.head _)
  have X := C.X.keeps S.keep
  have hne : x ≠ dx := fun q => by rw [q, D] at hx; cases hx
  have I : ∀ t, InstAt ({ s with toks := t } : Shared).heap x (instObj Cl dx) Cl (some (dictOf es n)) := fun _ => ⟨hx, rfl, rfl, D⟩
  refine set_plain (od := some (dictOf es n)) X (I 0) hs ?_
  refine osa_open (s := { s with toks := s.toks + 1 }) X (I _) hp ht fun b => ?_
  obtain ⟨cd, hc, hd'⟩ := any_some hh
  have lens : ∀ tk, (putL name (PyData.keyHash w.params name) (.str name tk) v es).length = (putL name (PyData.keyHash w.params name) (.str name 0) v es).length := by
    intro tk
    clear hl hz h D I S X
    induction es with
    | nil => rfl
    | cons y r ih =>
      unfold putL
      split
      · rfl
      · rw [List.length_cons, List.length_cons, ih]
  refine wpAny_bind (wpAny_pure (wpAny_bind (wpAny_bind (wpAny_loadPart hx (wpAny_bind ((looks_clsIn X hc).at ?_))))))
  rw [hd']
  refine wpAny_pure (a := some dx) (wpAny_bind (wpAny_pure (wpAny_bind ?_)))
  unfold nsSet
  refine wpAny_bind (wpAny_bind (wpAny_askSetting (wpAny_pure (wpAny_bind (wpAny_mkText (wpAny_bind (wpAny_loadPart D ?_)))))))
  have c : aRefKeyMayBeTheName name es.toArray = false := by
    rw [aRefKeyMayBeTheName_at]
    unfold getL at hl
    rw [← Array.any_toList, ← Array.any_toList]
    show (!es.any (·.key.isStr name) && es.any (·.refKey)) = false
    split at hl
    · rename_i en he
      rw [List.any_eq_true.mpr ⟨en, List.mem_of_find?_eq_some he, List.find?_some he⟩]; rfl
    · split at hl
      · cases hl
      · rename_i z; rw [Bool.not_eq_true] at z; rw [z, Bool.and_false]
  dsimp only
  rw [c]
  refine wpAny_updatePart D ?_
  have D' := Heap.get?_update_self (Obj.putName name (PyData.keyHash w.params name) (.str name (s.toks + 1)) v) D (by rw [putName_dict]; rfl)
  rw [putName_dict] at D'
  refine wpAny_bind (wpAny_lookBehind D' (pastItsLine_dict (by rw [List.size_toArray, lens, sizeLine_eq]; omega)) ?_)
  refine wpAny_pure ?_
  have S' := S.upd (tk := s.toks + 1 + 1) (Heap.SameBut.update s.heap dx _) D' (fun _ vs q => by cases q)
  exact h (s.toks + 1) _ _ S' ((Heap.get?_update_ne _ _ _ _ hne).trans hx)

theorem Cx.underMake (C : Cx w g A (d + 1)) {pos : List Value} : Cx w g (A.under (.builtin "type.__call__" ⟨.ref Cl :: pos, []⟩)) d := by
  refine ⟨C.X, C.T, ?_, ?_, C.hand⟩
  · have := C.depth
    show A.depth + Code.weight (.builtin "type.__call__" ⟨.ref Cl :: pos, []⟩) + d ≤ 500
    have e : Code.weight (.builtin "type.__call__" ⟨.ref Cl :: pos, []⟩) = 1 := rfl
    rw [e]; omega
  · have := C.units
    show A.units + Code.cUnits (.builtin "type.__call__" ⟨.ref Cl :: pos, []⟩) + 10 * d ≤ 5000
    have e : Code.cUnits (.builtin "type.__call__" ⟨.ref Cl :: pos, []⟩) = 1 := rfl
    omega

theorem r_make {fI : Addr} {pos : List Value} {Q : Value → Shared → Prop} (C : Cx w g A d) (S : St e g L m led s) (hm : makesIn (heap w.params) Cl = true)
    (hi : findIn (heap w.params) (.ref Cl) "__init__" = some (some (.ref fI))) (hf : isFn (heap w.params) (.ref fI) = true)
    (h : ∀ x dx s', St e g L m ((x, instObj Cl dx) :: (dx, dictOf [] 0) :: led) s' →
      codeAny (model PR w) (A.under (.builtin "type.__call__" ⟨.ref Cl :: pos, []⟩)) (.call (.ref fI) ⟨.ref x :: pos, []⟩) (fun r s'' => r = .ok (.ret .none) ∧ Q (.ref x) s'') s') :
    wpAny (model PR w) A (call (.ref Cl) pos []) Q E s := by
  have X := C.X.keeps S.keep
  refine wpAny_call ?_
  have S1 := S.push (o := emptyDict) rfl (tk := s.toks)
  have S2 := S1.push (o := instObj Cl s.heap.objs.size) rfl (tk := s.toks)
  obtain ⟨hh, gg, dd, t, os⟩ := s
  refine make_core (makes_of X hm) (looks_findIn X hi) (fun self => bind_fn X self (beq_iff_eq.mp hf)) (.inl rfl) ?_
  have z := h (hh.objs.size + 1) hh.objs.size ⟨(hh.push emptyDict).push (instObj Cl hh.objs.size), gg, dd, t, os⟩ (by
    have e : (hh.push emptyDict).objs.size = hh.objs.size + 1 := Heap.size_push ..
    have S2' := S2
    dsimp only at S2'
    rw [e] at S2'
    exact S2')
  refine codeAny_mono z fun r s' q => ?_
  obtain ⟨rfl, q⟩ := q
  exact ⟨rfl, q⟩
end
end Mine
/- M8 -/
namespace Mine
open PySem PySem.W PySem.Calls PyProof.Rows
set_option maxHeartbeats 200000
local macro_rules | `(tactic| tb_start) => `(tactic| ((case C => assumption); (case H => assumption); (case ho => k_is); (case hcd => k_is); (case hb => exact BindsTo.of_eq rfl); (case hl => exact locs rfl); (case c1 => exact rfl); (case c2 => exact rfl); (case c3 => exact rfl); (case c4 => decide)))
local macro_rules | `(tactic| tb_rel) => `(tactic| first
  | with_reducible refine x_return ?_
  | with_reducible refine x_if ?_
  | ((with_reducible refine x_assign ?_ ?hs); (case hs => rfl))
  | ((with_reducible refine x_expr ?_ ?hi ?hs); (case hi => rfl); (case hs => rfl))
  | ((with_reducible refine x_setattr ?_ ?hs); (case hs => rfl))
  | with_reducible refine x_nil ?_
  | with_reducible refine kont_next ?_
  | with_reducible refine kont_ret ?_
  | with_reducible refine fnK_ret ?_
  | with_reducible refine fnK_next ?_
  | ((with_reducible refine wpAny_isTrue_Compare1 (hm := ?hm) ?_); (case hm => rfl))
  | ((with_reducible refine isTrue_chain (hm := ?hm) ?_); (case hm => rfl))
  | with_reducible refine wpAny_isTrue_BoolOp ?_
  | with_reducible refine wpAny_isTrue_Not ?_
  | with_reducible refine wpAny_allTrue_And_cons ?_
  | with_reducible refine wpAny_allTrue_Or_cons ?_
  | with_reducible refine wpAny_allTrue_And_nil ?_
  | with_reducible refine wpAny_allTrue_Or_nil ?_
  | ((with_reducible refine Compare_chain (hm := ?hm) ?_); (case hm => rfl))
  | with_reducible refine chain_linkE ?_
  | with_reducible refine chain_lastE ?_
  | ((with_reducible refine wpAny_Compare1 (hm := ?hm) ?_); (case hm => rfl))
  | with_reducible refine wpAny_BinOp ?_
  | with_reducible refine wpAny_IfExp ?_
  | with_reducible refine wpAny_UnaryOp ?_
  | with_reducible refine eval_boolOp ?_
  | with_reducible refine boolOp_orE ?_
  | with_reducible refine boolOp_andE ?_
  | with_reducible refine boolOp_oneE ?_
  | with_reducible refine wpAny_truthy_bool ?_
  | with_reducible refine wpAny_Call_ofName ?_
  | ((with_reducible refine MethodCall_ (he := ?he) ?_); (case he => rfl))
  | ((with_reducible refine PyProof.Rows.Attribute_any_ ?_ ?he); (case he => rfl))
  | with_reducible refine PyProof.Rows.Subscript_ ?_
  | with_reducible refine PyProof.Rows.Tuple_ ?_
  | with_reducible refine PyProof.Rows.List_ ?_
  | ((with_reducible refine r_callW (by assumption) ?hk ?_ ?he ?hp); (case hk => k_is); (case he => rfl); (case hp => rfl))
  | ((with_reducible refine r_callW0 (by assumption) (by assumption) ?hk ?_); (case hk => k_is))
  | ((with_reducible refine PyProof.Rows.callWith_method0 ?_))
  | ((with_reducible refine r_callB ?_ ?he ?hp); (case he => rfl); (case hp => rfl))
  | ((with_reducible refine PyProof.Rows.callWith_method1 ?_ ?he ?hp); (case he => rfl); (case hp => rfl))
  | ((with_reducible refine r_callT ?_ ?he ?hp); (case he => rfl); (case hp => rfl))
  | ((with_reducible refine PyProof.Rows.spliced_more ?_ ?he); (case he => rfl))
  | with_reducible refine PyProof.Rows.spliced_none ?_
  | with_reducible refine inK (by assumption) (by assumption) ?_
  | with_reducible refine PyProof.Rows.eq_int ?_
  | with_reducible refine PyProof.Rows.ne_int ?_
  | with_reducible refine PyProof.Rows.lt_int ?_
  | with_reducible refine PyProof.Rows.gt_int ?_
  | with_reducible refine PyProof.Rows.le_int ?_
  | with_reducible refine PyProof.Rows.ge_int ?_
  | with_reducible refine PyProof.Rows.eq_str ?_
  | with_reducible refine PyProof.Rows.ne_str ?_
  | with_reducible refine PySem.P.le_str ?_
  | with_reducible refine PyProof.Rows.in_str ?_
  | with_reducible refine r_bool ?_
  | ((rename St _ _ _ _ _ _ => S0); (first
     | (with_reducible refine r_str S0 ?_)
     | (with_reducible refine r_int S0 ?_)
     | (with_reducible refine r_add S0 ?_)
     | (with_reducible refine r_sub S0 ?_)
     | (with_reducible refine r_find3 S0 ?_)); clear S0; intro tk' s' S')
  | ((rename St _ _ _ _ _ _ => S0); (with_reducible refine' r_local S0 ?hv ?_ ?hk ?hl ?hd); (case hv => first | rfl | assumption); (case hk => rfl); (case hl => rfl); (case hd => decide))
  | ((rename St _ _ _ _ _ _ => S0); (with_reducible refine' r_glob (by assumption) S0 ?hv ?_ ?hk ?hl ?hd); (case hv => k_is); (case hk => rfl); (case hl => rfl); (case hd => decide))
  | ((rename St _ _ _ _ _ _ => S0); (with_reducible refine' r_bi (by assumption) S0 ?hv ?hb ?hn ?_ ?hk ?hl ?hd); (case hv => k_is); (case hb => boot_by_name); (case hn => decide); (case hk => rfl); (case hl => rfl); (case hd => decide))
  | ((rename St _ _ _ _ _ _ => S0); (with_reducible refine r_store S0 ?_ ?hk ?hl); clear S0; (case hk => rfl); (case hl => rfl); intro s' S')
  | ((with_reducible refine isTrue_plain ?_ ?he); (case he => rfl)))
abbrev Wd := Str × Str × Int
abbrev kh (w : World) (n : Str) : Int := PyData.keyHash w.params n
def scD (w : World) (t : Str) (i : Int) (l : Addr) (a b c p q : Nat) : List DictEntry := [⟨kh w "text", .str "text" a, .str t p⟩, ⟨kh w "at", .str "at" b, .int i q⟩, ⟨kh w "found", .str "found" c, .ref l⟩]
def woD (w : World) (k tx : Str) (pl : Int) (a b c p q r : Nat) : List DictEntry := [⟨kh w "kind", .str "kind" a, .str k p⟩, ⟨kh w "text", .str "text" b, .str tx q⟩, ⟨kh w "place", .str "place" c, .int pl r⟩]
def IsWord (w : World) (g : Heap) (v : Value) (x : Wd) : Prop := ∃ a da t1 t2 t3 t4 t5 t6, v = .ref a ∧ Inst g a 142 da (woD w x.1 x.2.1 x.2.2 t1 t2 t3 t4 t5 t6)
theorem IsWord.mono {w : World} {g g' : Heap} {v : Value} {x : Wd} (h : IsWord w g v x) (k : g.StaysIn g') : IsWord w g' v x :=
  let ⟨a, da, t1, t2, t3, t4, t5, t6, e, I⟩ := h; ⟨a, da, t1, t2, t3, t4, t5, t6, e, I.keeps k⟩
inductive Words (w : World) (g : Heap) : List Value → List Wd → Prop
  | nil : Words w g [] []
  | cons {v x vs xs} : IsWord w g v x → Words w g vs xs → Words w g (v :: vs) (x :: xs)
theorem Words.mono {w : World} {g g' : Heap} {vs : List Value} {xs : List Wd} (h : Words w g vs xs) (k : g.StaysIn g') : Words w g' vs xs := by
  induction h with
  | nil => exact .nil
  | cons a _ ih => exact .cons (a.mono k) ih
theorem Words.snoc {w : World} {g : Heap} {vs : List Value} {xs : List Wd} {v : Value} {x : Wd} (h : Words w g vs xs) (a : IsWord w g v x) : Words w g (vs ++ [v]) (xs ++ [x]) := by
  induction h with
  | nil => exact .cons a .nil
  | cons b _ ih => exact .cons b ih
theorem Words.length {w : World} {g : Heap} {vs : List Value} {xs : List Wd} (h : Words w g vs xs) : vs.length = xs.length := by
  induction h with
  | nil => rfl
  | cons _ _ ih => rw [List.length_cons, List.length_cons, ih]

abbrev lstObj (items : Array Value) (k : Nat) : Obj := { cls := .type "list", data := .seq items k }
/-- a scanner, its list of words -/
def Scan (w : World) (g : Heap) (led : Led) (x dx l : Addr) (t : Str) (i : Nat) (ws : List Wd) : Prop :=
  ∃ a b c p q n k items, led = [(dx, dictOf (scD w t i l a b c p q) n), (l, lstObj items k), (x, instObj 262 dx)] ∧ Words w g items.toList ws
theorem Scan.mono {w : World} {g g' : Heap} {led : Led} {x dx l : Addr} {t : Str} {i : Nat} {ws : List Wd} (h : Scan w g led x dx l t i ws) (k : g.StaysIn g') : Scan w g' led x dx l t i ws :=
  let ⟨a, b, c, p, q, n, kk, items, e, W⟩ := h; ⟨a, b, c, p, q, n, kk, items, e, W.mono k⟩

/-- one value back, the ledger as it was -/
def PureL (g : Heap) (led : Led) (s : Shared) (v : Value → Prop) (r : Result) (s' : Shared) : Prop := ∃ x, r = .ok (.ret x) ∧ v x ∧ Ran g led s g led s'
/-- the scanner goes on to i', its words to ws' -/
def ScanTo (w : World) (g : Heap) (led : Led) (s : Shared) (x dx l : Addr) (t : Str) (i' : Nat) (ws' : List Wd) (v : Value → Prop) (r : Result) (s' : Shared) : Prop :=
  ∃ val g' led', r = .ok (.ret val) ∧ v val ∧ Scan w g' led' x dx l t i' ws' ∧ Ran g led s g' led' s'

section
variable {w : World} {A : Around} {E : Value → Shared → Prop} {s s0 : Shared} {e : Ent} {g : Heap} {L x dx l f : Addr} {m : Str → Option Value} {led led₁ : Led} {d i i' : Nat} {t : Str} {ws ws' : List Wd}

theorem St.pureL {g : Heap} {led : Led} {s0 s : Shared} {v : Value → Prop} {x : Value} {L : Addr} {m : Str → Option Value} (S : St ⟨g, led, s0, []⟩ g L m led s) (h : v x) : PureL g led s0 v (.ok (.ret x)) s := ⟨x, rfl, h, S.ran⟩
theorem St.scanTo {g₀ g : Heap} {led₀ led : Led} {v : Value → Prop} {val : Value} (S : St ⟨g₀, led₀, s0, []⟩ g L m led s) (Sc : Scan w g led x dx l t i ws) (h : v val) : ScanTo w g₀ led₀ s0 x dx l t i ws v (.ok (.ret val)) s := ⟨val, g, led, rfl, h, Sc, S.ran⟩
theorem St.hasL (S : St e g L m led s) : Has g led s.heap := S.ran.has

theorem r_pureL {f : Value} {args : List Value} {v : Value → Prop} {Q : Value → Shared → Prop} (S : St e g L m led s) (hc : codeAny (model PR w) A (.call f ⟨args, []⟩) (PureL g led s v) s)
    (h : ∀ x s', v x → St e g L m led s' → Q x s') : wpAny (model PR w) A (call f args []) Q E s :=
  r_call hc fun _ s' ⟨x, hr, hv, R⟩ => ⟨x, hr, h x s' hv (by
    have := St.ret (led₁ := led) (led₁' := led) (rest := []) (by rw [List.append_nil]; exact S) R
    rwa [List.append_nil] at this)⟩
theorem r_scan {f : Value} {args : List Value} {v : Value → Prop} {Q : Value → Shared → Prop} (S : St e g L m led s) (hc : codeAny (model PR w) A (.call f ⟨args, []⟩) (ScanTo w g led s x dx l t i' ws' v) s)
    (h : ∀ val g' led' s', v val → g.StaysIn g' → Scan w g' led' x dx l t i' ws' → St e g' L m led' s' → Q val s') : wpAny (model PR w) A (call f args []) Q E s :=
  r_call hc fun _ s' ⟨val, g', led', hr, hv, Sc, R⟩ => ⟨val, hr, h val g' led' s' hv R.le Sc (by
    have := St.ret (led₁ := led) (led₁' := led') (rest := []) (by rw [List.append_nil]; exact S) R
    rwa [List.append_nil] at this)⟩

theorem Scan.inst (S : St e g L m led s) (Sc : Scan w g led x dx l t i ws) : ∃ a b c p q, Inst s.heap x 262 dx (scD w t i l a b c p q) := by
  obtain ⟨a, b, c, p, q, n, k, items, rfl, _⟩ := Sc
  exact ⟨a, b, c, p, q, S.get (.tail _ (.tail _ (.head _))), n, S.get (.head _)⟩
theorem r_text {Q : Value → Shared → Prop} (C : Cx w g A d) (S : St e g L m led s) (Sc : Scan w g led x dx l t i ws) (h : ∀ tk s', St e g L m led s' → Q (.str t tk) s') : wpAny (model PR w) A (getAttr (.ref x) "text" true) Q E s := by
  obtain ⟨a, b, c, p, q, I⟩ := Sc.inst S
  exact r_get (attr := none) C S I (by k_is) (by k_is) (by k_is) (by k_is) (by rfl) (by rfl) fun s' _ S' => h _ s' S'
theorem r_at {Q : Value → Shared → Prop} (C : Cx w g A d) (S : St e g L m led s) (Sc : Scan w g led x dx l t i ws) (h : ∀ tk s', St e g L m led s' → Q (.int i tk) s') : wpAny (model PR w) A (getAttr (.ref x) "at" true) Q E s := by
  obtain ⟨a, b, c, p, q, I⟩ := Sc.inst S
  exact r_get (attr := none) C S I (by k_is) (by k_is) (by k_is) (by k_is) (by rfl) (by rfl) fun s' _ S' => h _ s' S'
theorem r_found {Q : Value → Shared → Prop} (C : Cx w g A d) (S : St e g L m led s) (Sc : Scan w g led x dx l t i ws) (h : ∀ s', St e g L m led s' → Q (.ref l) s') : wpAny (model PR w) A (getAttr (.ref x) "found" true) Q E s := by
  obtain ⟨a, b, c, p, q, I⟩ := Sc.inst S
  exact r_get (attr := none) C S I (by k_is) (by k_is) (by k_is) (by k_is) (by rfl) (by rfl) fun s' _ S' => h s' S'
theorem r_setat {tk : Tok} {v : Int} {Q : Unit → Shared → Prop} (C : Cx w g A d) (S : St e g L m led s) (Sc : Scan w g led x dx l t i ws) (hv : v = (i' : Int)) (h : ∀ led' s', St e g L m led' s' → Scan w g led' x dx l t i' ws → Q () s') :
    wpAny (model PR w) A (setAttr (.ref x) "at" (.int v tk)) Q E s := by
  obtain ⟨a, b, c, p, q, n, k, items, rfl, W⟩ := Sc
  subst hv
  refine r_set (Cl := 262) C S (S.get (.tail _ (.tail _ (.head _)))) (by k_is) (by k_is) (by k_is) (by k_is) (by rfl) (by exact Nat.le_of_ble_eq_true rfl) fun tk' n' s' S' _ => ?_
  exact h _ s' S' ⟨a, b, c, p, tk, n', k, items, rfl, W⟩
end
end Mine
/- M9 -/
namespace Mine
open PySem PySem.W PySem.Calls PyProof.Rows
set_option maxHeartbeats 200000
section
variable {w : World} {A : Around} {E : Value → Shared → Prop} {s s0 : Shared} {e : Ent} {g : Heap} {L x dx l f : Addr} {m : Str → Option Value} {led led₁ : Led} {d i i' : Nat} {t : Str} {ws ws' : List Wd}
theorem r_scm {name : Str} {pl : Sem Bool} {Q : Value × List Value → Shared → Prop} (C : Cx w g A d) (S : St e g L m led s) (Sc : Scan w g led x dx l t i ws) (hg : plainGet (heap w.params) 262 name = true)
    (hf : findIn (heap w.params) (.ref 262) name = some (some (.ref f))) (ht : isFn (heap w.params) (.ref f) = true) (hl : ∀ t i l a b c p q, getL name (scD w t i l a b c p q) = some none) (h : Q (.ref f, [.ref x]) s) :
    wpAny (model PR w) A (getMethod (.ref x) name pl) Q E s := by
  obtain ⟨a, b, c, p, q, I⟩ := Sc.inst S
  exact r_meth C S I hg hf ht (hl _ _ _ _ _ _ _ _) h
theorem r_callM {f : Addr} {pos : Pos} {first : List Value} {x : Expr} {rest : List Expr} {env : Env} {Q : Value → Shared → Prop} (C : Cx w g A d) (hk : keepIn (heap w.params) (.ref f) = true)
    (h : wpAny (model PR w) A (spliced (backTo pos (starEach (x :: rest) env))) (fun vs s₁ => (heap w.params).In s₁.heap ∧ wpAny (model PR w) A (call (.ref f) (first ++ vs)) Q E s₁) E s)
    (he : starEach (x :: rest) env = (false, eval x env) :: starEach rest env) (hplain : (backTo pos (starEach rest env)).any (·.1) = false) :
    wpAny (model PR w) A (callWith pos (.ref f) first (backTo pos (starEach (x :: rest) env)) []) Q E s := callWith_K C.X hk h he hplain
theorem r_callM0 {f : Addr} {pos : Pos} {first : List Value} {env : Env} {Q : Value → Shared → Prop} (C : Cx w g A d) (S : St e g L m led s) (hk : keepIn (heap w.params) (.ref f) = true)
    (h : wpAny (model PR w) A (call (.ref f) (first ++ [])) Q E s) :
    wpAny (model PR w) A (callWith pos (.ref f) first (backTo pos (starEach [] env)) []) Q E s := callWith_K0 (C.X.keeps S.keep) hk h
theorem r_itemI {tt : Str} {tk u : Tok} {v : Int} {j c : Nat} {value slice : Expr} {Q : Value → Shared → Prop} (S : St e g L m led s) (hv : v = (j : Int)) (hz : tt.length ≤ sizeLine) (hc : tt.cps[j]? = some c) (h : ∀ tk s', St e g L m led s' → Q (.str ⟨#[c]⟩ tk) s')
    (hs : subscripted slice false (.str tt tk) (.int v u) = operate [.str tt tk, .int v u] (getItem (.str tt tk) (.int v u)) := by with_unfolding_all rfl) :
    wpAny (model PR w) A (subscriptTail value slice (.str tt tk) (.int v u)) Q E s := by
  subst hv; exact r_item S hz hc h hs
end
def sgn (t : Str) (j : Nat) : Str := match t.cps[j]? with | some c => ⟨#[c]⟩ | none => ⟨#[]⟩
theorem sgn_def {t : Str} {j : Nat} : sgn t j = match t.cps[j]? with | some c => ⟨#[c]⟩ | none => ⟨#[]⟩ := rfl
theorem sgn_some {t : Str} {j c : Nat} (h : t.cps[j]? = some c) : sgn t j = ⟨#[c]⟩ := by unfold sgn; rw [h]
theorem sgn_none {t : Str} {j : Nat} (h : t.cps[j]? = none) : sgn t j = ⟨#[]⟩ := by unfold sgn; rw [h]

def spanTo (p : Nat → Bool) (t : Str) (i : Nat) : Nat := i + ((t.cps.toList.drop i).takeWhile p).length
theorem spanTo_step {p : Nat → Bool} {t : Str} {i c : Nat} (h : t.cps[i]? = some c) (hp : p c = true) : spanTo p t (i + 1) = spanTo p t i := by
  unfold spanTo
  have e : t.cps.toList.drop i = c :: t.cps.toList.drop (i + 1) := by
    rw [← Array.getElem?_toList] at h
    obtain ⟨hi, rfl⟩ := List.getElem?_eq_some_iff.mp h
    exact List.drop_eq_getElem_cons hi
  rw [e, List.takeWhile_cons, if_pos hp, List.length_cons]; omega
theorem spanTo_stop {p : Nat → Bool} {t : Str} {i c : Nat} (h : t.cps[i]? = some c) (hp : p c = false) : spanTo p t i = i := by
  unfold spanTo
  have e : t.cps.toList.drop i = c :: t.cps.toList.drop (i + 1) := by
    rw [← Array.getElem?_toList] at h
    obtain ⟨hi, rfl⟩ := List.getElem?_eq_some_iff.mp h
    exact List.drop_eq_getElem_cons hi
  rw [e, List.takeWhile_cons, if_neg (by rw [hp]; decide)]; rfl
theorem spanTo_end {p : Nat → Bool} {t : Str} {i : Nat} (h : t.cps[i]? = none) : spanTo p t i = i := by
  unfold spanTo
  have e : t.cps.toList.drop i = [] := by
    rw [← Array.getElem?_toList] at h
    exact List.drop_eq_nil_iff.mpr (List.getElem?_eq_none_iff.mp h)
  rw [e]; rfl
theorem at_lt {t : Str} {i : Nat} (h : i < t.length) : ∃ c, t.cps[i]? = some c := ⟨_, Array.getElem?_eq_getElem h⟩
theorem at_ge {t : Str} {i : Nat} (h : ¬ i < t.length) : t.cps[i]? = none := Array.getElem?_eq_none_iff.mpr (Nat.not_lt.mp h)
local macro_rules | `(tactic| tb_start) => `(tactic| ((case C => assumption); (case H => assumption); (case ho => k_is); (case hcd => k_is); (case hb => first | exact BindsTo.of_eq rfl | exact binds_K (Frag.In.keeps (Cx.X ‹Cx _ _ _ _›) (Has.keep ‹Has _ _ _›)) rfl (by k_is) rfl rfl rfl); (case hl => exact locs rfl); (case c1 => exact rfl); (case c2 => exact rfl); (case c3 => exact rfl); (case c4 => decide)))
local macro_rules | `(tactic| tb_rel) => `(tactic| first
  | with_reducible refine x_return ?_
  | with_reducible refine x_if ?_
  | ((with_reducible refine x_assign ?_ ?hs); (case hs => rfl))
  | ((with_reducible refine x_expr ?_ ?hi ?hs); (case hi => rfl); (case hs => rfl))
  | ((with_reducible refine x_setattr ?_ ?hs); (case hs => rfl))
  | with_reducible refine x_nil ?_
  | with_reducible refine kont_next ?_
  | with_reducible refine kont_ret ?_
  | with_reducible refine fnK_ret ?_
  | with_reducible refine fnK_next ?_
  | ((with_reducible refine wpAny_isTrue_Compare1 (hm := ?hm) ?_); (case hm => rfl))
  | ((with_reducible refine isTrue_chain (hm := ?hm) ?_); (case hm => rfl))
  | with_reducible refine wpAny_isTrue_BoolOp ?_
  | with_reducible refine wpAny_isTrue_Not ?_
  | with_reducible refine wpAny_allTrue_And_cons ?_
  | with_reducible refine wpAny_allTrue_Or_cons ?_
  | with_reducible refine wpAny_allTrue_And_nil ?_
  | with_reducible refine wpAny_allTrue_Or_nil ?_
  | ((with_reducible refine Compare_chain (hm := ?hm) ?_); (case hm => rfl))
  | with_reducible refine chain_linkE ?_
  | with_reducible refine chain_lastE ?_
  | ((with_reducible refine wpAny_Compare1 (hm := ?hm) ?_); (case hm => rfl))
  | with_reducible refine wpAny_BinOp ?_
  | with_reducible refine wpAny_IfExp ?_
  | with_reducible refine wpAny_UnaryOp ?_
  | with_reducible refine eval_boolOp ?_
  | with_reducible refine boolOp_orE ?_
  | with_reducible refine boolOp_andE ?_
  | with_reducible refine boolOp_oneE ?_
  | with_reducible refine wpAny_truthy_bool ?_
  | with_reducible refine wpAny_Call_ofName ?_
  | ((with_reducible refine MethodCall_ (he := ?he) ?_); (case he => rfl))
  | ((with_reducible refine PyProof.Rows.Attribute_any_ ?_ ?he); (case he => rfl))
  | with_reducible refine PyProof.Rows.Subscript_ ?_
  | with_reducible refine PyProof.Rows.Tuple_ ?_
  | with_reducible refine PyProof.Rows.List_ ?_
  | ((with_reducible refine r_callW (by assumption) ?hk ?_ ?he ?hp); (case hk => k_is); (case he => rfl); (case hp => rfl))
  | ((with_reducible refine r_callW0 (by assumption) (by assumption) ?hk ?_); (case hk => k_is))
  | ((with_reducible refine PyProof.Rows.callWith_method0 ?_))
  | ((with_reducible refine r_callB ?_ ?he ?hp); (case he => rfl); (case hp => rfl))
  | ((with_reducible refine PyProof.Rows.callWith_method1 ?_ ?he ?hp); (case he => rfl); (case hp => rfl))
  | ((with_reducible refine r_callT ?_ ?he ?hp); (case he => rfl); (case hp => rfl))
  | ((with_reducible refine PyProof.Rows.spliced_more ?_ ?he); (case he => rfl))
  | with_reducible refine PyProof.Rows.spliced_none ?_
  | with_reducible refine inK (by assumption) (by assumption) ?_
  | with_reducible refine PyProof.Rows.eq_int ?_
  | with_reducible refine PyProof.Rows.ne_int ?_
  | with_reducible refine PyProof.Rows.lt_int ?_
  | with_reducible refine PyProof.Rows.gt_int ?_
  | with_reducible refine PyProof.Rows.le_int ?_
  | with_reducible refine PyProof.Rows.ge_int ?_
  | with_reducible refine PyProof.Rows.eq_str ?_
  | with_reducible refine PyProof.Rows.ne_str ?_
  | with_reducible refine PySem.P.le_str ?_
  | with_reducible refine PyProof.Rows.in_str ?_
  | with_reducible refine r_bool ?_
  | ((rename St _ _ _ _ _ _ => S0); (first
     | (with_reducible refine r_str S0 ?_)
     | (with_reducible refine r_int S0 ?_)
     | (with_reducible refine r_add S0 ?_)
     | (with_reducible refine r_sub S0 ?_)
     | (with_reducible refine r_find3 S0 ?_)); clear S0; intro tk' s' S')
  | ((rename St _ _ _ _ _ _ => S0); (with_reducible refine' r_local S0 ?hv ?_ ?hk ?hl ?hd); (case hv => first | rfl | assumption); (case hk => rfl); (case hl => rfl); (case hd => decide))
  | ((rename St _ _ _ _ _ _ => S0); (with_reducible refine' r_glob (by assumption) S0 ?hv ?_ ?hk ?hl ?hd); (case hv => k_is); (case hk => rfl); (case hl => rfl); (case hd => decide))
  | ((rename St _ _ _ _ _ _ => S0); (with_reducible refine' r_bi (by assumption) S0 ?hv ?hb ?hn ?_ ?hk ?hl ?hd); (case hv => k_is); (case hb => boot_by_name); (case hn => decide); (case hk => rfl); (case hl => rfl); (case hd => decide))
  | ((rename St _ _ _ _ _ _ => S0); (with_reducible refine r_store S0 ?_ ?hk ?hl); clear S0; (case hk => rfl); (case hl => rfl); intro s' S')
  | ((with_reducible refine isTrue_plain ?_ ?he); (case he => rfl)))
local macro_rules | `(tactic| tb_rel) => `(tactic| ((rename St _ _ _ _ _ _ => S0); (rename Scan _ _ _ _ _ _ _ _ _ => c0); first
  | ((with_reducible refine r_text (by assumption) S0 c0 ?_); clear S0; intro tk' s' S')
  | ((with_reducible refine r_at (by assumption) S0 c0 ?_); clear S0; intro tk' s' S')
  | ((with_reducible refine r_found (by assumption) S0 c0 ?_); clear S0; intro s' S')
  | ((with_reducible refine' r_scm (by assumption) S0 c0 ?hg ?hf ?ht ?hl ?_); (case hg => k_is); (case hf => k_is); (case ht => k_is); (case hl => exact fun _ _ _ _ _ _ _ _ => rfl))
  | ((with_reducible refine r_callM (by assumption) ?hk ?_ ?he ?hp); (case hk => k_is); (case he => rfl); (case hp => rfl))
  | ((with_reducible refine r_callM0 (by assumption) S0 ?hk ?_); (case hk => k_is))
  | ((with_reducible refine r_lenS S0 ?hz ?_); (case hz => assumption); clear S0; intro tk' s' S')))
section
variable {w : World} {A : Around} {E : Value → Shared → Prop} {s s0 : Shared} {e : Ent} {g : Heap} {L x dx l f : Addr} {m : Str → Option Value} {led led₁ : Led} {d i i' : Nat} {t : Str} {ws ws' : List Wd}
set_option maxHeartbeats 1000000 in
theorem k168 {k : Nat} {tk : Tok} (C : Cx w g A (d + 1)) (H : Has g led s.heap) (Sc : Scan w g led x dx l t i ws) (ht : t.length ≤ sizeLine) :
    codeAny (model PR w) A (.call (.ref 168) ⟨[.ref x, .int k tk], []⟩) (PureL g led s fun v => ∃ tk, v = .str (sgn t (i + k)) tk) s := by
  refine' enter (binds := [("self", .ref x), ("ahead", .int k tk)]) ?C ?H ?ho ?hcd ?hb ?hl ?_ ?c1 ?c2 ?c3 ?c4; tb_start
  intro L s1 S C1
  repeat tb_rel
  refine ite_c (fun h1 => ?_) (fun h1 => ?_)
  · have h1' : i + k < t.length := by simp at h1; omega
    obtain ⟨c, hc⟩ := at_lt h1'
    repeat tb_rel
    rename St _ _ _ _ _ _ => S
    refine r_itemI S (j := i + k) (by omega) ht hc fun tk s' S => ?_
    repeat tb_rel
    exact S.pureL ⟨tk, by rw [sgn_some hc]⟩
  · have h1' : ¬ i + k < t.length := by simp at h1; omega
    repeat tb_rel
    rename St _ _ _ _ _ _ => S
    exact S.pureL ⟨_, by rw [sgn_none (at_ge h1'), L_none]⟩
set_option maxHeartbeats 1000000 in
theorem k168' (C : Cx w g A (d + 1)) (H : Has g led s.heap) (Sc : Scan w g led x dx l t i ws) (ht : t.length ≤ sizeLine) :
    codeAny (model PR w) A (.call (.ref 168) ⟨[.ref x], []⟩) (PureL g led s fun v => ∃ tk, v = .str (sgn t i) tk) s := by
  refine' enter (binds := [("self", .ref x), ("ahead", .int 0 435)]) ?C ?H ?ho ?hcd ?hb ?hl ?_ ?c1 ?c2 ?c3 ?c4; tb_start
  intro L s1 S C1
  repeat tb_rel
  refine ite_c (fun h1 => ?_) (fun h1 => ?_)
  · have h1' : i < t.length := by simp at h1; omega
    obtain ⟨c, hc⟩ := at_lt h1'
    repeat tb_rel
    rename St _ _ _ _ _ _ => S
    refine r_itemI S (j := i) (by omega) ht hc fun tk s' S => ?_
    repeat tb_rel
    exact S.pureL ⟨tk, by rw [sgn_some hc]⟩
  · have h1' : ¬ i < t.length := by simp at h1; omega
    repeat tb_rel
    rename St _ _ _ _ _ _ => S
    exact S.pureL ⟨_, by rw [sgn_none (at_ge h1'), L_none]⟩
set_option maxHeartbeats 1000000 in
theorem k189 (C : Cx w g A (d + 2)) (H : Has g led s.heap) (Sc : Scan w g led x dx l t i ws) (ht : t.length ≤ sizeLine) :
    codeAny (model PR w) A (.call (.ref 189) ⟨[.ref x], []⟩) (ScanTo w g led s x dx l t (spanTo isSp t i) ws fun v => v = .none) s := by
  refine' enter (binds := [("self", .ref x)]) ?C ?H ?ho ?hcd ?hb ?hl ?_ ?c1 ?c2 ?c3 ?c4; tb_start
  intro L s1 S C1
  refine x_while (fun n s => ∃ i' led', n = t.length - i' ∧ spanTo isSp t i' = spanTo isSp t i ∧ Scan w g led' x dx l t i' ws ∧ St _ g L _ led' s) (t.length - i) ⟨i, led, rfl, rfl, Sc, S⟩ ?_
  clear S Sc
  rintro n s ⟨i', led', rfl, he, Sc, S⟩
  repeat tb_rel
  refine ite_c (fun h1 => ?_) (fun h1 => ?_)
  · have h1' : i' < t.length := by simp at h1; omega
    obtain ⟨c, hc⟩ := at_lt h1'
    repeat tb_rel
    rename St _ _ _ _ _ _ => S
    refine r_itemI S (j := i') rfl ht hc fun tk s' S => ?_
    repeat tb_rel
    refine r_pure S (k45 C1 S.has0) fun v s' hv S => ?_
    subst hv
    repeat tb_rel
    refine ite_c (fun h2 => ?_) (fun h2 => ?_)
    · repeat tb_rel
      refine ite_t rfl ?_
      repeat tb_rel
      rename St _ _ _ _ _ _ => S
      rename Scan _ _ _ _ _ _ _ _ _ => Sc
      refine r_setat (i' := i' + 1) C1 S Sc (by omega) fun led'' s' S Sc => ?_
      repeat tb_rel
      exact ⟨t.length - (i' + 1), by omega, i' + 1, led'', rfl, by rw [spanTo_step hc h2, he], Sc, S⟩
    · refine ite_f rfl ?_
      repeat tb_rel
      rename Scan _ _ _ _ _ _ _ _ _ => Sc
      rw [spanTo_stop hc h2] at he
      subst he
      exact S.scanTo Sc rfl
  · refine ite_f rfl ?_
    have h1' : ¬ i' < t.length := by simp at h1; omega
    repeat tb_rel
    rename St _ _ _ _ _ _ => S
    rename Scan _ _ _ _ _ _ _ _ _ => Sc
    rw [spanTo_end (at_ge h1')] at he
    subst he
    exact S.scanTo Sc rfl
end
end Mine
/- M10 -/
namespace Mine
open PySem PySem.W PySem.Calls PyProof.Rows
set_option maxHeartbeats 200000
section
variable {w : World} {A : Around} {E : Value → Shared → Prop} {s s0 : Shared} {e : Ent} {g : Heap} {L x dx l f : Addr} {m : Str → Option Value} {led led₁ rest : Led} {d i i' : Nat} {t : Str} {ws ws' : List Wd}
theorem r_append {items : Array Value} {k : Nat} {v : Value} {Q : Value → Shared → Prop} (S : St e g L m ((l, lstObj items k) :: rest) s) (hz : items.size ≤ sizeLine)
    (h : ∀ k' s', St e g L m ((l, lstObj (items.push v) k') :: rest) s' → Q .none s') : wpAny (model PR w) A (call (.builtin "list.append") [.ref l, v]) Q E s := by
  refine wpAny_list_append_plain ⟨k, S.get (.head _)⟩ (fun h' ⟨k', hl'⟩ hs => ?_) hz
  exact h k' _ (S.upd (tk := s.toks) hs hl' fun _ vs q => by cases q)
theorem r_appendM {items : Array Value} {k : Nat} {pl : Sem Bool} {Q : Value × List Value → Shared → Prop} (S : St e g L m led s) (hm : (l, lstObj items k) ∈ led) (h : Q (.builtin "list.append", [.ref l]) s) :
    wpAny (model PR w) A (getMethod (.ref l) "append" pl) Q E s :=
  getMethod_builtin ⟨_, S.get hm, rfl⟩ PySem.F.plainAttrs_list PySem.F.slot_list_append PySem.F.type_list_append (fun a e => by cases e; exact ⟨_, S.get hm, rfl⟩) h
theorem isList_led {items : Array Value} {k : Nat} (S : St e g L m led s) (hm : (l, lstObj items k) ∈ led) : s.heap.IsList l items := ⟨_, S.get hm, rfl, k, rfl⟩
/-- is it the empty list? -/
theorem r_isNil {items : Array Value} {a : Addr} {Q : Value → Shared → Prop} (C : Cx w g A d) (hl : s.heap.IsList l items) (ha : s.heap.IsList a #[]) (h : Q (.bool (decide (items.size = 0))) s) : wpAny (model PR w) A (compareOp .Eq (.ref l) (.ref a)) Q E s := by
  have hu : A.units < cLine := by have := C.units; show A.units < 9900; omega
  by_cases hs : items.size = 0
  · refine SeqAt.eq_listAt (e := fun _ => true) hl ha hs hu (fun j h1 => by omega) ?_
    rw [hs]; simpa [hs] using h
  · refine SeqAt.eq_list_lengthsAt hl ha (by simpa using hs) hu ?_
    simpa [hs] using h
theorem r_last {items : Array Value} {v : Value} {k : Int} {u : Tok} {value slice : Expr} {Q : Value → Shared → Prop} (hl : s.heap.IsList l items) (hk : k = -1) (hs : items.size ≤ sizeLine) (hv : items.back? = some v) (h : Q v s)
    (hq : subscripted slice false (.ref l) (.int k u) = operate [.ref l, .int k u] (getItem (.ref l) (.int k u)) := by with_unfolding_all rfl) :
    wpAny (model PR w) A (subscriptTail value slice (.ref l) (.int k u)) Q E s := by
  subst hk
  have hpos : 0 < items.size := by
    rw [Array.back?_eq_getElem?] at hv
    obtain ⟨q, _⟩ := Array.getElem?_eq_some_iff.mp hv
    omega
  refine tail_any hl.typeIs slot_list_getitem.lookup (wpAny_getItem_list_neg hl (by decide) (by omega) (by decide) ?_ h) hq
  rw [Array.back?_eq_getElem?] at hv
  have e1 : ((-1 : Int) + (items.size : Nat)).toNat = items.size - 1 := by omega
  rw [e1]; exact hv
/-- attributes of a word -/
theorem r_kind {a : Value} {y : Wd} {Q : Value → Shared → Prop} (C : Cx w g A d) (S : St e g L m led s) (Iw : IsWord w g a y) (h : ∀ tk s', St e g L m led s' → Q (.str y.1 tk) s') : wpAny (model PR w) A (getAttr a "kind" true) Q E s := by
  obtain ⟨a, da, t1, t2, t3, t4, t5, t6, rfl, I⟩ := Iw
  exact r_get (attr := none) C S (I.keeps S.keep) (by k_is) (by k_is) (by k_is) (by k_is) (by rfl) (by rfl) fun s' _ S' => h _ s' S'
theorem r_wtext {a : Value} {y : Wd} {Q : Value → Shared → Prop} (C : Cx w g A d) (S : St e g L m led s) (Iw : IsWord w g a y) (h : ∀ tk s', St e g L m led s' → Q (.str y.2.1 tk) s') : wpAny (model PR w) A (getAttr a "text" true) Q E s := by
  obtain ⟨a, da, t1, t2, t3, t4, t5, t6, rfl, I⟩ := Iw
  exact r_get (attr := none) C S (I.keeps S.keep) (by k_is) (by k_is) (by k_is) (by k_is) (by rfl) (by rfl) fun s' _ S' => h _ s' S'
theorem r_place {a : Value} {y : Wd} {Q : Value → Shared → Prop} (C : Cx w g A d) (S : St e g L m led s) (Iw : IsWord w g a y) (h : ∀ tk s', St e g L m led s' → Q (.int y.2.2 tk) s') : wpAny (model PR w) A (getAttr a "place" true) Q E s := by
  obtain ⟨a, da, t1, t2, t3, t4, t5, t6, rfl, I⟩ := Iw
  exact r_get (attr := none) C S (I.keeps S.keep) (by k_is) (by k_is) (by k_is) (by k_is) (by rfl) (by rfl) fun s' _ S' => h _ s' S'
/-- a fresh list or tuple of values -/
theorem r_newList {vs : List Value} {Q : Value → Shared → Prop} (S : St e g L m led s) (hz : vs.length ≤ sizeLine) (h : ∀ a s', St e g L m ((a, lstObj vs.toArray 0) :: led) s' → Q (.ref a) s') : wpAny (model PR w) A (newList vs) Q E s :=
  wpAny_newList (h _ _ (S.push (tk := s.toks) rfl)) hz
abbrev tupObj (items : Array Value) : Obj := { cls := .type "tuple", data := .seq items }
theorem r_newTuple {vs : List Value} {Q : Value → Shared → Prop} (S : St e g L m led s) (hz : vs.length ≤ sizeLine) (h : ∀ a s', St e g L m ((a, tupObj vs.toArray) :: led) s' → Q (.ref a) s') : wpAny (model PR w) A (newTuple vs) Q E s :=
  wpAny_newTuple (h _ _ (S.push (tk := s.toks) rfl)) hz
end
local macro_rules | `(tactic| tb_start) => `(tactic| ((case C => assumption); (case H => assumption); (case ho => k_is); (case hcd => k_is); (case hb => first | exact BindsTo.of_eq rfl | exact binds_K (Frag.In.keeps (Cx.X ‹Cx _ _ _ _›) (Has.keep ‹Has _ _ _›)) rfl (by k_is) rfl rfl rfl); (case hl => exact locs rfl); (case c1 => exact rfl); (case c2 => exact rfl); (case c3 => exact rfl); (case c4 => decide)))
local macro_rules | `(tactic| tb_rel) => `(tactic| first
  | with_reducible refine x_return ?_
  | with_reducible refine x_if ?_
  | ((with_reducible refine x_assign ?_ ?hs); (case hs => rfl))
  | ((with_reducible refine x_expr ?_ ?hi ?hs); (case hi => rfl); (case hs => rfl))
  | ((with_reducible refine x_setattr ?_ ?hs); (case hs => rfl))
  | with_reducible refine x_nil ?_
  | with_reducible refine kont_next ?_
  | with_reducible refine kont_ret ?_
  | with_reducible refine fnK_ret ?_
  | with_reducible refine fnK_next ?_
  | ((with_reducible refine wpAny_isTrue_Compare1 (hm := ?hm) ?_); (case hm => rfl))
  | ((with_reducible refine isTrue_chain (hm := ?hm) ?_); (case hm => rfl))
  | with_reducible refine wpAny_isTrue_BoolOp ?_
  | with_reducible refine wpAny_isTrue_Not ?_
  | with_reducible refine wpAny_allTrue_And_cons ?_
  | with_reducible refine wpAny_allTrue_Or_cons ?_
  | with_reducible refine wpAny_allTrue_And_nil ?_
  | with_reducible refine wpAny_allTrue_Or_nil ?_
  | ((with_reducible refine Compare_chain (hm := ?hm) ?_); (case hm => rfl))
  | with_reducible refine chain_linkE ?_
  | with_reducible refine chain_lastE ?_
  | ((with_reducible refine wpAny_Compare1 (hm := ?hm) ?_); (case hm => rfl))
  | with_reducible refine wpAny_BinOp ?_
  | with_reducible refine wpAny_IfExp ?_
  | with_reducible refine wpAny_UnaryOp ?_
  | with_reducible refine eval_boolOp ?_
  | with_reducible refine boolOp_orE ?_
  | with_reducible refine boolOp_andE ?_
  | with_reducible refine boolOp_oneE ?_
  | with_reducible refine wpAny_truthy_bool ?_
  | with_reducible refine wpAny_Call_ofName ?_
  | ((with_reducible refine' MethodCall_ (he := ?he) ?_); (case he => rfl))
  | ((with_reducible refine PyProof.Rows.Attribute_any_ ?_ ?he); (case he => rfl))
  | with_reducible refine PyProof.Rows.Subscript_ ?_
  | with_reducible refine PyProof.Rows.Tuple_ ?_
  | with_reducible refine PyProof.Rows.List_ ?_
  | ((with_reducible refine r_callW (by assumption) ?hk ?_ ?he ?hp); (case hk => k_is); (case he => rfl); (case hp => rfl))
  | ((with_reducible refine r_callW0 (by assumption) (by assumption) ?hk ?_); (case hk => k_is))
  | ((with_reducible refine PyProof.Rows.callWith_method0 ?_))
  | ((with_reducible refine r_callB ?_ ?he ?hp); (case he => rfl); (case hp => rfl))
  | ((with_reducible refine PyProof.Rows.callWith_method1 ?_ ?he ?hp); (case he => rfl); (case hp => rfl))
  | ((with_reducible refine r_callT ?_ ?he ?hp); (case he => rfl); (case hp => rfl))
  | ((with_reducible refine PyProof.Rows.spliced_more ?_ ?he); (case he => rfl))
  | with_reducible refine PyProof.Rows.spliced_none ?_
  | with_reducible refine inK (by assumption) (by assumption) ?_
  | with_reducible refine PyProof.Rows.eq_int ?_
  | with_reducible refine PyProof.Rows.ne_int ?_
  | with_reducible refine PyProof.Rows.lt_int ?_
  | with_reducible refine PyProof.Rows.gt_int ?_
  | with_reducible refine PyProof.Rows.le_int ?_
  | with_reducible refine PyProof.Rows.ge_int ?_
  | with_reducible refine PyProof.Rows.eq_str ?_
  | with_reducible refine PyProof.Rows.ne_str ?_
  | with_reducible refine PySem.P.le_str ?_
  | with_reducible refine PyProof.Rows.in_str ?_
  | with_reducible refine r_bool ?_
  | ((rename St _ _ _ _ _ _ => S0); (first
     | (with_reducible refine r_str S0 ?_)
     | (with_reducible refine r_int S0 ?_)
     | (with_reducible refine r_add S0 ?_)
     | (with_reducible refine r_sub S0 ?_)
     | (with_reducible refine r_find3 S0 ?_)); clear S0; intro tk' s' S')
  | ((rename St _ _ _ _ _ _ => S0); (with_reducible refine' r_local S0 ?hv ?_ ?hk ?hl ?hd); (case hv => first | rfl | assumption); (case hk => rfl); (case hl => rfl); (case hd => decide))
  | ((rename St _ _ _ _ _ _ => S0); (with_reducible refine' r_glob (by assumption) S0 ?hv ?_ ?hk ?hl ?hd); (case hv => k_is); (case hk => rfl); (case hl => rfl); (case hd => decide))
  | ((rename St _ _ _ _ _ _ => S0); (with_reducible refine' r_bi (by assumption) S0 ?hv ?hb ?hn ?_ ?hk ?hl ?hd); (case hv => k_is); (case hb => boot_by_name); (case hn => decide); (case hk => rfl); (case hl => rfl); (case hd => decide))
  | ((rename St _ _ _ _ _ _ => S0); (with_reducible refine r_store S0 ?_ ?hk ?hl); clear S0; (case hk => rfl); (case hl => rfl); intro s' S')
  | ((with_reducible refine isTrue_plain ?_ ?he); (case he => rfl)))
local macro_rules | `(tactic| tb_rel) => `(tactic| ((rename St _ _ _ _ _ _ => S0); (rename Scan _ _ _ _ _ _ _ _ _ => c0); first
  | ((with_reducible refine r_text (by assumption) S0 c0 ?_); clear S0; intro tk' s' S')
  | ((with_reducible refine r_at (by assumption) S0 c0 ?_); clear S0; intro tk' s' S')
  | ((with_reducible refine r_found (by assumption) S0 c0 ?_); clear S0; intro s' S')
  | ((with_reducible refine' r_scm (by assumption) S0 c0 ?hg ?hf ?ht ?hl ?_); (case hg => k_is); (case hf => k_is); (case ht => k_is); (case hl => exact fun _ _ _ _ _ _ _ _ => rfl))
  | ((with_reducible refine r_callM (by assumption) ?hk ?_ ?he ?hp); (case hk => k_is); (case he => rfl); (case hp => rfl))
  | ((with_reducible refine r_callM0 (by assumption) S0 ?hk ?_); (case hk => k_is))
  | ((with_reducible refine r_lenS S0 ?hz ?_); (case hz => assumption); clear S0; intro tk' s' S')))
section
variable {w : World} {A : Around} {E : Value → Shared → Prop} {s s0 : Shared} {e : Ent} {g : Heap} {L x dx l f : Addr} {m : Str → Option Value} {led led₁ : Led} {d i i' : Nat} {t : Str} {ws ws' : List Wd}
set_option maxHeartbeats 1000000 in
theorem k118 {k tx : Str} {p : Int} {a b c : Tok} (C : Cx w g A (d + 1)) (H : Has g [(dx, dictOf [] 0), (x, instObj 142 dx)] s.heap) :
    codeAny (model PR w) A (.call (.ref 118) ⟨[.ref x, .str k a, .str tx b, .int p c], []⟩)
      (fun r s' => r = .ok (.ret .none) ∧ ∃ t1 t2 t3 n, Ran g [(dx, dictOf [] 0), (x, instObj 142 dx)] s g [(dx, dictOf (woD w k tx p t1 t2 t3 a b c) n), (x, instObj 142 dx)] s') s := by
  refine' enter (binds := [("self", .ref x), ("kind", .str k a), ("text", .str tx b), ("place", .int p c)]) ?C ?H ?ho ?hcd ?hb ?hl ?_ ?c1 ?c2 ?c3 ?c4; tb_start
  intro L s1 S C1
  repeat tb_rel
  rename St _ _ _ _ _ _ => S
  refine r_set (Cl := 142) C1 S (S.get (.tail _ (.head _))) (by k_is) (by k_is) (by k_is) (by k_is) (by rfl) (by exact Nat.le_of_ble_eq_true rfl) fun t1 n' s' S _ => ?_
  repeat tb_rel
  rename St _ _ _ _ _ _ => S
  refine r_set (Cl := 142) C1 S (S.get (.tail _ (.head _))) (by k_is) (by k_is) (by k_is) (by k_is) (by rfl) (by exact Nat.le_of_ble_eq_true rfl) fun t2 n' s' S _ => ?_
  repeat tb_rel
  rename St _ _ _ _ _ _ => S
  refine r_set (Cl := 142) C1 S (S.get (.tail _ (.head _))) (by k_is) (by k_is) (by k_is) (by k_is) (by rfl) (by exact Nat.le_of_ble_eq_true rfl) fun t3 n' s' S _ => ?_
  repeat tb_rel
  exact ⟨rfl, t1, t2, t3, n', S.ran⟩
theorem r_word {k tx : Str} {p : Int} {a b c : Tok} {Q : Value → Shared → Prop} (C : Cx w g A (d + 2)) (S : St e g L m led s)
    (h : ∀ v g' s', g.StaysIn g' → IsWord w g' v (k, tx, p) → St e g' L m led s' → Q v s') : wpAny (model PR w) A (call (.ref 142) [.str k a, .str tx b, .int p c] []) Q E s := by
  refine r_make (fI := 118) C S (by k_is) (by k_is) (by k_is) fun x dx s' S => ?_
  have S1 : St e g L m ([(dx, dictOf [] 0), (x, instObj 142 dx)] ++ led) s' := S.perm (.swap _ _ _)
  have H : Has g [(dx, dictOf [] 0), (x, instObj 142 dx)] s'.heap := ⟨S1.keep, fun p hp => S1.ran.has.at_ p (List.mem_append_left _ hp), by
    have := S1.ran.has.nd
    rw [List.map_append, List.nodup_append] at this
    exact this.1⟩
  refine codeAny_mono (k118 C.underMake H) fun r s'' ⟨hr, t1, t2, t3, n, R⟩ => ⟨hr, ?_⟩
  obtain ⟨g', hg, S2, hf⟩ := (S1.ret R).freeze
  exact h _ g' s'' hg ⟨x, dx, t1, t2, t3, a, b, c, rfl, hf _ (.tail _ (.head _)), n, hf _ (.head _)⟩ S2
set_option maxHeartbeats 1000000 in
theorem k175 {k tx : Str} {p : Int} {a b c : Tok} (C : Cx w g A (d + 3)) (H : Has g led s.heap) (Sc : Scan w g led x dx l t i ws) (hw : ws.length ≤ 1000000) :
    codeAny (model PR w) A (.call (.ref 175) ⟨[.ref x, .str k a, .str tx b, .int p c], []⟩) (ScanTo w g led s x dx l t i (ws ++ [(k, tx, p)]) fun v => v = .none) s := by
  refine' enter (binds := [("self", .ref x), ("kind", .str k a), ("text", .str tx b), ("begin", .int p c)]) ?C ?H ?ho ?hcd ?hb ?hl ?_ ?c1 ?c2 ?c3 ?c4; tb_start
  intro L s1 S C1
  repeat tb_rel
  rename St _ _ _ _ _ _ => S
  rename Scan _ _ _ _ _ _ _ _ _ => Sc
  obtain ⟨a1, b1, c1, p1, q1, n, k1, items, rfl, W⟩ := Sc
  refine r_appendM S (.tail _ (.head _)) ?_
  repeat tb_rel
  rename St _ _ _ _ _ _ => S
  refine r_word C1 S fun v g' s' hg Iw S => ?_
  repeat tb_rel
  have S1 := S.perm (.swap (dx, dictOf (scD w t i l a1 b1 c1 p1 q1) n) (l, lstObj items k1) [(x, instObj 262 dx)])
  refine r_append S1 (by rw [← Array.length_toList, W.length, sizeLine_eq]; omega) fun k' s' S => ?_
  repeat tb_rel
  have S2 := S.perm (.swap (l, lstObj (items.push v) k') (dx, dictOf (scD w t i l a1 b1 c1 p1 q1) n) [(x, instObj 262 dx)])
  refine S2.scanTo ⟨a1, b1, c1, p1, q1, n, k', items.push v, rfl, ?_⟩ rfl
  rw [Array.toList_push]
  exact (W.mono hg).snoc Iw

def isFig (c : Nat) : Bool := decide (48 ≤ c ∧ c ≤ 57)
theorem fig_in (c : Nat) : (!(Builtin.Str.occurrences (Str.ofString "0123456789") ⟨#[c]⟩ 0 (Str.ofString "0123456789").length 1).isEmpty) = isFig c := by
  rw [StrLaws.found_one, show (Str.ofString "0123456789").cps.toList = [48, 49, 50, 51, 52, 53, 54, 55, 56, 57] from by decide +kernel, Bool.eq_iff_iff]
  simp [isFig]; omega
theorem none_ne : ((⟨#[]⟩ : Str) != Str.ofString "") = false := by rw [L_none]; rfl
set_option maxHeartbeats 1000000 in
theorem k217 (C : Cx w g A (d + 2)) (H : Has g led s.heap) (Sc : Scan w g led x dx l t i ws) (ht : t.length ≤ sizeLine) :
    codeAny (model PR w) A (.call (.ref 217) ⟨[.ref x], []⟩) (ScanTo w g led s x dx l t (spanTo isFig t i) ws fun v => v = .none) s := by
  refine' enter (binds := [("self", .ref x)]) ?C ?H ?ho ?hcd ?hb ?hl ?_ ?c1 ?c2 ?c3 ?c4; tb_start
  intro L s1 S C1
  refine x_while (fun n s => ∃ i' led', n = t.length - i' ∧ spanTo isFig t i' = spanTo isFig t i ∧ Scan w g led' x dx l t i' ws ∧ St _ g L _ led' s) (t.length - i) ⟨i, led, rfl, rfl, Sc, S⟩ ?_
  clear S Sc
  rintro n s ⟨i', led', rfl, he, Sc, S⟩
  repeat tb_rel
  rename St _ _ _ _ _ _ => S
  rename Scan _ _ _ _ _ _ _ _ _ => Sc
  refine r_pureL S (k168' C1 S.hasL Sc ht) fun v s' hv S => ?_
  obtain ⟨tk, rfl⟩ := hv
  repeat tb_rel
  cases hc : t.cps[i']? with
  | none =>
    rw [sgn_none hc, none_ne]
    refine ite_f rfl ?_
    refine ite_f rfl ?_
    repeat tb_rel
    rename St _ _ _ _ _ _ => S
    rename Scan _ _ _ _ _ _ _ _ _ => Sc
    rw [spanTo_end hc] at he
    subst he
    exact S.scanTo Sc rfl
  | some c =>
    rw [sgn_some hc, ne_none]
    refine ite_t rfl ?_
    repeat tb_rel
    rename St _ _ _ _ _ _ => S
    rename Scan _ _ _ _ _ _ _ _ _ => Sc
    refine r_pureL S (k168' C1 S.hasL Sc ht) fun v s' hv S => ?_
    obtain ⟨tk', rfl⟩ := hv
    repeat tb_rel
    rw [sgn_some hc, fig_in]
    refine ite_c (fun h2 => ?_) (fun h2 => ?_)
    · repeat tb_rel
      refine ite_t rfl ?_
      repeat tb_rel
      rename St _ _ _ _ _ _ => S
      rename Scan _ _ _ _ _ _ _ _ _ => Sc
      refine r_setat (i' := i' + 1) C1 S Sc (by omega) fun led'' s' S Sc => ?_
      repeat tb_rel
      have hlt : i' < t.length := (Array.getElem?_eq_some_iff.mp hc).1
      exact ⟨t.length - (i' + 1), by omega, i' + 1, led'', rfl, by rw [spanTo_step hc h2, he], Sc, S⟩
    · refine ite_f rfl ?_
      repeat tb_rel
      rename St _ _ _ _ _ _ => S
      rename Scan _ _ _ _ _ _ _ _ _ => Sc
      rw [spanTo_stop hc h2] at he
      subst he
      exact S.scanTo Sc rfl
end
end Mine
/- M11 -/
namespace Mine
open PySem PySem.W PySem.Calls PyProof.Rows
set_option maxHeartbeats 200000
/-- the signs from i up to j -/
def sub (t : Str) (i j : Nat) : Str := ⟨((t.cps.toList.drop i).take (j - i)).toArray⟩
section
variable {w : World} {A : Around} {E : Value → Shared → Prop} {s s0 : Shared} {e : Ent} {g : Heap} {L x dx l f : Addr} {m : Str → Option Value} {led led₁ rest : Led} {d i i' : Nat} {t : Str} {ws ws' : List Wd}
/-- as S, of another state -/
def Same {e : Ent} {g : Heap} {L : Addr} {m : Str → Option Value} {led : Led} {s : Shared} (_ : St e g L m led s) (s₂ : Shared) : Prop := St e g L m led s₂
theorem x_slice {lo up : PySem.Expr} {p : Pos} {env : Env} {Q : Value → Shared → Prop}
    (h : wpAny (model PR w) A (eval lo env) (fun a s₁ => wpAny (model PR w) A (eval up env) (fun b s₂ => Q (.ref s₂.heap.objs.size) { s₂ with heap := s₂.heap.push { cls := .type "slice", data := .fields #[a, b, .none] } }) E s₁) E s) :
    wpAny (model PR w) A (eval (.Slice (some lo) (some up) none p) env) Q E s :=
  wpAny_Slice (wpAny_evalPart_some (wpAny_mono h (fun _ _ h₁ => wpAny_evalPart_some (wpAny_mono h₁ (fun _ _ h₂ => wpAny_evalPart_none h₂) fun _ _ x => x)) fun _ _ x => x))
theorem r_slice {tt : Str} {tk ta tb : Tok} {i j : Nat} {value lo up : PySem.Expr} {p : Pos} {Q : Value → Shared → Prop} (S : St e g L m led s) (hij : i ≤ j) (hj : j ≤ tt.length) (hz : tt.length ≤ sizeLine) (h : ∀ tk' s', St e g L m led s' → Q (.str (sub tt i j) tk') s') :
    wpAny (model PR w) A (subscriptTail value (.Slice (some lo) (some up) none p) (.str tt tk) (.ref s.heap.objs.size)) Q E { s with heap := s.heap.push { cls := .type "slice", data := .fields #[.int i ta, .int j tb, .none] } } := by
  refine tail_of_ItemOn (SBH.sliceItem_ss (P := fun h' => ∀ b o, s.heap.get? b = some o → h'.get? b = some o) (fun h' ob k b o q => Heap.get?_push_of_some _ (k b o q)) (fun _ _ q => q) (fun h' t' k hk => ?_) hz) rfl (by intro r; cases value <;> rfl)
  have e1 : Txt.slice tt (some (i : Int)) (some (j : Int)) = sub tt i j := by
    have := beq_iff_eq.mp (slice_closes (x := tt) (i := i) (j := j) ⟨by omega, by omega, by
      have : tt.cps.toList.length = tt.length := Array.length_toList
      omega⟩)
    rw [this]
    unfold sub
    have e2 : ((j : Int) - (i : Int)).toNat = j - i := by omega
    rw [e2]; rfl
  rw [e1]
  exact h t' _ (St.grow S hk)
end
local macro_rules | `(tactic| tb_start) => `(tactic| ((case C => assumption); (case H => assumption); (case ho => k_is); (case hcd => k_is); (case hb => first | exact BindsTo.of_eq rfl | exact binds_K (Frag.In.keeps (Cx.X ‹Cx _ _ _ _›) (Has.keep ‹Has _ _ _›)) rfl (by k_is) rfl rfl rfl); (case hl => exact locs rfl); (case c1 => exact rfl); (case c2 => exact rfl); (case c3 => exact rfl); (case c4 => decide)))
local macro_rules | `(tactic| tb_rel) => `(tactic| first
  | with_reducible refine x_return ?_
  | with_reducible refine x_if ?_
  | ((with_reducible refine x_assign ?_ ?hs); (case hs => rfl))
  | ((with_reducible refine x_expr ?_ ?hi ?hs); (case hi => rfl); (case hs => rfl))
  | ((with_reducible refine x_setattr ?_ ?hs); (case hs => rfl))
  | with_reducible refine x_nil ?_
  | with_reducible refine kont_next ?_
  | with_reducible refine kont_ret ?_
  | with_reducible refine fnK_ret ?_
  | with_reducible refine fnK_next ?_
  | ((with_reducible refine wpAny_isTrue_Compare1 (hm := ?hm) ?_); (case hm => rfl))
  | ((with_reducible refine isTrue_chain (hm := ?hm) ?_); (case hm => rfl))
  | with_reducible refine wpAny_isTrue_BoolOp ?_
  | with_reducible refine wpAny_isTrue_Not ?_
  | with_reducible refine wpAny_allTrue_And_cons ?_
  | with_reducible refine wpAny_allTrue_Or_cons ?_
  | with_reducible refine wpAny_allTrue_And_nil ?_
  | with_reducible refine wpAny_allTrue_Or_nil ?_
  | ((with_reducible refine Compare_chain (hm := ?hm) ?_); (case hm => rfl))
  | with_reducible refine chain_linkE ?_
  | with_reducible refine chain_lastE ?_
  | ((with_reducible refine wpAny_Compare1 (hm := ?hm) ?_); (case hm => rfl))
  | with_reducible refine wpAny_BinOp ?_
  | with_reducible refine wpAny_IfExp ?_
  | with_reducible refine wpAny_UnaryOp ?_
  | with_reducible refine eval_boolOp ?_
  | with_reducible refine boolOp_orE ?_
  | with_reducible refine boolOp_andE ?_
  | with_reducible refine boolOp_oneE ?_
  | with_reducible refine wpAny_truthy_bool ?_
  | with_reducible refine wpAny_Call_ofName ?_
  | ((with_reducible refine' MethodCall_ (he := ?he) ?_); (case he => rfl))
  | ((with_reducible refine PyProof.Rows.Attribute_any_ ?_ ?he); (case he => rfl))
  | with_reducible refine PyProof.Rows.Subscript_ ?_
  | with_reducible refine PyProof.Rows.Tuple_ ?_
  | with_reducible refine PyProof.Rows.List_ ?_
  | ((with_reducible refine r_callW (by assumption) ?hk ?_ ?he ?hp); (case hk => k_is); (case he => rfl); (case hp => rfl))
  | ((with_reducible refine r_callW0 (by assumption) (by assumption) ?hk ?_); (case hk => k_is))
  | ((with_reducible refine PyProof.Rows.callWith_method0 ?_))
  | ((with_reducible refine r_callB ?_ ?he ?hp); (case he => rfl); (case hp => rfl))
  | ((with_reducible refine PyProof.Rows.callWith_method1 ?_ ?he ?hp); (case he => rfl); (case hp => rfl))
  | ((with_reducible refine r_callT ?_ ?he ?hp); (case he => rfl); (case hp => rfl))
  | ((with_reducible refine PyProof.Rows.spliced_more ?_ ?he); (case he => rfl))
  | with_reducible refine PyProof.Rows.spliced_none ?_
  | with_reducible refine inK (by assumption) (by assumption) ?_
  | with_reducible refine PyProof.Rows.eq_int ?_
  | with_reducible refine PyProof.Rows.ne_int ?_
  | with_reducible refine PyProof.Rows.lt_int ?_
  | with_reducible refine PyProof.Rows.gt_int ?_
  | with_reducible refine PyProof.Rows.le_int ?_
  | with_reducible refine PyProof.Rows.ge_int ?_
  | with_reducible refine PyProof.Rows.eq_str ?_
  | with_reducible refine PyProof.Rows.ne_str ?_
  | with_reducible refine PySem.P.le_str ?_
  | with_reducible refine PyProof.Rows.in_str ?_
  | with_reducible refine r_bool ?_
  | ((rename St _ _ _ _ _ _ => S0); (first
     | (with_reducible refine r_str S0 ?_)
     | (with_reducible refine r_int S0 ?_)
     | (with_reducible refine r_add S0 ?_)
     | (with_reducible refine r_sub S0 ?_)
     | (with_reducible refine r_find3 S0 ?_)); clear S0; intro tk' s' S')
  | ((rename St _ _ _ _ _ _ => S0); (with_reducible refine' r_local S0 ?hv ?_ ?hk ?hl ?hd); (case hv => first | rfl | assumption); (case hk => rfl); (case hl => rfl); (case hd => decide))
  | ((rename St _ _ _ _ _ _ => S0); (with_reducible refine' r_glob (by assumption) S0 ?hv ?_ ?hk ?hl ?hd); (case hv => k_is); (case hk => rfl); (case hl => rfl); (case hd => decide))
  | ((rename St _ _ _ _ _ _ => S0); (with_reducible refine' r_bi (by assumption) S0 ?hv ?hb ?hn ?_ ?hk ?hl ?hd); (case hv => k_is); (case hb => boot_by_name); (case hn => decide); (case hk => rfl); (case hl => rfl); (case hd => decide))
  | ((rename St _ _ _ _ _ _ => S0); (with_reducible refine r_store S0 ?_ ?hk ?hl); clear S0; (case hk => rfl); (case hl => rfl); intro s' S')
  | ((with_reducible refine isTrue_plain ?_ ?he); (case he => rfl)))
local macro_rules | `(tactic| tb_rel) => `(tactic| ((rename St _ _ _ _ _ _ => S0); first
  | with_reducible refine x_slice ?_
  | ((with_reducible refine r_text (by assumption) S0 (by assumption) ?_); clear S0; intro tk' s' S')
  | ((with_reducible refine r_at (by assumption) S0 (by assumption) ?_); clear S0; intro tk' s' S')
  | ((with_reducible refine r_found (by assumption) S0 (by assumption) ?_); clear S0; intro s' S')
  | ((with_reducible refine' r_scm (by assumption) S0 (by assumption) ?hg ?hf ?ht ?hl ?_); (case hg => k_is); (case hf => k_is); (case ht => k_is); (case hl => exact fun _ _ _ _ _ _ _ _ => rfl))
  | ((with_reducible refine r_callM (by assumption) ?hk ?_ ?he ?hp); (case hk => k_is); (case he => rfl); (case hp => rfl))
  | ((with_reducible refine r_callM0 (by assumption) S0 ?hk ?_); (case hk => k_is))
  | ((with_reducible refine r_lenS S0 ?hz ?_); (case hz => assumption); clear S0; intro tk' s' S')))
def BEH : List Str := [⟨#[64]⟩, ⟨#[58, 58]⟩, ⟨#[40]⟩, ⟨#[91]⟩, ⟨#[44]⟩]
def sOp : Str := "operator"
def sSign : Str := "sign"
def isBehind (ws : List Wd) : Bool := match ws.getLast? with
  | none => false
  | some y => if y.1 == sOp then false else !(y.1 == sSign && BEH.any (· == y.2.1))
section
variable {w : World} {A : Around} {E : Value → Shared → Prop} {s s0 : Shared} {e : Ent} {g : Heap} {L x dx l f : Addr} {m : Str → Option Value} {led led₁ : Led} {d i i' : Nat} {t : Str} {ws ws' : List Wd}
theorem Words.last : ∀ {vs : List Value} {xs : List Wd}, Words w g vs xs → xs ≠ [] → ∃ v y, vs.getLast? = some v ∧ xs.getLast? = some y ∧ IsWord w g v y
  | _, _, .cons (v := v) (x := y) a .nil, _ => ⟨v, y, rfl, rfl, a⟩
  | _, _, .cons _ (.cons a b), _ => by
    obtain ⟨v, y, h1, h2, h3⟩ := Words.last (.cons a b) (by simp)
    exact ⟨v, y, by rw [List.getLast?_cons_cons]; exact h1, by rw [List.getLast?_cons_cons]; exact h2, h3⟩
  | _, _, .nil, n => absurd rfl n
set_option maxHeartbeats 1000000 in
theorem k196 (C : Cx w g A (d + 1)) (H : Has g led s.heap) (Sc : Scan w g led x dx l t i ws) (hw : ws.length ≤ 1000000) :
    codeAny (model PR w) A (.call (.ref 196) ⟨[.ref x], []⟩) (PureL g led s fun v => v = .bool (isBehind ws)) s := by
  refine' enter (binds := [("self", .ref x)]) ?C ?H ?ho ?hcd ?hb ?hl ?_ ?c1 ?c2 ?c3 ?c4; tb_start
  intro L s1 S C1
  repeat tb_rel
  rename St _ _ _ _ _ _ => S
  rename Scan _ _ _ _ _ _ _ _ _ => Sc
  refine r_newList S (by decide) fun a s' S => ?_
  have Sc' := Sc
  obtain ⟨a1, b1, c1, p1, q1, n, k1, items, rfl, W⟩ := Sc'
  have hl0 : s'.heap.IsList l items := isList_led S (.tail _ (.tail _ (.head _)))
  refine r_isNil C1 hl0 (isList_led S (.head _)) ?_
  have S := S.drop0
  have hlen : items.size = ws.length := by rw [← Array.length_toList]; exact W.length
  repeat tb_rel
  refine ite_c (fun h1 => ?_) (fun h1 => ?_)
  · repeat tb_rel
    rename St _ _ _ _ _ _ => S
    refine S.pureL ?_
    simp at h1
    have : ws = [] := List.length_eq_zero_iff.mp (by rw [← hlen, h1]; rfl)
    rw [this]; rfl
  · have hne : ws ≠ [] := by
      intro q
      rw [q] at hlen
      simp at h1 hlen
      exact h1 hlen
    obtain ⟨v, y, hv, hy, Iw⟩ := W.last hne
    have hv' : items.back? = some v := by rw [← Array.getLast?_toList]; exact hv
    repeat tb_rel
    rename St _ _ _ _ _ _ => S
    refine r_neg S fun tk s' S => ?_
    repeat tb_rel
    refine r_last (isList_led S (.tail _ (.head _))) rfl (by rw [hlen, sizeLine_eq]; omega) hv' ?_
    repeat tb_rel
    rename St _ _ _ _ _ _ => S
    refine r_kind C1 S Iw fun tk s' S => ?_
    repeat tb_rel
    have hb : isBehind ws = if y.1 == sOp then false else !(y.1 == sSign && BEH.any (· == y.2.1)) := by unfold isBehind; rw [hy]
    refine ite_c (fun h2 => ?_) (fun h2 => ?_)
    · repeat tb_rel
      rename St _ _ _ _ _ _ => S
      refine S.pureL (vb ?_)
      rw [hb, if_pos (show (y.1 == sOp) = true from h2)]
    · rw [if_neg (by rw [show (y.1 == sOp) = false from h2]; decide)] at hb
      repeat tb_rel
      rename St _ _ _ _ _ _ => S
      refine r_kind C1 S Iw fun tk s' S => ?_
      repeat tb_rel
      refine ite_c (fun h3 => ?_) (fun h3 => ?_)
      · repeat tb_rel
        rename St _ _ _ _ _ _ => S
        refine r_wtext C1 S Iw fun tk s' S => ?_
        repeat tb_rel
        rename St _ _ _ _ _ _ => S
        have h104 : IsTup s'.heap 104 #[.str ⟨#[64]⟩ 353, .str ⟨#[58, 58]⟩ 354, .str ⟨#[40]⟩ 355, .str ⟨#[91]⟩ 356, .str ⟨#[44]⟩ 357] := ⟨_, S.keep _ _ (C.X _ _ (by k_is)), rfl, _, rfl⟩
        refine in_tuple_strs (ys := BEH) h104 (.cons _ _ (.cons _ _ (.cons _ _ (.cons _ _ (.cons _ _ .nil))))) ?_
        repeat tb_rel
        refine not_of (wpAny_truthy_bool ?_)
        repeat tb_rel
        refine S.pureL (vb ?_)
        rw [hb, show (y.1 == sSign) = true from h3]; rfl
      · repeat tb_rel
        refine not_of (wpAny_truthy_bool ?_)
        repeat tb_rel
        rename St _ _ _ _ _ _ => S
        refine S.pureL (vb ?_)
        rw [show (y.1 == Str.ofString "sign") = false from h3, hb, show (y.1 == sSign) = false from h3]; rfl

def nmC (c : Nat) : Bool := c != 58 && isNameC c
def nameEnd (t : Str) (i : Nat) : Nat := match t.cps[i]? with
  | some c => if c == 58 || !isStart c then i else spanTo nmC t i
  | none => i
theorem spanTo_ge (p : Nat → Bool) (t : Str) (i : Nat) : i ≤ spanTo p t i := Nat.le_add_right ..
theorem spanTo_le {p : Nat → Bool} {t : Str} {i : Nat} (h : i ≤ t.length) : spanTo p t i ≤ t.length := by
  unfold spanTo
  have h1 : ((t.cps.toList.drop i).takeWhile p).length ≤ (t.cps.toList.drop i).length := (List.takeWhile_sublist p).length_le
  rw [List.length_drop] at h1
  have : t.cps.toList.length = t.length := Array.length_toList
  omega
theorem nameEnd_ge (t : Str) (i : Nat) : i ≤ nameEnd t i := by
  unfold nameEnd
  split
  · split
    · exact Nat.le_refl _
    · exact spanTo_ge ..
  · exact Nat.le_refl _
theorem nameEnd_le {t : Str} {i : Nat} (h : i ≤ t.length) : nameEnd t i ≤ t.length := by
  unfold nameEnd
  split
  · split
    · exact h
    · exact spanTo_le h
  · exact h
theorem sub_self (t : Str) (i : Nat) : sub t i i = ⟨#[]⟩ := by unfold sub; rw [Nat.sub_self, List.take_zero]
theorem eq_none : ((⟨#[]⟩ : Str) == Str.ofString "") = true := by rw [L_none]; rfl
theorem sg_none (c : Nat) : ((⟨#[c]⟩ : Str) == Str.ofString "") = false := by rw [L_none]; simp
theorem sg_co (c : Nat) : ((⟨#[c]⟩ : Str) == Str.ofString ":") = decide (c = 58) := by rw [L_co, sg]
theorem ne_co (c : Nat) : ((⟨#[c]⟩ : Str) != Str.ofString ":") = (c != 58) := by unfold bne; rw [sg_co]; rfl
set_option maxHeartbeats 4000000 in
theorem k238 (C : Cx w g A (d + 4)) (H : Has g led s.heap) (Sc : Scan w g led x dx l t i ws) (ht : t.length ≤ sizeLine) (hok : ∀ c ∈ t.cps.toList, okc c) (hi : i ≤ t.length) :
    codeAny (model PR w) A (.call (.ref 238) ⟨[.ref x], []⟩) (ScanTo w g led s x dx l t (nameEnd t i) ws fun v => ∃ tk, v = .str (sub t i (nameEnd t i)) tk) s := by
  refine' enter (binds := [("self", .ref x)]) ?C ?H ?ho ?hcd ?hb ?hl ?_ ?c1 ?c2 ?c3 ?c4; tb_start
  intro L s1 S C1
  repeat tb_rel
  rename St _ _ _ _ _ _ => S
  rename Scan _ _ _ _ _ _ _ _ _ => Sc
  refine r_pureL S (k168' C1 S.hasL Sc ht) fun v s' hv S => ?_
  obtain ⟨tk, rfl⟩ := hv
  repeat tb_rel
  cases hc : t.cps[i]? with
  | none =>
    have he : nameEnd t i = i := by unfold nameEnd; rw [hc]
    rw [sgn_none hc, eq_none]
    refine ite_t rfl ?_
    refine ite_t rfl ?_
    repeat tb_rel
    rename St _ _ _ _ _ _ => S
    rename Scan _ _ _ _ _ _ _ _ _ => Sc
    rw [he]
    exact S.scanTo Sc ⟨_, by rw [sub_self, L_none]⟩
  | some c =>
    have hcc : okc c := hok c (by
      rw [← Array.getElem?_toList] at hc
      exact List.mem_of_getElem? hc)
    rw [sgn_some hc, sg_none]
    refine ite_f rfl ?_
    repeat tb_rel
    rename St _ _ _ _ _ _ => S
    rename Scan _ _ _ _ _ _ _ _ _ => Sc
    refine r_pureL S (k168' C1 S.hasL Sc ht) fun v s' hv S => ?_
    obtain ⟨tk', rfl⟩ := hv
    repeat tb_rel
    rw [sgn_some hc, sg_co]
    refine ite_c (fun h2 => ?_) (fun h2 => ?_)
    · have he : nameEnd t i = i := by unfold nameEnd; rw [hc]; simp at h2; simp [h2]
      refine ite_t rfl ?_
      repeat tb_rel
      rename St _ _ _ _ _ _ => S
      rename Scan _ _ _ _ _ _ _ _ _ => Sc
      rw [he]
      exact S.scanTo Sc ⟨_, by rw [sub_self, L_none]⟩
    · repeat tb_rel
      rename St _ _ _ _ _ _ => S
      rename Scan _ _ _ _ _ _ _ _ _ => Sc
      refine r_pureL S (k168' C1 S.hasL Sc ht) fun v s' hv S => ?_
      obtain ⟨tk', rfl⟩ := hv
      repeat tb_rel
      rename St _ _ _ _ _ _ => S
      refine r_pure S (v := fun v => v = .bool (isStart c)) (by rw [sgn_some hc]; exact k59 C1 S.has0 hcc) fun v s' hv S => ?_
      subst hv
      repeat tb_rel
      refine ite_c (fun h3 => ?_) (fun h3 => ?_)
      · have he : nameEnd t i = i := by unfold nameEnd; rw [hc]; simp at h3; simp [h3]
        refine ite_t rfl ?_
        repeat tb_rel
        rename St _ _ _ _ _ _ => S
        rename Scan _ _ _ _ _ _ _ _ _ => Sc
        rw [he]
        exact S.scanTo Sc ⟨_, by rw [sub_self, L_none]⟩
      · have he : nameEnd t i = spanTo nmC t i := by
          unfold nameEnd; rw [hc]; simp at h2 h3; simp [h2, h3]
        repeat tb_rel
        refine ite_f rfl ?_
        repeat tb_rel
        rename St _ _ _ _ _ _ => S
        rename Scan _ _ _ _ _ _ _ _ _ => Sc
        rw [he]
        refine x_while (fun n s => ∃ i' led', n = t.length - i' ∧ spanTo nmC t i' = spanTo nmC t i ∧ Scan w g led' x dx l t i' ws ∧ St _ g L _ led' s) (t.length - i) ⟨i, led, rfl, rfl, Sc, S⟩ ?_
        clear S Sc
        rintro n s ⟨i', led', rfl, hi', Sc, S⟩
        refine wpAny_mono (Q := fun b s₂ => b = (match t.cps[i']? with | some c => nmC c | none => false) ∧ Same S s₂) ?_ ?_ (fun _ _ h => h)
        · repeat tb_rel
          rename St _ _ _ _ _ _ => S
          refine r_pureL S (k168' C1 S.hasL Sc ht) fun v s' hv S => ?_
          obtain ⟨tk', rfl⟩ := hv
          repeat tb_rel
          cases hc' : t.cps[i']? with
          | none =>
            rw [sgn_none hc', none_ne]
            refine ite_f rfl ?_
            rename St _ _ _ _ _ _ => S
            exact ⟨rfl, S⟩
          | some c' =>
            have hcc' : okc c' := hok c' (by
              rw [← Array.getElem?_toList] at hc'
              exact List.mem_of_getElem? hc')
            rw [sgn_some hc', ne_none]
            refine ite_t rfl ?_
            repeat tb_rel
            rename St _ _ _ _ _ _ => S
            refine r_pureL S (k168' C1 S.hasL Sc ht) fun v s' hv S => ?_
            obtain ⟨tk', rfl⟩ := hv
            repeat tb_rel
            rw [sgn_some hc', ne_co]
            refine ite_c (fun h5 => ?_) (fun h5 => ?_)
            · repeat tb_rel
              rename St _ _ _ _ _ _ => S
              refine r_pureL S (k168' C1 S.hasL Sc ht) fun v s' hv S => ?_
              obtain ⟨tk', rfl⟩ := hv
              repeat tb_rel
              rename St _ _ _ _ _ _ => S
              refine r_pure S (v := fun v => v = .bool (isNameC c')) (by rw [sgn_some hc']; exact k66 C1 S.has0 hcc') fun v s' hv S => ?_
              subst hv
              repeat tb_rel
              refine ite_c (fun h6 => ?_) (fun h6 => ?_)
              · repeat tb_rel
                exact ⟨by simp [nmC, h5, h6], S⟩
              · exact ⟨by simp [nmC, h5, h6], S⟩
            · rename St _ _ _ _ _ _ => S
              exact ⟨by simp [nmC, h5], S⟩
        · rintro b s ⟨hb, S'⟩
          have S := (show St _ _ _ _ _ _ from S')
          clear S'
          refine ite_c (fun h5 => ?_) (fun h5 => ?_)
          · cases hc' : t.cps[i']? with
            | none => rw [hc'] at hb; rw [hb] at h5; cases h5
            | some c' =>
              rw [hc'] at hb
              rw [hb] at h5
              repeat tb_rel
              rename St _ _ _ _ _ _ => S
              rename Scan _ _ _ _ _ _ _ _ _ => Sc
              refine r_setat (i' := i' + 1) C1 S Sc (by omega) fun led'' s' S Sc => ?_
              repeat tb_rel
              have hlt : i' < t.length := (Array.getElem?_eq_some_iff.mp hc').1
              exact ⟨t.length - (i' + 1), by omega, i' + 1, led'', rfl, by rw [spanTo_step hc' h5, hi'], Sc, S⟩
          · have hst : spanTo nmC t i' = i' := by
              cases hc' : t.cps[i']? with
              | none => exact spanTo_end hc'
              | some c' => rw [hc'] at hb; rw [hb] at h5; exact spanTo_stop hc' h5
            rw [hst] at hi'
            subst hi'
            repeat tb_rel
            rename St _ _ _ _ _ _ => S
            rename Scan _ _ _ _ _ _ _ _ _ => Sc
            refine r_slice S (spanTo_ge ..) (spanTo_le hi) ht fun tk' s' S => ?_
            repeat tb_rel
            exact S.scanTo Sc ⟨_, rfl⟩
end
end Mine
/- M12 -/
namespace Mine
open PySem PySem.W PySem.Calls PyProof.Rows
set_option maxHeartbeats 200000

def frs (l : List Env) : List Addr := l.filterMap (·.frame)
/-- the frames that stand: their dicts lie in the heap, not in g, not in the ledger -/
structure Stk (A : Around) (outer : List Env) (g : Heap) (led : Led) (h : Heap) : Prop where
  stack : A.frames = some outer
  there : ∀ env ∈ outer, env.scope.kind ≠ .module ∧ ∃ L o, env.frame = some L ∧ h.get? L = some o ∧ (∀ vs, o.data ≠ .fields vs) ∧ g.get? L = none ∧ L ∉ led.map (·.1)

theorem Stk.mem {A : Around} {outer : List Env} {g : Heap} {led : Led} {h : Heap} (K : Stk A outer g led h) {a : Addr} (ha : a ∈ frs outer) :
    ∃ o, h.get? a = some o ∧ (∀ vs, o.data ≠ .fields vs) ∧ g.get? a = none ∧ a ∉ led.map (·.1) := by
  obtain ⟨env, he, hf⟩ := List.mem_filterMap.mp ha
  obtain ⟨_, L, o, h1, h2⟩ := K.there env he
  rw [hf] at h1; cases h1
  exact ⟨o, h2⟩
theorem Stk.sub {A : Around} {outer : List Env} {g : Heap} {led led' : Led} {h : Heap} (K : Stk A outer g led h) (hs : ∀ p ∈ led', p ∈ led) : Stk A outer g led' h :=
  ⟨K.stack, fun env he => by
    obtain ⟨a, L, o, h1, h2, h3, h4, h5⟩ := K.there env he
    refine ⟨a, L, o, h1, h2, h3, h4, fun q => h5 ?_⟩
    obtain ⟨p, hp, e⟩ := List.mem_map.mp q
    exact List.mem_map.mpr ⟨p, hs p hp, e⟩⟩
theorem funFrames_of {h B : Heap} : ∀ {l : List Env}, (∀ env ∈ l, env.scope.kind ≠ .module ∧ ∃ L o, env.frame = some L ∧ h.get? L = some o ∧ (∀ vs, o.data ≠ .fields vs) ∧ B.get? L = none) → h.FunFrames B l
  | [], _ => trivial
  | env :: _, hs => by
    obtain ⟨a, L, o, h1, h2, h3, h4⟩ := hs env (.head _)
    exact ⟨a, ⟨L, o, h1, h4, h2, h3⟩, funFrames_of fun e he => hs e (.tail _ he)⟩
theorem Stk.frames {A : Around} {outer : List Env} {g : Heap} {led : Led} {h h' : Heap} (K : Stk A outer g led h) (k : ∀ b o, h.get? b = some o → h'.get? b = some o) : h'.FunFrames (hideAll h (frs outer)) outer :=
  funFrames_of fun env he => by
    obtain ⟨a, L, o, h1, h2, h3, _⟩ := K.there env he
    exact ⟨a, L, o, h1, k _ _ h2, h3, hideAll_none _ (List.mem_filterMap.mpr ⟨env, he, h1⟩)⟩

section
variable {A : Around} {s s' : Shared} {e : Ent} {g : Heap} {L f : Addr} {m : Str → Option Value} {led : Led} {qn : Str} {sc : Scope} {cd : Value} {outer : List Env}
theorem St.stk (S : St e g L m led s) (K : Stk A outer e.g e.led e.s.heap) (hk : sc.kind = .function) : Stk (A.deeper (envOf qn sc L f cd)) (envOf qn sc L f cd :: outer) g led s.heap := by
  refine ⟨Around.frames_deeper K.stack, fun env he => ?_⟩
  rcases List.mem_cons.mp he with rfl | he
  · obtain ⟨o, es, ep, ho, hd, _⟩ := S.ns
    exact ⟨by show sc.kind ≠ .module; rw [hk]; decide, L, o, rfl, ho, (fun vs q => by rw [hd] at q; cases q), S.gL, S.lL⟩
  · obtain ⟨a, L', o, h1, h2, h3, h4, h5⟩ := K.there env he
    obtain ⟨o', ho', x⟩ := S.ran.frame _ _ h2 h5
    refine ⟨a, L', o', h1, ho', fun vs q => h3 vs (x.data.symm.trans q), ?_, fun q => ?_⟩
    · cases q : g.get? L' with
      | none => rfl
      | some y =>
        rcases S.ran.freshG _ _ q with z | z | z
        · rw [h4] at z; cases z
        · exact absurd z h5
        · rw [h2] at z; cases z
    · rcases S.ran.freshL _ q with z | z
      · exact h5 z
      · rw [h2] at z; cases z
end

/-- a PathFault flies: behind a call from s that was handed the ledger led -/
structure Flies (outer : List Env) (led : Led) (s : Shared) (e : Value) (s' : Shared) : Prop where
  ex : ∃ x a0 B, e = .ref x ∧ Heap.FlyingW B outer x (.ref 96) a0 s'.heap ∧ ∀ a o, s.heap.get? a = some o → a ∉ led.map (·.1) → a ∉ frs outer → B.get? a = some o
  slots : ∀ a ∈ frs outer, ∀ o, s.heap.get? a = some o → ∃ sl, s'.heap.get? a = some { o with slots := sl }
  shape : Shape s.heap s'.heap
  gens : s'.gens = s.gens
  os : s'.os = s.os
/-- a new PathFault, not on its way yet -/
structure NewFault (s : Shared) (e : Value) (s' : Shared) : Prop where
  ex : ∃ x oe vs a0, e = .ref x ∧ s.heap.get? x = none ∧ s'.heap.get? x = some oe ∧ oe.cls = .ref 96 ∧ oe.data = .fields vs ∧ vs[0]? = some a0 ∧ vs[1]? = some .none
  keep : ∀ b o, s.heap.get? b = some o → s'.heap.get? b = some o
  gens : s'.gens = s.gens
  os : s'.os = s.os

theorem Shape.slots {h h' : Heap} (k : h.UpToSlots h') : Shape h h' := fun b o e n => by
  obtain ⟨sl, q⟩ := k b o e n
  exact ⟨_, q, n⟩

section
variable {w : World} {A : Around} {E : Value → Shared → Prop} {s s' s₀ : Shared} {g g₀ : Heap} {L f : Addr} {m : Str → Option Value} {led led₀ led₁ : Led} {qn : Str} {sc : Scope} {cd e : Value} {outer : List Env}
theorem St.newFault {R : Value → Shared → Prop} (S : St ⟨g₀, led₀, s₀, []⟩ g L m led s) (K : Stk A outer g₀ led₀ s₀.heap) (N : NewFault s e s') (hk : sc.kind = .function) (h : ∀ s'', Flies outer led₀ s₀ e s'' → R e s'') :
    wpAny (model PR w) (A.deeper (envOf qn sc L f cd)) (leaving (envOf qn sc L f cd) e) (fun _ s'' => R e s'') E s' := by
  have K' := S.stk (f := f) (cd := cd) (qn := qn) K hk
  obtain ⟨x, oe, vs, a0, rfl, hx, he, hc, hd, h0, h1⟩ := N.ex
  have en : (hideAll s.heap (frs (envOf qn sc L f cd :: outer))).get? x = none := by
    cases q : (hideAll s.heap (frs (envOf qn sc L f cd :: outer))).get? x with
    | none => rfl
    | some o => rw [of_hideAll _ q] at hx; cases hx
  refine wpAny_leaving_firstW (base := hideAll s.heap (frs (envOf qn sc L f cd :: outer))) K'.stack (K'.frames N.keep) rfl he (fun b o q => N.keep b o (of_hideAll _ q)) en hd h1 h0 fun h' hL => ?_
  obtain ⟨k1, ⟨_, _, k2⟩, k3, k4⟩ := hL
  rw [hc] at k3
  refine h _ ⟨⟨x, a0, _, rfl, ⟨k1, en, k2, k3⟩, fun a o q n nf => ?_⟩, fun a ha o q => ?_, ?_, N.gens.trans S.ran.gens, N.os.trans S.ran.os⟩
  · obtain ⟨o', ho', y⟩ := S.ran.frame a o q n
    obtain rfl := y.eq
    refine hideAll_get _ ho' fun z => ?_
    obtain ⟨env, he, hf⟩ := List.mem_filterMap.mp z
    rcases List.mem_cons.mp he with rfl | he
    · obtain rfl : L = a := Option.some.inj hf
      have := S.eL
      rw [show (⟨g₀, led₀, s₀, []⟩ : Ent).s.heap = s₀.heap from rfl, q] at this; cases this
    · exact nf (List.mem_filterMap.mpr ⟨env, he, hf⟩)
  · obtain ⟨o₁, h1, h2, h3, h4⟩ := K.mem ha
    rw [q] at h1; cases h1
    obtain ⟨o', ho', y⟩ := S.ran.frame a o q h4
    obtain rfl := y.eq
    exact k4 a o' (N.keep _ _ ho') h2
  · exact (S.ran.shape.trans (.keeps N.keep)).trans (.slots k4)

theorem St.flies {R : Value → Shared → Prop} (S : St ⟨g₀, led₀, s₀, []⟩ g L m led s) (K : Stk A outer g₀ led₀ s₀.heap) (F : Flies (envOf qn sc L f cd :: outer) led₁ s e s') (hs : ∀ p ∈ led₁, p ∈ led) (h : ∀ s'', Flies outer led₀ s₀ e s'' → R e s'') :
    wpAny (model PR w) (A.deeper (envOf qn sc L f cd)) (leaving (envOf qn sc L f cd) e) (fun _ s'' => R e s'') E s' := by
  obtain ⟨x, a0, B, rfl, fl, hB⟩ := F.ex
  refine wpAny_leaves_onW (Around.frames_deeper K.stack) rfl fl fun h' fl' sm => ?_
  refine h _ ⟨⟨x, a0, B, rfl, fl', fun a o q n nf => ?_⟩, fun a ha o q => ?_, (S.ran.shape.trans F.shape).trans (.slots sm), F.gens.trans S.ran.gens, F.os.trans S.ran.os⟩
  · obtain ⟨o', ho', y⟩ := S.ran.frame a o q n
    obtain rfl := y.eq
    refine hB a o' ho' (fun z => ?_) fun z => ?_
    · obtain ⟨p, hp, rfl⟩ := List.mem_map.mp z
      rcases S.ran.freshL p.1 (mem_map_fst (hs p hp)) with z | z
      · exact n z
      · rw [show (⟨g₀, led₀, s₀, []⟩ : Ent).s.heap = s₀.heap from rfl, q] at z; cases z
    · obtain ⟨env, he, hf⟩ := List.mem_filterMap.mp z
      rcases List.mem_cons.mp he with rfl | he
      · obtain rfl : L = a := Option.some.inj hf
        have := S.eL
        rw [show (⟨g₀, led₀, s₀, []⟩ : Ent).s.heap = s₀.heap from rfl, q] at this; cases this
      · exact nf (List.mem_filterMap.mpr ⟨env, he, hf⟩)
  · obtain ⟨o₁, h1, h2, h3, h4⟩ := K.mem ha
    rw [q] at h1; cases h1
    obtain ⟨o', ho', y⟩ := S.ran.frame a o q h4
    obtain rfl := y.eq
    obtain ⟨sl, hsl⟩ := F.slots a (by
      obtain ⟨env, he, hf⟩ := List.mem_filterMap.mp ha
      exact List.mem_filterMap.mpr ⟨env, .tail _ he, hf⟩) o' ho'
    obtain ⟨sl', hsl'⟩ := sm a _ hsl h2
    exact ⟨sl', hsl'⟩
end

/-- the scanner's step: on to p, or a fault -/
def ScanOr (w : World) (g : Heap) (led : Led) (s : Shared) (outer : List Env) (x dx l : Addr) (t : Str) (p : Option (Nat × List Wd)) (v : Value → Prop) (r : Result) (s' : Shared) : Prop :=
  match p with
  | some q => ScanTo w g led s x dx l t q.1 q.2 v r s'
  | none => ∃ e, r = .error e ∧ Flies outer led s e s'
section
variable {w : World} {A : Around} {E : Value → Shared → Prop} {s s0 : Shared} {e : Ent} {g : Heap} {L x dx l f : Addr} {m : Str → Option Value} {led led₁ rest : Led} {d i i' : Nat} {t : Str} {ws ws' : List Wd} {outer : List Env}
theorem ScanOr.some' {g₀ g : Heap} {led₀ led : Led} {v : Value → Prop} {val : Value} {p : Option (Nat × List Wd)} (hp : p = some (i, ws)) (S : St ⟨g₀, led₀, s0, []⟩ g L m led s) (Sc : Scan w g led x dx l t i ws) (h : v val) :
    ScanOr w g₀ led₀ s0 outer x dx l t p v (.ok (.ret val)) s := by subst hp; exact S.scanTo Sc h
theorem r_or {f : Value} {args : List Value} {p : Option (Nat × List Wd)} {v : Value → Prop} {Q : Value → Shared → Prop} (S : St e g L m led s) (hc : codeAny (model PR w) A (.call f ⟨args, []⟩) (ScanOr w g led s outer x dx l t p v) s)
    (h : ∀ i' ws' val g' led' s', p = some (i', ws') → v val → g.StaysIn g' → Scan w g' led' x dx l t i' ws' → St e g' L m led' s' → Q val s')
    (hE : p = none → ∀ e' s', Flies outer led s e' s' → E e' s') : wpAny (model PR w) A (call f args []) Q E s := by
  refine wpAny_call (codeAny_mono hc fun r s' q => ?_)
  cases p with
  | some p =>
    obtain ⟨val, g', led', rfl, hv, Sc, R⟩ := q
    refine h p.1 p.2 val g' led' s' rfl hv R.le Sc ?_
    have := St.ret (led₁ := led) (led₁' := led') (rest := []) (by rw [List.append_nil]; exact S) R
    rwa [List.append_nil] at this
  | none =>
    obtain ⟨e', rfl, F⟩ := q
    exact hE rfl e' s' F
/-- while, where a turn may raise -/
theorem x_whileE {env : Env} {test : PySem.Expr} {body : List Stmt} {pos : Pos} {rest : List Stmt} {Q : Flow → Shared → Prop} (hE : PassesOwn (model PR w) A env E) (I : Nat → Shared → Prop) (n : Nat) (h : I n s)
    (turn : ∀ n s, I n s → wpAny (model PR w) A (isTrue test env (eval test env)) (fun b s₂ =>
      if b = true then wpAny (model PR w) A (execs body env) (fun f s₃ => match f with
            | .next | .cont => ∃ m, m < n ∧ I m s₃
            | .brk => wpAny (model PR w) A (execs rest env) Q E s₃
            | .ret v => Q (.ret v) s₃) E s₂
        else wpAny (model PR w) A (execs rest env) Q E s₂) E s) :
    wpAny (model PR w) A (execs (.While test body [] pos :: rest) env) Q E s := by
  refine x_cons (wpAny_While (codeAny_whileLoop I (fun n s hI => ?_) n h))
  refine wpAny_mono (turn n s hI) (fun b s₂ h₂ => ?_) hE
  cases b with
  | true =>
    rw [if_pos rfl] at h₂ ⊢
    refine wpAny_mono h₂ (fun f s₃ h₃ => ?_) hE
    cases f <;> exact h₃
  | false =>
    rw [if_neg (by decide)] at h₂ ⊢
    exact x_nil h₂
end
end Mine
/- M13 -/
namespace Mine
open PySem PySem.W PySem.Calls PyProof.Rows Builtin Builtin.ObjectAttr Builtin.Getset_descriptor
set_option maxHeartbeats 200000
abbrev excObj (t : Addr) (d : Option Addr) : Obj := { cls := .ref 96, dict := d, data := .fields #[.ref t, .none, .none, .none, .bool false, .none] }
section
variable {w : World} {A : Around} {R : Result → Shared → Prop} {h : Heap} {g : Array GenState} {d : Drawn} {t : Nat} {os : OsState}
abbrev cls96 : Obj := excClassObj "PathFault" "PathFault" 96 95 [.ref 83] [.ref 83, .type "Exception", .type "BaseException", .type "object"] true [] [] false none none
  (some (.ref 87)) none (some (.str "PathFault" 294)) (some (.str "PathFault" 302)) (some (.bool true)) "Exception.__new__"
set_option maxHeartbeats 1000000 in
theorem new96 {v : Value} (X : (heap w.params).In h)
    (hq : R (.ok (.ret (.ref (h.objs.size + 1)))) ⟨(h.push (tupObj #[v])).push (excObj h.objs.size none), g, d, t, os⟩) :
    codeAny (model PR w) A (.call (.builtin "Exception.__new__") ⟨[.ref 96, v], []⟩) R ⟨h, g, d, t, os⟩ := by
  have F := PySem.F.excBase_Exception
  have hC : h.get? 96 = some cls96 := X 96 _ (by k_is)
  refine codeAny_call_builtin_code (Code.quiet_builtin _ F.quiet) ?_
  simp only [checkBuiltinCall, F.newKind, F.newSplit, F.newRow]
  have m1 : Looks (model PR w) h (mroOf (.ref 96)) [.ref 96, .ref 83, .type "Exception", .type "BaseException", .type "object"] := (looks_clsIn X (by k_is)).andThen .now
  have s1 : Looks (model PR w) h (isSubtype (.ref 96) (.type "Exception")) true := looks_mroIn X (by k_is)
  repeat lk
  have hcB : (Value.ref 96 :: [.ref 83, .type "Exception", .type "BaseException", .type "object"]).contains (.type "Exception") = true := by decide +kernel
  have hcA : (Value.ref 96 :: [.ref 83, .type "Exception", .type "BaseException", .type "object"]).contains (.type "AttributeError") = false := by decide +kernel
  have hcN : (Value.ref 96 :: [.ref 83, .type "Exception", .type "BaseException", .type "object"]).contains (.type "NameError") = false := by decide +kernel
  have hends := F.ends
  refine codeAny_builtinAt F.entry ?_
  unfold Builtin.«BaseException.__new__»
  refine PySem.wpAt_bind ?_
  show PySem.wpAt _ _ _ (stack >>= _) _ _ _
  refine PySem.wpAt_bind (PySem.wpAt_stack fun p below => PySem.wpAt_of_wpAny ?_)
  wp_walk
  refine PySem.wpAt_of_wpAny ?_
  rw [F.owner]
  repeat (first | with_reducible refine wpAny_madeHere_exc F.canon hC ?_ | with_reducible refine wpAny_loadPart_at hC ?_ | (with_reducible refine wpAny_isSubtype_exc hC ?_; first | rw [hcB] | rw [hcA] | rw [hcN]) | wp_step)
  show R _ _
  rw [Heap.size_push]
  exact hq
set_option maxHeartbeats 1000000 in
theorem make96 {v : Value} (X : (heap w.params).In h)
    (hq : codeAny (model PR w) (A.under (.builtin "type.__call__" ⟨[.ref 96, v], []⟩)) (.call (.ref 80) ⟨[.ref (h.objs.size + 1), v], []⟩) (InitBack (h.objs.size + 1) R) ⟨(h.push (tupObj #[v])).push (excObj h.objs.size none), g, d, t, os⟩) :
    codeAny (model PR w) A (.call (.ref 96) ⟨[v], []⟩) R ⟨h, g, d, t, os⟩ := by
  have hC : h.get? 96 = some cls96 := X 96 _ (by k_is)
  have call : Looks (model PR w) h (specialOf (.ref 96) "__call__") (some (.builtin "type.__call__")) := looks_specialIn X (by k_is)
  have typ : Looks (model PR w) h (isInstance (.ref 96) (.type "type")) true := looks_instIn X (by k_is)
  have hm : Looks (model PR w) h (mroOf (.ref 96)) [.ref 96, .ref 83, .type "Exception", .type "BaseException", .type "object"] := (looks_clsIn X (by k_is)).andThen .now
  refine codeAny_of_tree ?_
  show wpAny _ _ (callAny (.ref 96) _) _ _ _
  refine nd_load hC ?_
  show wpAny _ _ (callAny.viaDunder (.ref 96) _) _ _ _
  unfold callAny.viaDunder
  refine wpAny_bind (call.at ?_)
  dsimp only
  rw [tc_bind]
  refine wpAny_bind (wpAny_pure (wpAny_bind (wpAny_pure ?_)))
  refine wpAny_pure (a := Fin.again (.call (.builtin "type.__call__") ⟨[.ref 96, v], []⟩)) (And.intro rfl ?_)
  refine codeAny_call_builtin_at (Code.quiet_builtin _ (by decide +kernel)) entry_typeCall (check_slot tc_kind tc_split typ (tc_args _ _ _) ?_)
  unfold Builtin.«type.__call__»
  have made : Looks (model PR w) h (Bind.madeBy (.ref 96)) (some "Exception.__new__") := by
    intro A Q E s k q
    obtain ⟨h', g', d', t', os'⟩ := s
    exact wpAny_madeBy_exc (k _ _ hC) q
  repeat (first | simp only [Bool.false_eq_true, if_false] | with_reducible refine wpAny_call ?_ | lk)
  refine new96 X ?_
  have k : ∀ b o, h.get? b = some o → ((h.push (tupObj #[v])).push (excObj h.objs.size none)).get? b = some o := fun b o e => Heap.get?_push_of_some _ (Heap.get?_push_of_some _ e)
  have hx : ((h.push (tupObj #[v])).push (excObj h.objs.size none)).get? (h.objs.size + 1) = some (excObj h.objs.size none) := by heap_get
  have t1 : Looks (model PR w) ((h.push (tupObj #[v])).push (excObj h.objs.size none)) (typeOf (.ref (h.objs.size + 1))) (.ref 96) := (Looks.ld hx).andThen .now
  have X' := X.keeps k
  have s1 : Looks (model PR w) ((h.push (tupObj #[v])).push (excObj h.objs.size none)) (isSubtype (.ref 96) (.ref 96)) true := looks_mroIn X' (by k_is)
  have i1 : Looks (model PR w) ((h.push (tupObj #[v])).push (excObj h.objs.size none)) (typeLookup (.ref 96) "__init__") (some (.ref 80)) := looks_findIn X' (by k_is)
  have b1 := bind_fn (M := model PR w) X' (f := 80) (.ref (h.objs.size + 1)) (by k_is)
  unfold isInstance callSpecial? specialOf
  repeat (first | with_reducible refine wpAny_call ?_ | lk)
  refine codeAny_mono hq fun r s' z => ?_
  rcases r with e | (v | _ | _ | _) <;> first | exact z | exact z.elim | skip
  obtain ⟨rfl, z⟩ := z
  exact wpAny_pure (wpAny_pure z)
end
end Mine
/- M14 -/
namespace Mine
open PySem PySem.W PySem.Calls PyProof.Rows Builtin Builtin.ObjectAttr Builtin.Getset_descriptor
set_option maxHeartbeats 200000
section
variable {w : World} {A : Around} {E : Value → Shared → Prop} {s : Shared} {e : Ent} {g : Heap} {L x : Addr} {m : Str → Option Value} {led rest : Led} {d : Nat} {R : Result → Shared → Prop}
theorem osa96 {ox : Obj} {od : Option Obj} {name : Str} {tk : Tok} {v : Value} (X : (heap w.params).In s.heap) (I : InstAt s.heap x ox 96 od) (ht : findIn (heap w.params) (.ref 96) name = some none)
    (h : ∀ b, wpAny (model PR w) A.in1 (storeInOwnDict (.ref x) (.ref 96) (.str name tk) name v b)
      (fun fin s' => match fin with | .done f => R (.ok f) s' | .again c' => c'.quiet = true ∧ codeAny (model PR w) A c' R s') (fun e s' => R (.error e) s') s) :
    codeAny (model PR w) A (.call (.builtin "object.__setattr__") ⟨[.ref x, .str name tk, v], []⟩) R s := by
  have SF := PySem.F.store_object
  have sub : Looks (model PR w) s.heap (isInstance (.ref x) (.type "object")) true := I.type.andThen (looks_mroIn X (by k_is))
  refine codeAny_call_builtin SF.slot.plain SF.entry (@check_slot (model PR w) _ _ s "object.__setattr__" "object" "__setattr__" (.ref x) [.str name tk, v] [] _ SF.kind SF.split sub (SF.args (.ref x) (.str name tk) v) ?_)
  have hm : Looks (model PR w) s.heap (mroOf (.ref 96)) [.ref 96, .ref 83, .type "Exception", .type "BaseException", .type "object"] := (looks_clsIn X (by k_is)).andThen .now
  rw [osa_eq, refuse_eq]
  refine wpAny_bind (wpAny_bind (I.type.here (wpAny_bind (hm.here ?_))))
  rw [refuseLoop_ref, refuseLoop_ref, PySem.F.store_Exception.passes]
  exact wpAny_pure (wpAny_bind (I.type.here (wpAny_bind ((looks_findIn X ht).here (wpAny_bind (wpAny_pure (h _)))))))
set_option maxHeartbeats 1000000 in
theorem set96 {t : Addr} {name : Str} {v : Value} {Q : Unit → Shared → Prop} (C : Cx w g A d) (S : St e g L m ((x, excObj t none) :: led) s) (ht : findIn (heap w.params) (.ref 96) name = some none)
    (h : ∀ dx s', St e g L m ((x, excObj t (some dx)) :: led) s' → Q () s') : wpAny (model PR w) A (setAttr (.ref x) name v) Q E s := by
  have hx := S.get (.head _)
  have X := C.X.keeps S.keep
  have I : ∀ tk, InstAt ({ s with toks := tk } : Shared).heap x (excObj t none) 96 none := fun _ => ⟨hx, rfl, rfl, trivial⟩
  refine set_plain X (I 0) (by k_is) ?_
  refine osa96 (s := { s with toks := s.toks + 1 }) X (I _) ht fun b => ?_
  obtain ⟨cd, hc, hd'⟩ := any_some (show hasDictIn (heap w.params) 96 = true by k_is)
  refine wpAny_bind (wpAny_pure (wpAny_bind (wpAny_bind (wpAny_loadPart hx (wpAny_bind (Looks.here (s := { s with toks := s.toks + 1 }) (looks_clsIn X hc) ?_))))))
  rw [hd']
  rw [if_neg (by decide)]
  dsimp only
  rw [if_neg (by decide)]
  refine wpAny_bind (wpAny_alloc (wpAny_bind ?_))
  have S1 := (S.push (o := emptyDict) rfl (tk := s.toks + 1)).perm (.swap (s.heap.objs.size, emptyDict) (x, excObj t none) led)
  have hx1 := S1.get (.head _)
  refine wpAny_update hx1 ?_
  have hx2 := Heap.get?_update_self (fun o : Obj => { o with dict := some s.heap.objs.size }) hx1 rfl
  have S2 := S1.upd (tk := s.toks + 1) (o' := excObj t (some s.heap.objs.size)) (Heap.SameBut.update (s.heap.push emptyDict) x _) hx2 (fun z vs q => z _ rfl)
  have S3 := S2.perm (.swap (x, excObj t (some s.heap.objs.size)) (s.heap.objs.size, emptyDict) led)
  have D := S3.get (.head _)
  refine wpAny_pure (wpAny_bind (wpAny_pure (wpAny_bind ?_)))
  unfold nsSet
  refine wpAny_bind (wpAny_bind (wpAny_askSetting (wpAny_pure (wpAny_bind (wpAny_mkText (wpAny_bind (wpAny_loadPart D ?_)))))))
  refine wpAny_updatePart D ?_
  have D' := Heap.get?_update_self (Obj.putName name (PyData.keyHash w.params name) (.str name (s.toks + 1)) v) D rfl
  refine wpAny_bind (wpAny_lookBehind D' ?_ ?_)
  · show (Obj.putName name (PyData.keyHash w.params name) (.str name (s.toks + 1)) v (dictOf [] 0)).data.pastItsLine = none
    rw [putName_dict]
    refine pastItsLine_dict ?_
    rw [List.size_toArray, sizeLine_eq]
    show 1 ≤ _
    omega
  refine wpAny_pure ?_
  have S4 := S3.upd (tk := s.toks + 1 + 1) (Heap.SameBut.update _ s.heap.objs.size _) D' (fun _ vs q => by cases q)
  exact h _ _ S4.drop0
set_option maxHeartbeats 1000000 in
theorem init96 {t : Addr} {v : Value} {Q : Value → Shared → Prop} (C : Cx w g A d) (S : St e g L m ((x, excObj t none) :: led) s)
    (h : ∀ t' s', St e g L m ((x, excObj t' none) :: led) s' → Q .none s') : wpAny (model PR w) A (call (.builtin "Exception.__init__") [.ref x, v]) Q E s := by
  have hx := S.get (.head _)
  have X := C.X.keeps S.keep
  have F := PySem.F.excBase_Exception
  have t1 : Looks (model PR w) s.heap (typeOf (.ref x)) (.ref 96) := (Looks.ld hx).andThen .now
  have s1 : Looks (model PR w) s.heap (isSubtype (.ref 96) (.type "Exception")) true := looks_mroIn X (by k_is)
  have i1 : Looks (model PR w) s.heap (isInstance (.ref x) (.type "Exception")) true := t1.andThen s1
  refine wpAny_call (codeAny_call_builtin F.init.plain F.initEntry ?_)
  simp only [checkBuiltinCall, F.initKind, F.initSplit, F.initRow]
  refine wpAny_bind (i1.here ?_)
  obtain ⟨hp, gg, dd, tk, os⟩ := s
  dsimp only at hx t1 s1 i1
  have hC : hp.get? 96 = some cls96 := X 96 _ (by k_is)
  have ck : ∀ (a b : String) (n : Nat), Bind.check ⟨.positional, "*", "Exception", .self, [⟨"args", .varPos, false⟩]⟩ a b n (List.map (fun x => x.fst) ({ pos := [Value.ref x, v] } : Args).kw) = pure () := fun a b n => check_star_args _ _ _ _ _ _
  have sp : ∀ a, Looks (model PR w) hp (Bind.printed "Exception" false ⟨.positional, "*", "Exception", .self, [⟨"args", .varPos, false⟩]⟩ a) "Exception" := fun a => Looks.of_pure (by cases a <;> kernel_rfl)
  have hx1 : (hp.push (tupObj #[v])).get? x = some (excObj t none) := Heap.get?_push_of_some _ hx
  repeat lk
  refine wpAny_updatePart hx1 ?_
  refine wpAny_letGo (wpAny_pure ?_)
  have S1 := (S.push (o := tupObj #[v]) rfl (tk := tk)).perm (.swap (hp.objs.size, tupObj #[v]) (x, excObj t none) led)
  have hx2 := Heap.get?_update_self (Obj.mapFields (·.setIfInBounds 0 (.ref hp.objs.size))) hx1 rfl
  have S2 := S1.upd (tk := tk) (o' := excObj hp.objs.size none) (Heap.SameBut.update _ x _) hx2 (fun z vs q => z _ rfl)
  refine h hp.objs.size _ (S2.sub (fun p hp' => ?_) ?_)
  · rcases List.mem_cons.mp hp' with rfl | hp'
    · exact .head _
    · exact .tail _ (.tail _ hp')
  · have nd := S2.ran.has.nd
    rw [List.map_cons, List.map_cons, List.nodup_cons, List.nodup_cons] at nd
    rw [List.map_cons, List.nodup_cons]
    exact ⟨fun z => nd.1 (.tail _ z), nd.2.2⟩
end
end Mine
/- M15 -/
namespace Mine
open PySem PySem.W PySem.Calls PyProof.Rows
set_option maxHeartbeats 200000
section
variable {w : World} {A : Around} {E : Value → Shared → Prop} {s : Shared} {e : Ent} {g : Heap} {L x : Addr} {m : Str → Option Value} {led rest : Led} {d : Nat}
theorem r_methT {T : String} {name : Str} {v : Value} {pl : Sem Bool} {Q : Value × List Value → Shared → Prop} (C : Cx w g A d) (S : St e g L m led s) (ht : typeOf (.type T) = pure (.type "type")) (hs : Manifest.isStub T = false)
    (e' : findCls (heap w.params) (.type T) (.type "type") name = some (.val v)) (hh : handedIn v = true) (h : ∀ s', St e g L m led s' → Q (v, []) s') : wpAny (model PR w) A (getMethod (.type T) name pl) Q E s := by
  have X := C.X.keeps S.keep
  have hstub : opaqueClassAbove (.type T) = pure none := by unfold opaqueClassAbove; dsimp only; rw [hs]; rfl
  have L0 : Looks (model PR w) s.heap (typeOf (.type T)) (.type "type") := Looks.of_pure ht
  have hg : findIn (heap w.params) (.type "type") "__getattribute__" = some (some (.builtin "type.__getattribute__")) := type_tga
  unfold getMethod specialOf
  refine wpAny_bind (wpAny_bind (L0.here ((looks_findIn X hg).here ?_)))
  dsimp only
  rw [if_pos canon_tga]
  refine wpAny_bind (wpAny_mono (Q := fun v => Q (v, [])) (E := E) ?_ (fun _ _ z => wpAny_pure z) fun _ _ z => z)
  have LO : Looks (model PR w) s.heap (opaqueClassAbove (.type T)) none := Looks.of_pure hstub
  refine cls_open X LO L0 hg (looks_hook X (r := none) (by rfl)) (by show subIn _ _ _ = _; rfl) e' ?_
  refine wpAny_pure ?_
  show wpAny _ _ (handedOut v) _ _ _
  rw [handedOut_of hh]
  exact wpAny_pure (h _ S.tok)
theorem typ_Exception : typeOf (.type "Exception") = pure (.type "type") := by kernel_rfl
theorem stub_Exception : Manifest.isStub "Exception" = false := by decide +kernel
end
local macro_rules | `(tactic| tb_start) => `(tactic| ((case C => assumption); (case H => assumption); (case ho => k_is); (case hcd => k_is); (case hb => first | exact BindsTo.of_eq rfl | exact binds_K (Frag.In.keeps (Cx.X ‹Cx _ _ _ _›) (Has.keep ‹Has _ _ _›)) rfl (by k_is) rfl rfl rfl); (case hl => exact locs rfl); (case c1 => exact rfl); (case c2 => exact rfl); (case c3 => exact rfl); (case c4 => decide)))
local macro_rules | `(tactic| tb_rel) => `(tactic| first
  | with_reducible refine x_return ?_
  | with_reducible refine x_if ?_
  | ((with_reducible refine x_assign ?_ ?hs); (case hs => rfl))
  | ((with_reducible refine x_expr ?_ ?hi ?hs); (case hi => rfl); (case hs => rfl))
  | ((with_reducible refine x_setattr ?_ ?hs); (case hs => rfl))
  | with_reducible refine x_nil ?_
  | with_reducible refine kont_next ?_
  | with_reducible refine kont_ret ?_
  | with_reducible refine fnK_ret ?_
  | with_reducible refine fnK_next ?_
  | ((with_reducible refine wpAny_isTrue_Compare1 (hm := ?hm) ?_); (case hm => rfl))
  | ((with_reducible refine isTrue_chain (hm := ?hm) ?_); (case hm => rfl))
  | with_reducible refine wpAny_isTrue_BoolOp ?_
  | with_reducible refine wpAny_isTrue_Not ?_
  | with_reducible refine wpAny_allTrue_And_cons ?_
  | with_reducible refine wpAny_allTrue_Or_cons ?_
  | with_reducible refine wpAny_allTrue_And_nil ?_
  | with_reducible refine wpAny_allTrue_Or_nil ?_
  | ((with_reducible refine Compare_chain (hm := ?hm) ?_); (case hm => rfl))
  | with_reducible refine chain_linkE ?_
  | with_reducible refine chain_lastE ?_
  | ((with_reducible refine wpAny_Compare1 (hm := ?hm) ?_); (case hm => rfl))
  | with_reducible refine wpAny_BinOp ?_
  | with_reducible refine wpAny_IfExp ?_
  | with_reducible refine wpAny_UnaryOp ?_
  | with_reducible refine eval_boolOp ?_
  | with_reducible refine boolOp_orE ?_
  | with_reducible refine boolOp_andE ?_
  | with_reducible refine boolOp_oneE ?_
  | with_reducible refine wpAny_truthy_bool ?_
  | with_reducible refine wpAny_Call_ofName ?_
  | ((with_reducible refine' MethodCall_ (he := ?he) ?_); (case he => rfl))
  | ((with_reducible refine PyProof.Rows.Attribute_any_ ?_ ?he); (case he => rfl))
  | with_reducible refine PyProof.Rows.Subscript_ ?_
  | with_reducible refine PyProof.Rows.Tuple_ ?_
  | with_reducible refine PyProof.Rows.List_ ?_
  | ((with_reducible refine r_callW (by assumption) ?hk ?_ ?he ?hp); (case hk => k_is); (case he => rfl); (case hp => rfl))
  | ((with_reducible refine r_callW0 (by assumption) (by assumption) ?hk ?_); (case hk => k_is))
  | ((with_reducible refine PyProof.Rows.callWith_method0 ?_))
  | ((with_reducible refine r_callB ?_ ?he ?hp); (case he => rfl); (case hp => rfl))
  | ((with_reducible refine PyProof.Rows.callWith_method1 ?_ ?he ?hp); (case he => rfl); (case hp => rfl))
  | ((with_reducible refine r_callT ?_ ?he ?hp); (case he => rfl); (case hp => rfl))
  | ((with_reducible refine PyProof.Rows.spliced_more ?_ ?he); (case he => rfl))
  | with_reducible refine PyProof.Rows.spliced_none ?_
  | with_reducible refine inK (by assumption) (by assumption) ?_
  | with_reducible refine PyProof.Rows.eq_int ?_
  | with_reducible refine PyProof.Rows.ne_int ?_
  | with_reducible refine PyProof.Rows.lt_int ?_
  | with_reducible refine PyProof.Rows.gt_int ?_
  | with_reducible refine PyProof.Rows.le_int ?_
  | with_reducible refine PyProof.Rows.ge_int ?_
  | with_reducible refine PyProof.Rows.eq_str ?_
  | with_reducible refine PyProof.Rows.ne_str ?_
  | with_reducible refine PySem.P.le_str ?_
  | with_reducible refine PyProof.Rows.in_str ?_
  | with_reducible refine r_bool ?_
  | ((rename St _ _ _ _ _ _ => S0); (first
     | (with_reducible refine r_str S0 ?_)
     | (with_reducible refine r_int S0 ?_)
     | (with_reducible refine r_add S0 ?_)
     | (with_reducible refine r_sub S0 ?_)
     | (with_reducible refine r_find3 S0 ?_)); clear S0; intro tk' s' S')
  | ((rename St _ _ _ _ _ _ => S0); (with_reducible refine' r_local S0 ?hv ?_ ?hk ?hl ?hd); (case hv => first | rfl | assumption); (case hk => rfl); (case hl => rfl); (case hd => decide))
  | ((rename St _ _ _ _ _ _ => S0); (with_reducible refine' r_glob (by assumption) S0 ?hv ?_ ?hk ?hl ?hd); (case hv => k_is); (case hk => rfl); (case hl => rfl); (case hd => decide))
  | ((rename St _ _ _ _ _ _ => S0); (with_reducible refine' r_bi (by assumption) S0 ?hv ?hb ?hn ?_ ?hk ?hl ?hd); (case hv => k_is); (case hb => boot_by_name); (case hn => decide); (case hk => rfl); (case hl => rfl); (case hd => decide))
  | ((rename St _ _ _ _ _ _ => S0); (with_reducible refine r_store S0 ?_ ?hk ?hl); clear S0; (case hk => rfl); (case hl => rfl); intro s' S')
  | ((with_reducible refine isTrue_plain ?_ ?he); (case he => rfl)))
local macro_rules | `(tactic| tb_rel) => `(tactic| ((rename St _ _ _ _ _ _ => S0); first
  | with_reducible refine x_slice ?_
  | ((with_reducible refine r_text (by assumption) S0 (by assumption) ?_); clear S0; intro tk' s' S')
  | ((with_reducible refine r_at (by assumption) S0 (by assumption) ?_); clear S0; intro tk' s' S')
  | ((with_reducible refine r_found (by assumption) S0 (by assumption) ?_); clear S0; intro s' S')
  | ((with_reducible refine' r_scm (by assumption) S0 (by assumption) ?hg ?hf ?ht ?hl ?_); (case hg => k_is); (case hf => k_is); (case ht => k_is); (case hl => exact fun _ _ _ _ _ _ _ _ => rfl))
  | ((with_reducible refine r_callM (by assumption) ?hk ?_ ?he ?hp); (case hk => k_is); (case he => rfl); (case hp => rfl))
  | ((with_reducible refine r_callM0 (by assumption) S0 ?hk ?_); (case hk => k_is))
  | ((with_reducible refine r_lenS S0 ?hz ?_); (case hz => assumption); clear S0; intro tk' s' S')))
section
variable {w : World} {A : Around} {E : Value → Shared → Prop} {s : Shared} {e : Ent} {g : Heap} {L x t : Addr} {m : Str → Option Value} {led rest : Led} {d : Nat}
set_option maxHeartbeats 1000000 in
theorem k80 {y : Str} {a : Tok} (C : Cx w g A (d + 1)) (H : Has g [(x, excObj t none)] s.heap) :
    codeAny (model PR w) A (.call (.ref 80) ⟨[.ref x, .str y a], []⟩)
      (fun r s' => r = .ok (.ret .none) ∧ ∃ t' dx, Ran g [(x, excObj t none)] s g [(x, excObj t' (some dx))] s') s := by
  refine' enter (binds := [("self", .ref x), ("message", .str y a)]) ?C ?H ?ho ?hcd ?hb ?hl ?_ ?c1 ?c2 ?c3 ?c4; tb_start
  intro L s1 S C1
  repeat tb_rel
  rename St _ _ _ _ _ _ => S
  refine r_methT C1 S typ_Exception stub_Exception (v := .builtin "Exception.__init__") (by k_is) (by rfl) fun s' S => ?_
  repeat tb_rel
  rename St _ _ _ _ _ _ => S
  show wpAny _ _ (call (.builtin "Exception.__init__") [.ref x, .str y a]) _ _ _
  refine init96 C1 S fun t' s' S => ?_
  repeat tb_rel
  rename St _ _ _ _ _ _ => S
  refine set96 C1 S (by k_is) fun dx s' S => ?_
  repeat tb_rel
  exact ⟨rfl, t', dx, S.ran⟩
end
end Mine
/- M16 -/
namespace Mine
open PySem PySem.W PySem.Calls PyProof.Rows
set_option maxHeartbeats 200000
section
variable {w : World} {A : Around} {E : Value → Shared → Prop} {s : Shared} {e : Ent} {g : Heap} {L x t : Addr} {m : Str → Option Value} {led rest : Led} {d : Nat} {env : Env}
theorem Cx.underExc {a : Str} {tk : Tok} (C : Cx w g A (d + 1)) : Cx w g (A.under (.builtin "type.__call__" ⟨[.ref 96, .str a tk], []⟩)) d := C.underMake (Cl := 96) (pos := [.str a tk])
theorem r_fault {y : Str} {a : Tok} {Q : Value → Shared → Prop} (C : Cx w g A (d + 2)) (S : St e g L m led s) (h : ∀ v s', NewFault s v s' → Q v s') :
    wpAny (model PR w) A (call (.ref 96) [.str y a] []) Q E s := by
  have X := C.X.keeps S.keep
  refine wpAny_call ?_
  have S1 := S.push (o := tupObj #[.str y a]) rfl (tk := s.toks)
  have S2 := S1.push (o := excObj s.heap.objs.size none) rfl (tk := s.toks)
  have hx : s.heap.get? (s.heap.objs.size + 1) = none := Heap.get?_none_of_le (Nat.le_succ _)
  have hk : ∀ b o, s.heap.get? b = some o → ((s.heap.push (tupObj #[.str y a])).push (excObj s.heap.objs.size none)).get? b = some o := fun b o q => Heap.get?_push_of_some _ (Heap.get?_push_of_some _ q)
  obtain ⟨hh, gg, dd, t, os⟩ := s
  refine make96 X ?_
  have e1 : (hh.push (tupObj #[.str y a])).objs.size = hh.objs.size + 1 := Heap.size_push ..
  dsimp only at S2
  rw [e1] at S2
  have H : Has g [(hh.objs.size + 1, excObj hh.objs.size none)] ((hh.push (tupObj #[.str y a])).push (excObj hh.objs.size none)) := by
    refine ⟨S2.keep, fun p hp => ?_, by simp⟩
    rw [List.mem_singleton] at hp
    subst hp
    exact S2.ran.has.at_ _ (.head _)
  refine codeAny_mono (k80 C.underExc H) fun r s' ⟨hr, t', dx, R⟩ => ?_
  subst hr
  refine ⟨rfl, h _ _ ⟨⟨_, _, _, _, rfl, hx, (R.has.at_ _ (.head _)).1, rfl, rfl, rfl, rfl⟩, fun b o q => ?_, R.gens, R.os⟩⟩
  obtain ⟨o', ho', y'⟩ := R.frame b o (hk b o q) (by
    simp only [List.map_cons, List.map_nil, List.mem_singleton]
    rintro rfl
    dsimp only at hx
    rw [q] at hx; cases hx)
  rw [y'.eq] at ho'
  exact ho'
theorem raise_made {x : Sem Value} {Q : Flow → Shared → Prop} (hh : A.handled = none)
    (h : wpAny (model PR w) A x (fun v s₁ => ∃ e oe vs, v = .ref e ∧ (heap w.params).In s₁.heap ∧ s₁.heap.get? e = some oe ∧ oe.cls = .ref 96 ∧ oe.data = .fields vs ∧ vs[1]? = some .none ∧ E (.ref e) s₁) E s) :
    wpAny (model PR w) A (raiseStmt env (some x) none) Q E s := by
  unfold raiseStmt
  refine wpAny_bind (wpAny_mono h (fun v s₁ h₁ => ?_) fun _ _ x => x)
  obtain ⟨e, oe, vs, rfl, X, he, hc, hd', h1, hE⟩ := h₁
  have t1 : Looks (model PR w) s₁.heap (typeOf (.ref e)) (.ref 96) := (Looks.ld he).andThen (by rw [hc]; exact .now)
  have t2 : Looks (model PR w) s₁.heap (typeOf (.ref 96)) (.type "type") := looks_typeIn X (by k_is)
  have i1 : Looks (model PR w) s₁.heap (isInstance (.ref e) (.type "BaseException")) true := t1.andThen (looks_mroIn X (by k_is))
  obtain ⟨hp, g, d, tk, os⟩ := s₁
  dsimp only at X he t1 t2 i1
  obtain ⟨oc, od, oda, osl⟩ := oe
  dsimp only at hc hd'
  subst hc hd'
  have f1 : Looks (model PR w) hp (field (.ref e) 1) .none := looks_field he 1 h1
  repeat (first | with_reducible exact wpAny_raiseNew_none hh hE | lk)
theorem x_raise {a : PySem.Expr} {np cpos pos : Pos} {rest : List Stmt} {Q : Flow → Shared → Prop} {f : Addr} {cd : Value} {qn : Str} {sc : Scope} (C : Cx w g A (d + 2)) (S : St e g L m led s)
    (hk : sc.kind = .function) (hl : (envOf qn sc L f cd).kindOf "PathFault" = some .globalImplicit)
    (ha : wpAny (model PR w) A (eval a (envOf qn sc L f cd)) (fun v s₂ => ∃ y tk, v = .str y tk ∧ St e g L m led s₂ ∧ ∀ v' s', NewFault s₂ v' s' → E v' s') E s)
    (he : starEach [a] (envOf qn sc L f cd) = (false, eval a (envOf qn sc L f cd)) :: starEach [] (envOf qn sc L f cd)) :
    wpAny (model PR w) A (execs (.Raise (some (.Call (.Name "PathFault" np) [a] [] cpos)) none pos :: rest) (envOf qn sc L f cd)) Q E s := by
  refine x_cons ?_
  rw [arm_exec_Raise]
  refine wpAny_bind (wpAny_standAt (raise_made C.hand (wpAny_bind (wpAny_mono (wpAny_Call_ofName ?_) (fun v s₃ h₃ => wpAny_bind (wpAny_standAt (wpAny_pure h₃))) fun _ _ x => x))))
  refine r_glob C S (v := .ref 96) (by k_is) ?_ hk hl (by decide)
  refine r_callW C (by k_is) ?_ he rfl
  refine PyProof.Rows.spliced_more ?_ he
  refine wpAny_mono ha (fun v s₂ ⟨y, tk, hv, S2, hE⟩ => ?_) fun _ _ z => z
  subst hv
  refine PyProof.Rows.spliced_none ?_
  refine inK C S2 ?_
  refine r_fault C S2 fun v' s' N => ?_
  obtain ⟨x, oe, vs, a0, rfl, hx, he', hc, hd', h0, h1⟩ := N.ex
  exact ⟨x, oe, vs, rfl, (C.X.keeps S2.keep).keeps N.keep, he', hc, hd', h1, hE _ _ N⟩
end
end Mine
/- M17 -/
namespace Mine
open PySem PySem.W PySem.Calls PyProof.Rows
set_option maxHeartbeats 200000

theorem sgn_eq (t : Str) (j c : Nat) : (sgn t j == ⟨#[c]⟩) = (t.cps[j]? == some c) := by
  unfold sgn
  cases t.cps[j]? with
  | none => rfl
  | some b => rw [Bool.eq_iff_iff]; simp
theorem sgn_nil (t : Str) (j : Nat) : (sgn t j == Str.ofString "") = (t.cps[j]? == none) := by
  rw [L_none]
  unfold sgn
  cases t.cps[j]? with
  | none => rfl
  | some b => simp
theorem ne_not (a b : Str) : (a != b) = !(a == b) := rfl
theorem L_star : Str.ofString "*" = ⟨#[42]⟩ := by decide +kernel
theorem L_dol : Str.ofString "$" = ⟨#[36]⟩ := by decide +kernel
theorem L_par : Str.ofString "(" = ⟨#[40]⟩ := by decide +kernel
theorem L_apo : Str.ofString "'" = ⟨#[39]⟩ := by decide +kernel
theorem L_quo : Str.ofString "\"" = ⟨#[34]⟩ := by decide +kernel
theorem sub_nil {t : Str} {i j : Nat} (h : i ≤ j) (hj : j ≤ t.length) : (sub t i j == Str.ofString "") = decide (j = i) := by
  rw [L_none, Bool.eq_iff_iff]
  have hl : t.cps.toList.length = t.length := Array.length_toList
  constructor
  · intro q
    have q : sub t i j = ⟨#[]⟩ := by simpa using q
    have q' := congrArg (fun x : Str => x.cps.toList.length) q
    simp [sub] at q'
    simp
    have : t.cps.size = t.length := rfl
    omega
  · intro q
    have q : j = i := by simpa using q
    subst q
    rw [sub_self]; simp
theorem sub_len {t : Str} {i j : Nat} (h : i ≤ j) (hj : j ≤ t.length) : (sub t i j).length = j - i := by
  show (sub t i j).cps.size = _
  unfold sub
  simp
  have : t.cps.size = t.length := rfl
  omega
theorem sgn_len (t : Str) (j : Nat) : (sgn t j).length ≤ 1 := by
  unfold sgn
  split
  · exact Nat.le_refl _
  · exact Nat.zero_le _

theorem ite_b {b b' : Bool} {P Q : Prop} (e : b = b') (h : if b' = true then P else Q) : if b = true then P else Q := by rw [e]; exact h
theorem q_dot (t : Str) (j : Nat) : (sgn t j == Str.ofString ".") = (t.cps[j]? == some 46) := by rw [L_dot, sgn_eq]
theorem q_ndot (t : Str) (j : Nat) : (sgn t j != Str.ofString ".") = !(t.cps[j]? == some 46) := by rw [ne_not, q_dot]
theorem q_co (t : Str) (j : Nat) : (sgn t j == Str.ofString ":") = (t.cps[j]? == some 58) := by rw [L_co, sgn_eq]
theorem q_nco (t : Str) (j : Nat) : (sgn t j != Str.ofString ":") = !(t.cps[j]? == some 58) := by rw [ne_not, q_co]
theorem q_star (t : Str) (j : Nat) : (sgn t j == Str.ofString "*") = (t.cps[j]? == some 42) := by rw [L_star, sgn_eq]
theorem q_par (t : Str) (j : Nat) : (sgn t j == Str.ofString "(") = (t.cps[j]? == some 40) := by rw [L_par, sgn_eq]
theorem q_dol (t : Str) (j : Nat) : (sgn t j == Str.ofString "$") = (t.cps[j]? == some 36) := by rw [L_dol, sgn_eq]
theorem q_nnil (t : Str) (j : Nat) : (sgn t j != Str.ofString "") = !(t.cps[j]? == none) := by rw [ne_not, sgn_nil]
/-- where the literal that opens at i is closed -/
def litEnd (t : Str) (q i : Nat) : Nat := spanTo (· != q) t (i + 1)
theorem spanTo_spec (p : Nat → Bool) (t : Str) (i : Nat) : (∀ v, i ≤ v → v < spanTo p t i → ∀ c, t.cps[v]? = some c → p c = true) ∧ (∀ c, t.cps[spanTo p t i]? = some c → p c = false) := by
  have key : ∀ n i, t.length - i = n → (∀ v, i ≤ v → v < spanTo p t i → ∀ c, t.cps[v]? = some c → p c = true) ∧ (∀ c, t.cps[spanTo p t i]? = some c → p c = false) := by
    intro n
    induction n with
    | zero =>
      intro i hn
      have : t.cps[i]? = none := at_ge (by omega)
      rw [spanTo_end this]
      exact ⟨fun v h1 h2 => absurd h1 (by omega), fun c hc => by rw [this] at hc; cases hc⟩
    | succ n ih =>
      intro i hn
      obtain ⟨c, hc⟩ := at_lt (t := t) (i := i) (by omega)
      cases hp : p c with
      | true =>
        rw [← spanTo_step hc hp]
        obtain ⟨a, b⟩ := ih (i + 1) (by omega)
        refine ⟨fun v h1 h2 c' hc' => ?_, b⟩
        by_cases e : v = i
        · subst e; rw [hc] at hc'; cases hc'; exact hp
        · exact a v (by omega) h2 c' hc'
      | false =>
        rw [spanTo_stop hc hp]
        exact ⟨fun v h1 h2 => absurd h1 (by omega), fun c' hc' => by rw [hc] at hc'; cases hc'; exact hp⟩
  exact key _ i rfl
theorem find_lit (t : Str) (q i : Nat) (hi : i < t.length) : Txt.find3 t ⟨#[q]⟩ (((i + 1 : Nat)) : Int) = if litEnd t q i < t.length then (litEnd t q i : Int) else -1 := by
  have hf : PySem.fromIndex t.length (((i + 1 : Nat)) : Int) = i + 1 := by
    unfold PySem.fromIndex
    rw [if_neg (by omega)]
    omega
  obtain ⟨a, b⟩ := spanTo_spec (· != q) t (i + 1)
  have hge := spanTo_ge (· != q) t (i + 1)
  have hle : spanTo (· != q) t (i + 1) ≤ t.length := spanTo_le (by omega)
  have gd : ∀ v, v < t.length → t.cps[v]? = some (t.cps.getD v 0) := fun v hv => by
    rw [Array.getElem?_eq_getElem hv]; simp [Array.getD, show v < t.cps.size from hv]; rfl
  show _ = if spanTo (· != q) t (i + 1) < t.length then ((spanTo (· != q) t (i + 1) : Nat) : Int) else -1
  rcases StrLaws.find3_spec t q (((i + 1 : Nat)) : Int) with ⟨h1, h2⟩ | ⟨k, h1, h2, h3, h4, h5⟩
  · rw [h1]
    rw [hf] at h2
    by_cases e : spanTo (· != q) t (i + 1) < t.length
    · exact absurd (bne_eq_false_iff_eq.mp (b _ (gd _ e))) (h2 _ hge e)
    · rw [if_neg e]
  · rw [h1]
    rw [hf] at h2 h5
    have hk := gd k h3
    rw [h4] at hk
    have e1 : spanTo (· != q) t (i + 1) ≤ k := by
      by_cases e : spanTo (· != q) t (i + 1) ≤ k
      · exact e
      · have := a k h2 (by omega) q hk
        simp at this
    have e2 : spanTo (· != q) t (i + 1) = k := by
      by_cases e : spanTo (· != q) t (i + 1) = k
      · exact e
      · have hlt : spanTo (· != q) t (i + 1) < k := by omega
        exact absurd (bne_eq_false_iff_eq.mp (b _ (gd _ (by omega)))) (h5 _ hge hlt)
    rw [e2, if_pos h3]

def numEnd (t : Str) (i : Nat) : Nat := if t.cps[spanTo isFig t i]? == some 46 && !(t.cps[spanTo isFig t i + 1]? == some 46) then spanTo isFig t (spanTo isFig t i + 1) else spanTo isFig t i
theorem lt_of_at {t : Str} {i c : Nat} (h : t.cps[i]? = some c) : i < t.length := (Array.getElem?_eq_some_iff.mp h).1
theorem lt_of_beq {t : Str} {i c : Nat} (h : (t.cps[i]? == some c) = true) : i < t.length := lt_of_at (beq_iff_eq.mp h)
theorem numEnd_ge (t : Str) (i : Nat) : i ≤ numEnd t i := by
  have h1 := spanTo_ge isFig t i
  have h2 := spanTo_ge isFig t (spanTo isFig t i + 1)
  unfold numEnd; split <;> omega
theorem numEnd_le {t : Str} {i : Nat} (h : i ≤ t.length) : numEnd t i ≤ t.length := by
  have h1 : spanTo isFig t i ≤ t.length := spanTo_le h
  unfold numEnd; split
  · rename_i q
    rw [Bool.and_eq_true] at q
    exact spanTo_le (lt_of_beq q.1)
  · exact h1
def sNum : Str := "number"
def sLit : Str := "literal"
def sVar : Str := "variable"
def sName : Str := "name"
def sKind : Str := "kind"
def sFun : Str := "function"
def sAxis : Str := "axis"
def sEnd : Str := "end"
/-- a name with or without a prefix -/
def qual (t : Str) (i : Nat) : Option (Nat × Str) :=
  if nameEnd t i = i ∨ t.cps[nameEnd t i]? ≠ some 58 ∨ t.cps[nameEnd t i + 1]? = some 58 then some (nameEnd t i, sub t i (nameEnd t i))
  else if t.cps[nameEnd t i + 1]? = some 42 then some (nameEnd t i + 2, sub t i (nameEnd t i) ++ Str.ofString ":*")
  else if nameEnd t (nameEnd t i + 1) = nameEnd t i + 1 then none
  else some (nameEnd t (nameEnd t i + 1), (sub t i (nameEnd t i) ++ Str.ofString ":") ++ sub t (nameEnd t i + 1) (nameEnd t (nameEnd t i + 1)))
theorem qual_bound {t : Str} {i : Nat} {p : Nat × Str} (h : qual t i = some p) (hi : i ≤ t.length) : i ≤ p.1 ∧ p.1 ≤ t.length ∧ p.2.length ≤ t.length + 3 := by
  have h1 := nameEnd_ge t i
  have h2 := nameEnd_le hi
  unfold qual at h
  split at h
  · cases h
    exact ⟨h1, h2, by rw [sub_len h1 h2]; omega⟩
  · rename_i n
    have h3 : nameEnd t i < t.length := by
      have : t.cps[nameEnd t i]? = some 58 := Classical.byContradiction fun q => n (.inr (.inl q))
      exact lt_of_at this
    split at h
    · rename_i q
      cases h
      have h4 := lt_of_at q
      refine ⟨by show i ≤ nameEnd t i + 2; omega, h4, ?_⟩
      rw [Str.length_append, sub_len h1 h2]
      have : (Str.ofString ":*").length = 2 := by decide +kernel
      omega
    · have h4 := nameEnd_ge t (nameEnd t i + 1)
      have h5 : nameEnd t (nameEnd t i + 1) ≤ t.length := nameEnd_le h3
      split at h
      · cases h
      · cases h
        refine ⟨by show i ≤ nameEnd t (nameEnd t i + 1); omega, h5, ?_⟩
        rw [Str.length_append, Str.length_append, sub_len h1 h2, sub_len h4 h5]
        have : (Str.ofString ":").length = 1 := by decide +kernel
        omega
end Mine
namespace Mine
/- M18 -/
open PySem PySem.W PySem.Calls PyProof.Rows
set_option maxHeartbeats 200000
local macro_rules | `(tactic| tb_start) => `(tactic| ((case C => assumption); (case H => assumption); (case ho => k_is); (case hcd => k_is); (case hb => first | exact BindsTo.of_eq rfl | exact binds_K (Frag.In.keeps (Cx.X ‹Cx _ _ _ _›) (Has.keep ‹Has _ _ _›)) rfl (by k_is) rfl rfl rfl); (case hl => exact locs rfl); (case c1 => exact rfl); (case c2 => exact rfl); (case c3 => exact rfl); (case c4 => decide)))
local macro_rules | `(tactic| tb_rel) => `(tactic| first
  | with_reducible refine x_return ?_
  | with_reducible refine x_if ?_
  | ((with_reducible refine x_assign ?_ ?hs); (case hs => rfl))
  | ((with_reducible refine x_expr ?_ ?hi ?hs); (case hi => rfl); (case hs => rfl))
  | ((with_reducible refine x_setattr ?_ ?hs); (case hs => rfl))
  | with_reducible refine x_nil ?_
  | with_reducible refine kont_next ?_
  | with_reducible refine kont_ret ?_
  | with_reducible refine fnK_ret ?_
  | with_reducible refine fnK_next ?_
  | ((with_reducible refine wpAny_isTrue_Compare1 (hm := ?hm) ?_); (case hm => rfl))
  | ((with_reducible refine isTrue_chain (hm := ?hm) ?_); (case hm => rfl))
  | with_reducible refine wpAny_isTrue_BoolOp ?_
  | with_reducible refine wpAny_isTrue_Not ?_
  | with_reducible refine wpAny_allTrue_And_cons ?_
  | with_reducible refine wpAny_allTrue_Or_cons ?_
  | with_reducible refine wpAny_allTrue_And_nil ?_
  | with_reducible refine wpAny_allTrue_Or_nil ?_
  | ((with_reducible refine Compare_chain (hm := ?hm) ?_); (case hm => rfl))
  | with_reducible refine chain_linkE ?_
  | with_reducible refine chain_lastE ?_
  | ((with_reducible refine wpAny_Compare1 (hm := ?hm) ?_); (case hm => rfl))
  | with_reducible refine wpAny_BinOp ?_
  | with_reducible refine wpAny_IfExp ?_
  | with_reducible refine wpAny_UnaryOp ?_
  | with_reducible refine eval_boolOp ?_
  | with_reducible refine boolOp_orE ?_
  | with_reducible refine boolOp_andE ?_
  | with_reducible refine boolOp_oneE ?_
  | with_reducible refine wpAny_truthy_bool ?_
  | with_reducible refine wpAny_Call_ofName ?_
  | ((with_reducible refine' MethodCall_ (he := ?he) ?_); (case he => rfl))
  | ((with_reducible refine PyProof.Rows.Attribute_any_ ?_ ?he); (case he => rfl))
  | with_reducible refine PyProof.Rows.Subscript_ ?_
  | with_reducible refine PyProof.Rows.Tuple_ ?_
  | with_reducible refine PyProof.Rows.List_ ?_
  | ((with_reducible refine r_callW (by assumption) ?hk ?_ ?he ?hp); (case hk => k_is); (case he => rfl); (case hp => rfl))
  | ((with_reducible refine r_callW0 (by assumption) (by assumption) ?hk ?_); (case hk => k_is))
  | ((with_reducible refine PyProof.Rows.callWith_method0 ?_))
  | ((with_reducible refine r_callB ?_ ?he ?hp); (case he => rfl); (case hp => rfl))
  | ((with_reducible refine PyProof.Rows.callWith_method1 ?_ ?he ?hp); (case he => rfl); (case hp => rfl))
  | ((with_reducible refine r_callT ?_ ?he ?hp); (case he => rfl); (case hp => rfl))
  | ((with_reducible refine PyProof.Rows.spliced_more ?_ ?he); (case he => rfl))
  | with_reducible refine PyProof.Rows.spliced_none ?_
  | with_reducible refine inK (by assumption) (by assumption) ?_
  | with_reducible refine PyProof.Rows.eq_int ?_
  | with_reducible refine PyProof.Rows.ne_int ?_
  | with_reducible refine PyProof.Rows.lt_int ?_
  | with_reducible refine PyProof.Rows.gt_int ?_
  | with_reducible refine PyProof.Rows.le_int ?_
  | with_reducible refine PyProof.Rows.ge_int ?_
  | with_reducible refine PyProof.Rows.eq_str ?_
  | with_reducible refine PyProof.Rows.ne_str ?_
  | with_reducible refine PySem.P.le_str ?_
  | with_reducible refine PyProof.Rows.in_str ?_
  | with_reducible refine r_bool ?_
  | ((rename St _ _ _ _ _ _ => S0); (first
     | (with_reducible refine r_str S0 ?_)
     | (with_reducible refine r_int S0 ?_)
     | (with_reducible refine r_add S0 ?_)
     | (with_reducible refine r_sub S0 ?_)
     | (with_reducible refine r_find3 S0 ?_)); clear S0; intro tk' s' S')
  | ((rename St _ _ _ _ _ _ => S0); (with_reducible refine' r_local S0 ?hv ?_ ?hk ?hl ?hd); (case hv => first | rfl | assumption); (case hk => rfl); (case hl => rfl); (case hd => decide))
  | ((rename St _ _ _ _ _ _ => S0); (with_reducible refine' r_glob (by assumption) S0 ?hv ?_ ?hk ?hl ?hd); (case hv => k_is); (case hk => rfl); (case hl => rfl); (case hd => decide))
  | ((rename St _ _ _ _ _ _ => S0); (with_reducible refine' r_bi (by assumption) S0 ?hv ?hb ?hn ?_ ?hk ?hl ?hd); (case hv => k_is); (case hb => boot_by_name); (case hn => decide); (case hk => rfl); (case hl => rfl); (case hd => decide))
  | ((rename St _ _ _ _ _ _ => S0); (with_reducible refine r_store S0 ?_ ?hk ?hl); clear S0; (case hk => rfl); (case hl => rfl); intro s' S')
  | ((with_reducible refine isTrue_plain ?_ ?he); (case he => rfl)))
local macro_rules | `(tactic| tb_rel) => `(tactic| ((rename St _ _ _ _ _ _ => S0); first
  | with_reducible refine x_slice ?_
  | ((with_reducible refine r_text (by assumption) S0 (by assumption) ?_); clear S0; intro tk' s' S')
  | ((with_reducible refine r_at (by assumption) S0 (by assumption) ?_); clear S0; intro tk' s' S')
  | ((with_reducible refine r_found (by assumption) S0 (by assumption) ?_); clear S0; intro s' S')
  | ((with_reducible refine' r_scm (by assumption) S0 (by assumption) ?hg ?hf ?ht ?hl ?_); (case hg => k_is); (case hf => k_is); (case ht => k_is); (case hl => exact fun _ _ _ _ _ _ _ _ => rfl))
  | ((with_reducible refine r_callM (by assumption) ?hk ?_ ?he ?hp); (case hk => k_is); (case he => rfl); (case hp => rfl))
  | ((with_reducible refine r_callM0 (by assumption) S0 ?hk ?_); (case hk => k_is))
  | ((with_reducible refine r_lenS S0 ?hz ?_); (case hz => assumption); clear S0; intro tk' s' S')))
local macro_rules | `(tactic| tb_rel) => `(tactic| first | with_reducible refine ite_t rfl ?_ | with_reducible refine ite_f rfl ?_)
local macro_rules | `(tactic| tb_rel) => `(tactic| ((with_reducible show wpAny _ _ (call (.ref 168) _ _) _ _ _); (rename St _ _ _ _ _ _ => S0); (rename Scan _ _ _ _ _ _ _ _ _ => c0); (first
  | refine r_pureL S0 (k168' (d := 0) (Cx.less (by assumption) (by omega)) S0.hasL c0 (by assumption)) ?_
  | refine r_pureL S0 (k168 (d := 0) (k := 1) (Cx.less (by assumption) (by omega)) S0.hasL c0 (by assumption)) ?_); (intro v' s' hv' S'); (obtain ⟨tk', hv''⟩ := hv'); subst hv''; clear S0))
local macro_rules | `(tactic| tb_rel) => `(tactic| ((with_reducible show wpAny _ _ (call (.ref 196) _ _) _ _ _); (rename St _ _ _ _ _ _ => S0); (rename Scan _ _ _ _ _ _ _ _ _ => c0); (refine r_pureL S0 (k196 (d := 0) (Cx.less (by assumption) (by omega)) S0.hasL c0 (by assumption)) ?_); (intro v' s' hv' S'); subst hv'; clear S0))
local macro_rules | `(tactic| tb_rel) => `(tactic| ((with_reducible show wpAny _ _ (call (.ref 189) _ _) _ _ _); (rename St _ _ _ _ _ _ => S0); (rename Scan _ _ _ _ _ _ _ _ _ => c0); (refine r_scan S0 (k189 (d := 0) (Cx.less (by assumption) (by omega)) S0.hasL c0 (by assumption)) ?_); (intro v' g' led' s' hv' hg' Sc' S'); subst hv'; (have C' := Cx.mono (by assumption) hg'); clear S0 c0))
local macro_rules | `(tactic| tb_rel) => `(tactic| ((with_reducible show wpAny _ _ (call (.ref 217) _ _) _ _ _); (rename St _ _ _ _ _ _ => S0); (rename Scan _ _ _ _ _ _ _ _ _ => c0); (refine r_scan S0 (k217 (d := 0) (Cx.less (by assumption) (by omega)) S0.hasL c0 (by assumption)) ?_); (intro v' g' led' s' hv' hg' Sc' S'); subst hv'; (have C' := Cx.mono (by assumption) hg'); clear S0 c0))
local macro_rules | `(tactic| tb_rel) => `(tactic| ((with_reducible show wpAny _ _ (call (.ref 175) _ _) _ _ _); (rename St _ _ _ _ _ _ => S0); (rename Scan _ _ _ _ _ _ _ _ _ => c0); (refine r_scan S0 (k175 (d := 0) (Cx.less (by assumption) (by omega)) S0.hasL c0 (by assumption)) ?_); (intro v' g' led' s' hv' hg' Sc' S'); subst hv'; (have C' := Cx.mono (by assumption) hg'); clear S0 c0))
local macro_rules | `(tactic| tb_rel) => `(tactic| ((with_reducible show wpAny _ _ (call (.ref 238) _ _) _ _ _); (rename St _ _ _ _ _ _ => S0); (rename Scan _ _ _ _ _ _ _ _ _ => c0); (refine r_scan S0 (k238 (d := 0) (Cx.less (by assumption) (by omega)) S0.hasL c0 (by assumption) (by assumption) (by first | assumption | omega)) ?_); (intro v' g' led' s' hv' hg' Sc' S'); (obtain ⟨tk', hv''⟩ := hv'); subst hv''; (have C' := Cx.mono (by assumption) hg'); clear S0 c0))
section
variable {w : World} {A : Around} {E : Value → Shared → Prop} {s s0 : Shared} {e : Ent} {g : Heap} {L x dx l f : Addr} {m : Str → Option Value} {led led₁ : Led} {d i i' : Nat} {t : Str} {ws ws' : List Wd} {outer : List Env}
set_option maxHeartbeats 4000000 in
theorem k210 (C : Cx w g A (d + 4)) (H : Has g led s.heap) (Sc : Scan w g led x dx l t i ws) (ht : t.length ≤ sizeLine) (hi : i ≤ t.length) (hw : ws.length ≤ 1000000) :
    codeAny (model PR w) A (.call (.ref 210) ⟨[.ref x], []⟩) (ScanTo w g led s x dx l t (numEnd t i) (ws ++ [(sNum, sub t i (numEnd t i), (i : Int))]) fun v => v = .none) s := by
  refine' enter (binds := [("self", .ref x)]) ?C ?H ?ho ?hcd ?hb ?hl ?_ ?c1 ?c2 ?c3 ?c4; tb_start
  intro L s1 S C1
  have a1 := spanTo_ge isFig t i
  have a2 : spanTo isFig t i ≤ t.length := spanTo_le hi
  repeat tb_rel
  refine ite_b (q_dot _ _) ?_
  refine ite_c (fun h1 => ?_) (fun h1 => ?_)
  · have a3 := lt_of_beq h1
    have a4 := spanTo_ge isFig t (spanTo isFig t i + 1)
    have a5 : spanTo isFig t (spanTo isFig t i + 1) ≤ t.length := spanTo_le a3
    repeat tb_rel
    refine ite_b (q_ndot _ _) ?_
    refine ite_c (fun h2 => ?_) (fun h2 => ?_)
    · have hn : numEnd t i = spanTo isFig t (spanTo isFig t i + 1) := by unfold numEnd; rw [if_pos (by rw [h1, Bool.true_and]; exact h2)]
      rw [hn]
      repeat tb_rel
      rename St _ _ _ _ _ _ => S
      rename Scan _ _ _ _ _ _ _ _ _ => Sc
      refine r_setat (i' := spanTo isFig t i + 1) (by assumption) S Sc (by omega) fun led'' s' S Sc => ?_
      repeat tb_rel
      rename St _ _ _ _ _ _ => S
      refine r_slice S (i := i) (j := spanTo isFig t (spanTo isFig t i + 1)) (by omega) a5 ht fun tk' s' S => ?_
      repeat tb_rel
      rename St _ _ _ _ _ _ => S
      rename Scan _ _ _ _ _ _ _ _ _ => Sc
      exact S.scanTo Sc rfl
    · have hn : numEnd t i = spanTo isFig t i := by unfold numEnd; rw [if_neg (by rw [h1, Bool.true_and, h2]; decide)]
      rw [hn]
      repeat tb_rel
      rename St _ _ _ _ _ _ => S
      refine r_slice S (i := i) (j := spanTo isFig t i) (by omega) a2 ht fun tk' s' S => ?_
      repeat tb_rel
      rename St _ _ _ _ _ _ => S
      rename Scan _ _ _ _ _ _ _ _ _ => Sc
      exact S.scanTo Sc rfl
  · have hn : numEnd t i = spanTo isFig t i := by unfold numEnd; rw [if_neg (by rw [h1, Bool.false_and]; decide)]
    rw [hn]
    repeat tb_rel
    rename St _ _ _ _ _ _ => S
    refine r_slice S (i := i) (j := spanTo isFig t i) (by omega) a2 ht fun tk' s' S => ?_
    repeat tb_rel
    rename St _ _ _ _ _ _ => S
    rename Scan _ _ _ _ _ _ _ _ _ => Sc
    exact S.scanTo Sc rfl
end
/- M19 -/
open PySem PySem.W PySem.Calls PyProof.Rows
set_option maxHeartbeats 200000
section
variable {w : World} {A : Around} {E : Value → Shared → Prop} {s : Shared} {e : Ent} {g : Heap} {L x t : Addr} {m : Str → Option Value} {led rest : Led} {d : Nat}
theorem cat_ok {a b : Str} (ha : a.length ≤ 5000000) (hb : b.length ≤ 5000000) : a.length + b.length ≤ sizeLine := by rw [sizeLine_eq]; omega
theorem r_strI {i : Nat} {t : Tok} {Q : Value → Shared → Prop} (S : St e g L m led s) (hi : i ≤ 2000000) (h : ∀ y tk s', y.length ≤ 2000010 → St e g L m led s' → Q (.str y tk) s') : wpAny (model PR w) A (call (.type "str") [.int (i : Int) t]) Q E s := by
  refine P.str_of_int (shown (N := 2000001) (by omega) (by omega) (by decide +kernel)) (h _ _ _ ?_ S.tok)
  have := PyProof.Rows.len_str_of_int (i : Int)
  omega
end
section
variable {w : World} {A : Around} {E : Value → Shared → Prop} {s s' s₀ : Shared} {g g₀ : Heap} {L f x dx l : Addr} {t : Str} {m : Str → Option Value} {led led₀ led₁ : Led} {qn : Str} {sc : Scope} {cd e : Value} {outer : List Env} {p : Option (Nat × List Wd)} {vv : Value → Prop}
theorem St.faultOr (S : St ⟨g₀, led₀, s₀, []⟩ g L m led s) (K : Stk A outer g₀ led₀ s₀.heap) (N : NewFault s e s') (hp : p = none) (hk : sc.kind = .function) :
    wpAny (model PR w) (A.deeper (envOf qn sc L f cd)) (leaving (envOf qn sc L f cd) e) (fun _ s'' => ScanOr w g₀ led₀ s₀ outer x dx l t p vv (.error e) s'') E s' :=
  S.newFault (R := fun v s'' => ScanOr w g₀ led₀ s₀ outer x dx l t p vv (.error v) s'') K N hk fun _ F => by subst hp; exact ⟨_, rfl, F⟩
theorem St.fliesOr (S : St ⟨g₀, led₀, s₀, []⟩ g L m led s) (K : Stk A outer g₀ led₀ s₀.heap) (F : Flies (envOf qn sc L f cd :: outer) led₁ s e s') (hs : ∀ p ∈ led₁, p ∈ led) (hp : p = none) :
    wpAny (model PR w) (A.deeper (envOf qn sc L f cd)) (leaving (envOf qn sc L f cd) e) (fun _ s'' => ScanOr w g₀ led₀ s₀ outer x dx l t p vv (.error e) s'') E s' :=
  S.flies (R := fun v s'' => ScanOr w g₀ led₀ s₀ outer x dx l t p vv (.error v) s'') K F hs fun _ F => by subst hp; exact ⟨_, rfl, F⟩
end
section
variable {w : World} {A : Around} {E : Value → Shared → Prop} {s s0 : Shared} {e : Ent} {g : Heap} {L x dx l f : Addr} {m : Str → Option Value} {led led₁ : Led} {d i i' : Nat} {t : Str} {ws ws' : List Wd} {outer : List Env}
set_option maxHeartbeats 4000000 in
theorem k245 (C : Cx w g A (d + 5)) (H : Has g led s.heap) (K : Stk A outer g led s.heap) (Sc : Scan w g led x dx l t i ws) (ht : t.length ≤ sizeLine) (h6 : t.length ≤ 1000000) (hok : ∀ c ∈ t.cps.toList, okc c) (hi : i ≤ t.length) :
    codeAny (model PR w) A (.call (.ref 245) ⟨[.ref x], []⟩) (ScanOr w g led s outer x dx l t ((qual t i).map fun q => (q.1, ws)) fun v => ∃ q, qual t i = some q ∧ ∃ tk, v = .str q.2 tk) s := by
  refine' enterE (binds := [("self", .ref x)]) ?C ?H ?ho ?hcd ?hb ?hl ?_ ?c1 ?c2 ?c3 ?c4; tb_start
  intro L s1 S C1
  have a1 := nameEnd_ge t i
  have a2 := nameEnd_le hi
  have z1 := sub_len a1 a2
  repeat tb_rel
  refine ite_b (sub_nil a1 a2) ?_
  have ret0 : (nameEnd t i = i ∨ t.cps[nameEnd t i]? ≠ some 58 ∨ t.cps[nameEnd t i + 1]? = some 58) → qual t i = some (nameEnd t i, sub t i (nameEnd t i)) := fun h => by unfold qual; rw [if_pos h]
  refine ite_c (fun h1 => ?_) (fun h1 => ?_)
  · have hq := ret0 (.inl (of_decide_eq_true h1))
    repeat tb_rel
    rename St _ _ _ _ _ _ => S
    rename Scan _ _ _ _ _ _ _ _ _ => Sc
    exact ScanOr.some' (by rw [hq]; rfl) S Sc ⟨_, hq, _, rfl⟩
  have h1' : ¬ nameEnd t i = i := of_decide_eq_false h1
  repeat tb_rel
  refine ite_b (q_nco _ _) ?_
  refine ite_c (fun h2 => ?_) (fun h2 => ?_)
  · have hq := ret0 (.inr (.inl (by simpa using h2)))
    repeat tb_rel
    rename St _ _ _ _ _ _ => S
    rename Scan _ _ _ _ _ _ _ _ _ => Sc
    exact ScanOr.some' (by rw [hq]; rfl) S Sc ⟨_, hq, _, rfl⟩
  have h2' : t.cps[nameEnd t i]? = some 58 := by simpa using h2
  have a3 := lt_of_at h2'
  repeat tb_rel
  refine ite_b (q_co _ _) ?_
  refine ite_c (fun h3 => ?_) (fun h3 => ?_)
  · have hq := ret0 (.inr (.inr (by simpa using h3)))
    repeat tb_rel
    rename St _ _ _ _ _ _ => S
    rename Scan _ _ _ _ _ _ _ _ _ => Sc
    exact ScanOr.some' (by rw [hq]; rfl) S Sc ⟨_, hq, _, rfl⟩
  have h3' : ¬ t.cps[nameEnd t i + 1]? = some 58 := by simpa using h3
  have hn : ¬ (nameEnd t i = i ∨ t.cps[nameEnd t i]? ≠ some 58 ∨ t.cps[nameEnd t i + 1]? = some 58) := by
    rintro (h | h | h)
    · exact h1' h
    · exact h h2'
    · exact h3' h
  repeat tb_rel
  rename St _ _ _ _ _ _ => S
  rename Scan _ _ _ _ _ _ _ _ _ => Sc
  refine r_setat (i' := nameEnd t i + 1) (v := ((nameEnd t i : Nat) : Int) + 1) (by assumption) S Sc (by omega) fun led'' s' S Sc => ?_
  repeat tb_rel
  refine ite_b (q_star _ _) ?_
  refine ite_c (fun h4 => ?_) (fun h4 => ?_)
  · have a4 := lt_of_beq h4
    have hq : qual t i = some (nameEnd t i + 2, sub t i (nameEnd t i) ++ Str.ofString ":*") := by unfold qual; rw [if_neg hn, if_pos (beq_iff_eq.mp h4)]
    repeat tb_rel
    rename St _ _ _ _ _ _ => S
    rename Scan _ _ _ _ _ _ _ _ _ => Sc
    refine r_setat (i' := nameEnd t i + 2) (v := ((nameEnd t i + 1 : Nat) : Int) + 1) (by assumption) S Sc (by omega) fun led'' s' S Sc => ?_
    repeat tb_rel
    rename St _ _ _ _ _ _ => S
    rename Scan _ _ _ _ _ _ _ _ _ => Sc
    refine r_cat S (cat_ok (by rw [z1]; omega) (by decide +kernel)) fun tk s' S => ?_
    repeat tb_rel
    exact ScanOr.some' (by rw [hq]; rfl) S Sc ⟨_, hq, _, rfl⟩
  have h4' : ¬ t.cps[nameEnd t i + 1]? = some 42 := by simpa using h4
  repeat tb_rel
  have a5 := nameEnd_ge t (nameEnd t i + 1)
  have a6 : nameEnd t (nameEnd t i + 1) ≤ t.length := nameEnd_le a3
  have z2 := sub_len a5 a6
  refine ite_b (sub_nil a5 a6) ?_
  refine ite_c (fun h5 => ?_) (fun h5 => ?_)
  · have hq : qual t i = none := by unfold qual; rw [if_neg hn, if_neg h4', if_pos (of_decide_eq_true h5)]
    rename St _ _ _ _ _ _ => S
    rename Scan _ _ _ _ _ _ _ _ _ => Sc
    refine x_raise (Cx.less (d' := 0 + 2) (by assumption) (by omega)) S rfl rfl ?_ rfl
    repeat tb_rel
    rename St _ _ _ _ _ _ => S
    refine r_strI S (by omega) fun y tk s' hy S => ?_
    refine r_cat S (cat_ok (by decide +kernel) (by omega)) fun tk s' S => ?_
    refine ⟨_, _, rfl, S, fun v' s' N => ?_⟩
    exact S.faultOr K N (by rw [hq]; rfl) rfl
  · have hq : qual t i = some (nameEnd t (nameEnd t i + 1), (sub t i (nameEnd t i) ++ Str.ofString ":") ++ sub t (nameEnd t i + 1) (nameEnd t (nameEnd t i + 1))) := by unfold qual; rw [if_neg hn, if_neg h4', if_neg (of_decide_eq_false h5)]
    repeat tb_rel
    rename St _ _ _ _ _ _ => S
    refine r_cat S (cat_ok (by rw [z1]; omega) (by decide +kernel)) fun tk s' S => ?_
    repeat tb_rel
    rename St _ _ _ _ _ _ => S
    rename Scan _ _ _ _ _ _ _ _ _ => Sc
    refine r_cat S (cat_ok (by rw [Str.length_append, z1]; have : (Str.ofString ":").length = 1 := by decide +kernel
                               omega) (by rw [z2]; omega)) fun tk s' S => ?_
    repeat tb_rel
    exact ScanOr.some' (by rw [hq]; rfl) S Sc ⟨_, hq, _, rfl⟩
end
/- M20 -/
open PySem PySem.W PySem.Calls PyProof.Rows
set_option maxHeartbeats 200000
section
variable {w : World} {A : Around} {E : Value → Shared → Prop} {s : Shared} {e : Ent} {g : Heap} {L x t : Addr} {m : Str → Option Value} {led rest : Led} {d : Nat}
theorem r_sliceI {tt : Str} {tk ta tb : Tok} {a b : Int} {i j : Nat} {value lo up : PySem.Expr} {p : Pos} {Q : Value → Shared → Prop} (S : St e g L m led s) (ha : a = i) (hb : b = j) (hij : i ≤ j) (hj : j ≤ tt.length) (hz : tt.length ≤ sizeLine) (h : ∀ tk' s', St e g L m led s' → Q (.str (sub tt i j) tk') s') :
    wpAny (model PR w) A (subscriptTail value (.Slice (some lo) (some up) none p) (.str tt tk) (.ref s.heap.objs.size)) Q E { s with heap := s.heap.push { cls := .type "slice", data := .fields #[.int a ta, .int b tb, .none] } } := by
  subst ha hb; exact r_slice S hij hj hz h
theorem r_findL {t : Str} {q i : Nat} {v : Int} {ta tb tc : Tok} {Q : Value → Shared → Prop} (S : St e g L m led s) (hi : i < t.length) (hv : v = (i : Int) + 1)
    (h : ∀ tk s', St e g L m led s' → Q (.int (if litEnd t q i < t.length then (litEnd t q i : Int) else -1) tk) s') : wpAny (model PR w) A (call (.builtin "str.find") [.str t ta, .str ⟨#[q]⟩ tb, .int v tc]) Q E s := by
  refine r_find3 S fun tk s' S' => ?_
  rw [hv, show (i : Int) + 1 = ((i + 1 : Nat) : Int) by omega, find_lit t q i hi]
  exact h tk s' S'
end
local macro_rules | `(tactic| tb_rel) => `(tactic| first
  | with_reducible refine GM.find ?_
  | with_reducible refine GM.endswith ?_
  | ((with_reducible show wpAny _ _ (call (.builtin "str.endswith") _ _) _ _ _); refine r_ends ?_))
section
variable {w : World} {A : Around} {E : Value → Shared → Prop} {s s0 : Shared} {e : Ent} {g : Heap} {L x dx l f : Addr} {m : Str → Option Value} {led led₁ : Led} {d i i' : Nat} {t : Str} {ws ws' : List Wd} {outer : List Env}
def litOr (t : Str) (q i : Nat) (ws : List Wd) : Option (Nat × List Wd) := if litEnd t q i < t.length then some (litEnd t q i + 1, ws ++ [(sLit, sub t (i + 1) (litEnd t q i), (i : Int))]) else none
theorem lt_int_neg {a : Nat} : decide ((a : Int) < 0) = false := by simp
set_option maxHeartbeats 1000000 in
theorem k224 {q : Nat} {tq : Tok} (C : Cx w g A (d + 5)) (H : Has g led s.heap) (K : Stk A outer g led s.heap) (Sc : Scan w g led x dx l t i ws) (ht : t.length ≤ sizeLine) (h6 : t.length ≤ 1000000) (hi : i < t.length) (hw : ws.length ≤ 1000000) :
    codeAny (model PR w) A (.call (.ref 224) ⟨[.ref x, .str ⟨#[q]⟩ tq], []⟩) (ScanOr w g led s outer x dx l t (litOr t q i ws) fun v => v = .none) s := by
  refine' enterE (binds := [("self", .ref x), ("quote", .str ⟨#[q]⟩ tq)]) ?C ?H ?ho ?hcd ?hb ?hl ?_ ?c1 ?c2 ?c3 ?c4; tb_start
  intro L s1 S C1
  have a1 : i + 1 ≤ litEnd t q i := spanTo_ge (· != q) t (i + 1)
  repeat tb_rel
  rename St _ _ _ _ _ _ => S
  refine r_findL S hi rfl fun tk' s' S => ?_
  by_cases hc : litEnd t q i < t.length
  · have hq : litOr t q i ws = some (litEnd t q i + 1, ws ++ [(sLit, sub t (i + 1) (litEnd t q i), (i : Int))]) := by unfold litOr; rw [if_pos hc]
    rw [if_pos hc]
    repeat tb_rel
    repeat tb_rel
    rename St _ _ _ _ _ _ => S
    rename Scan _ _ _ _ _ _ _ _ _ => Sc
    refine r_setat (i' := litEnd t q i + 1) (v := ((litEnd t q i : Nat) : Int) + 1) (by assumption) S Sc (by omega) fun led'' s' S Sc => ?_
    repeat tb_rel
    rename St _ _ _ _ _ _ => S
    refine r_sliceI S (i := i + 1) (j := litEnd t q i) (by omega) (by rfl) a1 (by omega) ht fun tk' s' S => ?_
    repeat tb_rel
    rename St _ _ _ _ _ _ => S
    rename Scan _ _ _ _ _ _ _ _ _ => Sc
    exact ScanOr.some' hq S Sc rfl
  · have hq : litOr t q i ws = none := by unfold litOr; rw [if_neg hc]
    rw [if_neg hc]
    repeat tb_rel
    rename St _ _ _ _ _ _ => S
    refine x_raise (Cx.less (d' := 0 + 2) (by assumption) (by omega)) S rfl rfl ?_ rfl
    repeat tb_rel
    rename St _ _ _ _ _ _ => S
    refine r_strI S (by omega) fun y tk s' hy S => ?_
    refine r_cat S (cat_ok (by decide +kernel) (by omega)) fun tk s' S => ?_
    exact ⟨_, _, rfl, S, fun v' s' N => S.faultOr K N hq rfl⟩
def starE (q : Str) : Bool := Txt.endswith q (Str.ofString "*")
def varOr (t : Str) (i : Nat) (ws : List Wd) : Option (Nat × List Wd) := match qual t (i + 1) with
  | none => none
  | some q => if (q.2 == Str.ofString "") = true ∨ starE q.2 = true then none else some (q.1, ws ++ [(sVar, q.2, (i : Int))])
set_option maxHeartbeats 1000000 in
theorem k231 (C : Cx w g A (d + 6)) (H : Has g led s.heap) (K : Stk A outer g led s.heap) (Sc : Scan w g led x dx l t i ws) (ht : t.length ≤ sizeLine) (h6 : t.length ≤ 1000000) (hok : ∀ c ∈ t.cps.toList, okc c) (hi : i < t.length) (hw : ws.length ≤ 1000000) :
    codeAny (model PR w) A (.call (.ref 231) ⟨[.ref x], []⟩) (ScanOr w g led s outer x dx l t (varOr t i ws) fun v => v = .none) s := by
  refine' enterE (binds := [("self", .ref x)]) ?C ?H ?ho ?hcd ?hb ?hl ?_ ?c1 ?c2 ?c3 ?c4; tb_start
  intro L s1 S C1
  repeat tb_rel
  rename St _ _ _ _ _ _ => S
  rename Scan _ _ _ _ _ _ _ _ _ => Sc
  refine r_setat (i' := i + 1) (v := ((i : Nat) : Int) + 1) (by assumption) S Sc (by omega) fun led'' s' S Sc => ?_
  repeat tb_rel
  rename St _ _ _ _ _ _ => S
  refine r_or S (k245 (d := 0) (C1.less (by omega)) S.hasL (S.stk K rfl) Sc ht h6 hok hi) (fun i' ws' val g' led' s' hp hv hg Sc S => ?_) fun hp e' s' F => ?_
  · obtain ⟨q, hq, tk, rfl⟩ := hv
    rw [hq] at hp
    cases hp
    have C2 := C1.mono hg
    have hb := (qual_bound hq hi).2.2
    repeat tb_rel
    refine ite_c (fun h1 => ?_) (fun h1 => ?_)
    · have hn : varOr t i ws = none := by unfold varOr; rw [hq]; exact if_pos (.inl h1)
      rename St _ _ _ _ _ _ => S
      refine x_raise (Cx.less (d' := 0 + 2) C2 (by omega)) S rfl rfl ?_ rfl
      repeat tb_rel
      rename St _ _ _ _ _ _ => S
      refine r_strI S (by omega) fun y tk s' hy S => ?_
      refine r_cat S (cat_ok (by decide +kernel) (by omega)) fun tk s' S => ?_
      exact ⟨_, _, rfl, S, fun v' s' N => S.faultOr K N hn rfl⟩
    · repeat tb_rel
      refine ite_c (fun h2 => ?_) (fun h2 => ?_)
      · have hn : varOr t i ws = none := by unfold varOr; rw [hq]; exact if_pos (.inr h2)
        rename St _ _ _ _ _ _ => S
        refine x_raise (Cx.less (d' := 0 + 2) C2 (by omega)) S rfl rfl ?_ rfl
        repeat tb_rel
        rename St _ _ _ _ _ _ => S
        refine r_strI S (by omega) fun y tk s' hy S => ?_
        refine r_cat S (cat_ok (by decide +kernel) (by omega)) fun tk s' S => ?_
        exact ⟨_, _, rfl, S, fun v' s' N => S.faultOr K N hn rfl⟩
      · have hn : varOr t i ws = some (q.1, ws ++ [(sVar, q.2, (i : Int))]) := by
          unfold varOr; rw [hq]; exact if_neg (by rintro (h | h); · rw [h1] at h; cases h
                                                  · exact absurd (h2.symm.trans h) (by decide))
        repeat tb_rel
        rename St _ _ _ _ _ _ => S
        rename Scan _ _ _ _ _ _ _ _ _ => Sc
        exact ScanOr.some' hn S Sc rfl
  · have hn : varOr t i ws = none := by
      unfold varOr
      cases hq : qual t (i + 1) with
      | none => rfl
      | some q => rw [hq] at hp; cases hp
    exact S.fliesOr K F (fun _ h => h) hn
end
/- M21 -/
open PySem PySem.W PySem.Calls PyProof.Rows
set_option maxHeartbeats 200000
def PAIRS : List Str := ["//", "!=", "<=", ">=", "..", "::"]
def OPS : List Str := ["/", "//", "|", "+", "-", "=", "!=", "<", "<=", ">", ">="]
def SIGNS : List Str := ["(", ")", "[", "]", ".", "..", "@", ",", "::"]
def WOPS : List Str := ["and", "or", "mod", "div"]
def KINDS : List Str := ["comment", "text", "processing-instruction", "node"]
section
variable {w : World} {A : Around} {E : Value → Shared → Prop} {s : Shared} {e : Ent} {g : Heap} {L x t : Addr} {m : Str → Option Value} {led rest : Led} {d : Nat}
theorem x_return0 {pos : Pos} {rest : List Stmt} {env : Env} {Q : Flow → Shared → Prop} (h : Q (.ret .none) s) : wpAny (model PR w) A (execs (.Return none pos :: rest) env) Q E s :=
  x_cons (wpAny_Return_none (kont_ret h))
theorem r_nin99 {x : Str} {u : Tok} {Q : Value → Shared → Prop} (C : Cx w g A d) (S : St e g L m led s) (h : Q (.bool (!(PAIRS.any (· == x)))) s) : wpAny (model PR w) A (compareOp .NotIn (.str x u) (.ref 99)) Q E s := by
  have ht : IsTup s.heap 99 #[.str "//" 314, .str "!=" 315, .str "<=" 316, .str ">=" 317, .str ".." 318, .str "::" 319] := ⟨_, S.keep _ _ (C.X _ _ (by k_is)), rfl, _, rfl⟩
  exact notin_tuple_strs (ys := PAIRS) ht (.cons _ _ (.cons _ _ (.cons _ _ (.cons _ _ (.cons _ _ (.cons _ _ .nil)))))) h
theorem r_in100 {x : Str} {u : Tok} {Q : Value → Shared → Prop} (C : Cx w g A d) (S : St e g L m led s) (h : Q (.bool (OPS.any (· == x))) s) : wpAny (model PR w) A (compareOp .In (.str x u) (.ref 100)) Q E s := by
  have ht : IsTup s.heap 100 #[.str "/" 321, .str "//" 322, .str "|" 323, .str "+" 324, .str "-" 325, .str "=" 326, .str "!=" 327, .str "<" 328, .str "<=" 329, .str ">" 330, .str ">=" 331] := ⟨_, S.keep _ _ (C.X _ _ (by k_is)), rfl, _, rfl⟩
  exact in_tuple_strs (ys := OPS) ht (.cons _ _ (.cons _ _ (.cons _ _ (.cons _ _ (.cons _ _ (.cons _ _ (.cons _ _ (.cons _ _ (.cons _ _ (.cons _ _ (.cons _ _ .nil))))))))))) h
theorem r_in101 {x : Str} {u : Tok} {Q : Value → Shared → Prop} (C : Cx w g A d) (S : St e g L m led s) (h : Q (.bool (SIGNS.any (· == x))) s) : wpAny (model PR w) A (compareOp .In (.str x u) (.ref 101)) Q E s := by
  have ht : IsTup s.heap 101 #[.str "(" 333, .str ")" 334, .str "[" 335, .str "]" 336, .str "." 337, .str ".." 338, .str "@" 339, .str "," 340, .str "::" 341] := ⟨_, S.keep _ _ (C.X _ _ (by k_is)), rfl, _, rfl⟩
  exact in_tuple_strs (ys := SIGNS) ht (.cons _ _ (.cons _ _ (.cons _ _ (.cons _ _ (.cons _ _ (.cons _ _ (.cons _ _ (.cons _ _ (.cons _ _ .nil))))))))) h
theorem r_nin102 {x : Str} {u : Tok} {Q : Value → Shared → Prop} (C : Cx w g A d) (S : St e g L m led s) (h : Q (.bool (!(WOPS.any (· == x)))) s) : wpAny (model PR w) A (compareOp .NotIn (.str x u) (.ref 102)) Q E s := by
  have ht : IsTup s.heap 102 #[.str "and" 343, .str "or" 344, .str "mod" 345, .str "div" 346] := ⟨_, S.keep _ _ (C.X _ _ (by k_is)), rfl, _, rfl⟩
  exact notin_tuple_strs (ys := WOPS) ht (.cons _ _ (.cons _ _ (.cons _ _ (.cons _ _ .nil)))) h
theorem r_in103 {x : Str} {u : Tok} {Q : Value → Shared → Prop} (C : Cx w g A d) (S : St e g L m led s) (h : Q (.bool (KINDS.any (· == x))) s) : wpAny (model PR w) A (compareOp .In (.str x u) (.ref 103)) Q E s := by
  have ht : IsTup s.heap 103 #[.str "comment" 348, .str "text" 349, .str "processing-instruction" 350, .str "node" 351] := ⟨_, S.keep _ _ (C.X _ _ (by k_is)), rfl, _, rfl⟩
  exact in_tuple_strs (ys := KINDS) ht (.cons _ _ (.cons _ _ (.cons _ _ (.cons _ _ .nil)))) h
end
local macro_rules | `(tactic| tb_rel) => `(tactic| first
  | with_reducible refine x_return0 ?_
  | ((rename St _ _ _ _ _ _ => S0); first
    | with_reducible refine r_in103 (by assumption) S0 ?_
    | with_reducible refine r_in100 (by assumption) S0 ?_
    | with_reducible refine r_in101 (by assumption) S0 ?_
    | with_reducible refine r_nin99 (by assumption) S0 ?_
    | with_reducible refine r_nin102 (by assumption) S0 ?_))
/-- what name() makes of the place i -/
def nameOr (t : Str) (i : Nat) (ws : List Wd) : Option (Nat × List Wd) :=
  if isBehind ws = true then (if WOPS.any (· == sub t i (nameEnd t i)) = true then some (nameEnd t i, ws ++ [(sOp, sub t i (nameEnd t i), (i : Int))]) else none)
  else match qual t i with
    | none => none
    | some q => if t.cps[spanTo isSp t q.1]? = some 40 ∧ ¬ starE q.2 = true then some (spanTo isSp t q.1, ws ++ [(if KINDS.any (· == q.2) = true then sKind else sFun, q.2, (i : Int))])
      else if t.cps[spanTo isSp t q.1]? = some 58 ∧ t.cps[spanTo isSp t q.1 + 1]? = some 58 then some (spanTo isSp t q.1, ws ++ [(sAxis, q.2, (i : Int))])
      else some (q.1, ws ++ [(sName, q.2, (i : Int))])
section
variable {w : World} {A : Around} {E : Value → Shared → Prop} {s s0 : Shared} {e : Ent} {g : Heap} {L x dx l f : Addr} {m : Str → Option Value} {led led₁ : Led} {d i i' : Nat} {t : Str} {ws ws' : List Wd} {outer : List Env}
set_option maxHeartbeats 4000000 in
theorem k252 (C : Cx w g A (d + 6)) (H : Has g led s.heap) (K : Stk A outer g led s.heap) (Sc : Scan w g led x dx l t i ws) (ht : t.length ≤ sizeLine) (h6 : t.length ≤ 1000000) (hok : ∀ c ∈ t.cps.toList, okc c) (hi : i ≤ t.length) (hw : ws.length ≤ 1000000) :
    codeAny (model PR w) A (.call (.ref 252) ⟨[.ref x], []⟩) (ScanOr w g led s outer x dx l t (nameOr t i ws) fun v => v = .none) s := by
  refine' enterE (binds := [("self", .ref x)]) ?C ?H ?ho ?hcd ?hb ?hl ?_ ?c1 ?c2 ?c3 ?c4; tb_start
  intro L s1 S C1
  repeat tb_rel
  refine ite_c (fun hb => ?_) (fun hb => ?_)
  · repeat tb_rel
    refine ite_c (fun h1 => ?_) (fun h1 => ?_)
    · have hn : nameOr t i ws = none := by unfold nameOr; rw [if_pos hb, if_neg (fun h => by rw [h] at h1; cases h1)]
      rename St _ _ _ _ _ _ => S
      refine x_raise (Cx.less (d' := 0 + 2) (by assumption) (by omega)) S rfl rfl ?_ rfl
      repeat tb_rel
      rename St _ _ _ _ _ _ => S
      refine r_strI S (by omega) fun y tk s' hy S => ?_
      refine r_cat S (cat_ok (by decide +kernel) (by omega)) fun tk s' S => ?_
      exact ⟨_, _, rfl, S, fun v' s' N => S.faultOr K N hn rfl⟩
    · have hn : nameOr t i ws = some (nameEnd t i, ws ++ [(sOp, sub t i (nameEnd t i), (i : Int))]) := by unfold nameOr; rw [if_pos hb, if_pos (by cases h : WOPS.any (· == sub t i (nameEnd t i)) with | true => rfl | false => rw [h] at h1; cases h1)]
      repeat tb_rel
      rename St _ _ _ _ _ _ => S
      rename Scan _ _ _ _ _ _ _ _ _ => Sc
      exact ScanOr.some' hn S Sc rfl
  · have hb' : ¬ isBehind ws = true := by rw [hb]; decide
    repeat tb_rel
    rename St _ _ _ _ _ _ => S
    rename Scan _ _ _ _ _ _ _ _ _ => Sc
    refine r_or S (k245 (d := 0) (C1.less (by omega)) S.hasL (S.stk K rfl) Sc ht h6 hok hi) (fun i' ws' val g' led' s' hp hv hg Sc S => ?_) fun hp e' s' F => ?_
    · obtain ⟨q, hq, tk, rfl⟩ := hv
      rw [hq] at hp
      cases hp
      have C2 := C1.mono hg
      have hu : nameOr t i ws = if t.cps[spanTo isSp t q.1]? = some 40 ∧ ¬ starE q.2 = true then some (spanTo isSp t q.1, ws ++ [(if KINDS.any (· == q.2) = true then sKind else sFun, q.2, (i : Int))])
          else if t.cps[spanTo isSp t q.1]? = some 58 ∧ t.cps[spanTo isSp t q.1 + 1]? = some 58 then some (spanTo isSp t q.1, ws ++ [(sAxis, q.2, (i : Int))])
          else some (q.1, ws ++ [(sName, q.2, (i : Int))]) := by unfold nameOr; rw [if_neg hb', hq]
      repeat tb_rel
      refine ite_b (q_par _ _) ?_
      refine ite_c (fun h1 => ?_) (fun h1 => ?_)
      · have h1' := beq_iff_eq.mp h1
        repeat tb_rel
        refine ite_c (fun h2 => ?_) (fun h2 => ?_)
        · have h2' : ¬ starE q.2 = true := fun h => by rw [show Txt.endswith q.2 (Str.ofString "*") = true from h] at h2; cases h2
          rw [if_pos ⟨h1', h2'⟩] at hu
          repeat tb_rel
          refine ite_c (fun h3 => ?_) (fun h3 => ?_)
          · rw [if_pos h3] at hu
            repeat tb_rel
            rename St _ _ _ _ _ _ => S
            rename Scan _ _ _ _ _ _ _ _ _ => Sc
            exact ScanOr.some' hu S Sc rfl
          · rw [if_neg (by rw [h3]; decide)] at hu
            repeat tb_rel
            rename St _ _ _ _ _ _ => S
            rename Scan _ _ _ _ _ _ _ _ _ => Sc
            exact ScanOr.some' hu S Sc rfl
        · have h2' : starE q.2 = true := by
            cases h : starE q.2 with
            | true => rfl
            | false => rw [show Txt.endswith q.2 (Str.ofString "*") = false from h] at h2; cases h2
          have hn : nameOr t i ws = some (q.1, ws ++ [(sName, q.2, (i : Int))]) := by
            rw [hu, if_neg (fun h => h.2 h2'), if_neg (fun h => by rw [h.1] at h1'; cases h1')]
          repeat tb_rel
          refine ite_b (q_co _ _) ?_
          refine ite_f (by rw [h1']; rfl) ?_
          repeat tb_rel
          rename St _ _ _ _ _ _ => S
          rename Scan _ _ _ _ _ _ _ _ _ => Sc
          refine r_setat (i' := q.1) (v := ((q.1 : Nat) : Int)) (by assumption) S Sc rfl fun led'' s' S Sc => ?_
          repeat tb_rel
          rename St _ _ _ _ _ _ => S
          rename Scan _ _ _ _ _ _ _ _ _ => Sc
          exact ScanOr.some' hn S Sc rfl
      · have h1' : ¬ t.cps[spanTo isSp t q.1]? = some 40 := by simpa using h1
        rw [if_neg (fun h => h1' h.1)] at hu
        repeat tb_rel
        refine ite_b (q_co _ _) ?_
        refine ite_c (fun h2 => ?_) (fun h2 => ?_)
        · have h2' := beq_iff_eq.mp h2
          repeat tb_rel
          refine ite_b (q_co _ _) ?_
          refine ite_c (fun h3 => ?_) (fun h3 => ?_)
          · rw [if_pos ⟨h2', beq_iff_eq.mp h3⟩] at hu
            repeat tb_rel
            rename St _ _ _ _ _ _ => S
            rename Scan _ _ _ _ _ _ _ _ _ => Sc
            exact ScanOr.some' hu S Sc rfl
          · have hn : nameOr t i ws = some (q.1, ws ++ [(sName, q.2, (i : Int))]) := by
              rw [hu, if_neg (fun h => by rw [h.2] at h3; cases h3)]
            repeat tb_rel
            rename St _ _ _ _ _ _ => S
            rename Scan _ _ _ _ _ _ _ _ _ => Sc
            refine r_setat (i' := q.1) (v := ((q.1 : Nat) : Int)) (by assumption) S Sc rfl fun led'' s' S Sc => ?_
            repeat tb_rel
            rename St _ _ _ _ _ _ => S
            rename Scan _ _ _ _ _ _ _ _ _ => Sc
            exact ScanOr.some' hn S Sc rfl
        · have hn : nameOr t i ws = some (q.1, ws ++ [(sName, q.2, (i : Int))]) := by
            rw [hu, if_neg (fun h => by rw [h.1] at h2; cases h2)]
          repeat tb_rel
          rename St _ _ _ _ _ _ => S
          rename Scan _ _ _ _ _ _ _ _ _ => Sc
          refine r_setat (i' := q.1) (v := ((q.1 : Nat) : Int)) (by assumption) S Sc rfl fun led'' s' S Sc => ?_
          repeat tb_rel
          rename St _ _ _ _ _ _ => S
          rename Scan _ _ _ _ _ _ _ _ _ => Sc
          exact ScanOr.some' hn S Sc rfl
    · have hn : nameOr t i ws = none := by
        unfold nameOr
        rw [if_neg hb']
        cases hq : qual t i with
        | none => rfl
        | some q => rw [hq] at hp; cases hp
      exact S.fliesOr K F (fun _ h => h) hn
end
/- M22 -/
open PySem PySem.W PySem.Calls PyProof.Rows
set_option maxHeartbeats 200000
def markText (t : Str) (i : Nat) : Str := if PAIRS.any (· == sgn t i ++ sgn t (i + 1)) = true then sgn t i ++ sgn t (i + 1) else sgn t i
def markOr (t : Str) (i : Nat) (ws : List Wd) : Option (Nat × List Wd) :=
  if OPS.any (· == markText t i) = true then some (i + (markText t i).length, ws ++ [(sOp, markText t i, (i : Int))])
  else if SIGNS.any (· == markText t i) = true then some (i + (markText t i).length, ws ++ [(sSign, markText t i, (i : Int))])
  else none
theorem markText_len (t : Str) (i : Nat) : (markText t i).length ≤ 2 := by
  have h1 := sgn_len t i
  have h2 := sgn_len t (i + 1)
  unfold markText
  split
  · rw [Str.length_append]; omega
  · omega
def nextFig (t : Str) (j : Nat) : Bool := match t.cps[j]? with | some c => isFig c | none => false
section
variable {w : World} {A : Around} {E : Value → Shared → Prop} {s s0 : Shared} {e : Ent} {g : Heap} {L x dx l f : Addr} {m : Str → Option Value} {led led₁ : Led} {d i i' : Nat} {t : Str} {ws ws' : List Wd} {outer : List Env}
set_option maxHeartbeats 4000000 in
theorem k259 (C : Cx w g A (d + 5)) (H : Has g led s.heap) (K : Stk A outer g led s.heap) (Sc : Scan w g led x dx l t i ws) (ht : t.length ≤ sizeLine) (h6 : t.length ≤ 1000000) (hi : i ≤ t.length) (hw : ws.length ≤ 1000000) :
    codeAny (model PR w) A (.call (.ref 259) ⟨[.ref x], []⟩) (ScanOr w g led s outer x dx l t (markOr t i ws) fun v => v = .none) s := by
  refine' enterE (binds := [("self", .ref x)]) ?C ?H ?ho ?hcd ?hb ?hl ?_ ?c1 ?c2 ?c3 ?c4; tb_start
  intro L s1 S C1
  have n1 := sgn_len t i
  have n2 := sgn_len t (i + 1)
  have hz2 := markText_len t i
  have hz : (markText t i).length ≤ sizeLine := by rw [sizeLine_eq]; omega
  repeat tb_rel
  rename St _ _ _ _ _ _ => S
  refine r_cat S (cat_ok (by omega) (by omega)) fun tk s' S => ?_
  repeat tb_rel
  refine ite_c (fun h1 => ?_) (fun h1 => ?_)
  · have hm : markText t i = sgn t i := by unfold markText; rw [if_neg (fun h => by rw [h] at h1; cases h1)]
    unfold markOr
    rw [hm] at hz ⊢
    repeat tb_rel
    refine ite_c (fun h2 => ?_) (fun h2 => ?_)
    · rw [if_pos h2]
      repeat tb_rel
      rename St _ _ _ _ _ _ => S
      rename Scan _ _ _ _ _ _ _ _ _ => Sc
      refine r_setat (i' := i + (sgn t i).length) (v := (i : Int) + ((sgn t i).length : Nat)) (by assumption) S Sc (by omega) fun led'' s' S Sc => ?_
      repeat tb_rel
      exact ScanOr.some' rfl S Sc rfl
    · rw [if_neg (by rw [h2]; decide)]
      repeat tb_rel
      refine ite_c (fun h3 => ?_) (fun h3 => ?_)
      · rw [if_pos h3]
        repeat tb_rel
        rename St _ _ _ _ _ _ => S
        rename Scan _ _ _ _ _ _ _ _ _ => Sc
        refine r_setat (i' := i + (sgn t i).length) (v := (i : Int) + ((sgn t i).length : Nat)) (by assumption) S Sc (by omega) fun led'' s' S Sc => ?_
        repeat tb_rel
        exact ScanOr.some' rfl S Sc rfl
      · rw [if_neg (by rw [h3]; decide)]
        rename St _ _ _ _ _ _ => S
        refine x_raise (Cx.less (d' := 0 + 2) (by assumption) (by omega)) S rfl rfl ?_ rfl
        repeat tb_rel
        rename St _ _ _ _ _ _ => S
        refine r_strI S (by omega) fun y tk s' hy S => ?_
        refine r_cat S (cat_ok (by decide +kernel) (by omega)) fun tk s' S => ?_
        exact ⟨_, _, rfl, S, fun v' s' N => S.faultOr K N rfl rfl⟩
  · have hm : markText t i = sgn t i ++ sgn t (i + 1) := by
      unfold markText
      rw [if_pos (by cases h : PAIRS.any (· == sgn t i ++ sgn t (i + 1)) with | true => rfl | false => rw [h] at h1; cases h1)]
    unfold markOr
    rw [hm] at hz ⊢
    repeat tb_rel
    refine ite_c (fun h2 => ?_) (fun h2 => ?_)
    · rw [if_pos h2]
      repeat tb_rel
      rename St _ _ _ _ _ _ => S
      rename Scan _ _ _ _ _ _ _ _ _ => Sc
      refine r_setat (i' := i + (sgn t i ++ sgn t (i + 1)).length) (v := (i : Int) + ((sgn t i ++ sgn t (i + 1)).length : Nat)) (by assumption) S Sc (by omega) fun led'' s' S Sc => ?_
      repeat tb_rel
      exact ScanOr.some' rfl S Sc rfl
    · rw [if_neg (by rw [h2]; decide)]
      repeat tb_rel
      refine ite_c (fun h3 => ?_) (fun h3 => ?_)
      · rw [if_pos h3]
        repeat tb_rel
        rename St _ _ _ _ _ _ => S
        rename Scan _ _ _ _ _ _ _ _ _ => Sc
        refine r_setat (i' := i + (sgn t i ++ sgn t (i + 1)).length) (v := (i : Int) + ((sgn t i ++ sgn t (i + 1)).length : Nat)) (by assumption) S Sc (by omega) fun led'' s' S Sc => ?_
        repeat tb_rel
        exact ScanOr.some' rfl S Sc rfl
      · rw [if_neg (by rw [h3]; decide)]
        rename St _ _ _ _ _ _ => S
        refine x_raise (Cx.less (d' := 0 + 2) (by assumption) (by omega)) S rfl rfl ?_ rfl
        repeat tb_rel
        rename St _ _ _ _ _ _ => S
        refine r_strI S (by omega) fun y tk s' hy S => ?_
        refine r_cat S (cat_ok (by decide +kernel) (by omega)) fun tk s' S => ?_
        exact ⟨_, _, rfl, S, fun v' s' N => S.faultOr K N rfl rfl⟩
end
/- M23 -/
open PySem PySem.W PySem.Calls PyProof.Rows
set_option maxHeartbeats 200000
/-- what step() does at the place i -/
def stepOr (t : Str) (i : Nat) (ws : List Wd) : Option (Nat × List Wd) := match t.cps[i]? with
  | none => none
  | some c =>
    if (isFig c || (c == 46 && nextFig t (i + 1))) = true then some (numEnd t i, ws ++ [(sNum, sub t i (numEnd t i), (i : Int))])
    else if c = 39 ∨ c = 34 then litOr t c i ws
    else if c = 36 then varOr t i ws
    else if c = 42 then some (i + 1, ws ++ [(if isBehind ws = true then sOp else sName, Str.ofString "*", (i : Int))])
    else if isStart c = true ∧ c ≠ 58 then nameOr t i ws
    else markOr t i ws
theorem p_sg (c b : Nat) : ((⟨#[c]⟩ : Str) == ⟨#[b]⟩) = (c == b) := by rw [sg]; rfl
theorem p_dot (c : Nat) : ((⟨#[c]⟩ : Str) == Str.ofString ".") = (c == 46) := by rw [L_dot, p_sg]
theorem p_dol (c : Nat) : ((⟨#[c]⟩ : Str) == Str.ofString "$") = (c == 36) := by rw [L_dol, p_sg]
theorem p_star (c : Nat) : ((⟨#[c]⟩ : Str) == Str.ofString "*") = (c == 42) := by rw [L_star, p_sg]
theorem p_nco (c : Nat) : ((⟨#[c]⟩ : Str) != Str.ofString ":") = !(c == 58) := by rw [ne_not, L_co, p_sg]
theorem fig_next (t : Str) (j : Nat) (h : ¬ t.cps[j]? = none) : (!(Builtin.Str.occurrences (Str.ofString "0123456789") (sgn t j) 0 (Str.ofString "0123456789").length 1).isEmpty) = nextFig t j := by
  unfold nextFig
  cases hc : t.cps[j]? with
  | none => exact absurd hc h
  | some c => rw [sgn_some hc, fig_in]
theorem quo_in (c : Nat) : [Str.ofString "'", Str.ofString "\""].any (· == ⟨#[c]⟩) = (c == 39 || c == 34) := by
  rw [L_apo, L_quo, Bool.eq_iff_iff]
  simp
  omega
section
variable {w : World} {A : Around} {E : Value → Shared → Prop} {s s0 : Shared} {e : Ent} {g : Heap} {L x dx l f : Addr} {m : Str → Option Value} {led led₁ : Led} {d i i' c : Nat} {t : Str} {ws ws' : List Wd} {outer : List Env}
theorem step_num (hc : t.cps[i]? = some c) (h : (isFig c || (c == 46 && nextFig t (i + 1))) = true) : stepOr t i ws = some (numEnd t i, ws ++ [(sNum, sub t i (numEnd t i), (i : Int))]) := by unfold stepOr; rw [hc]; exact if_pos h
set_option maxHeartbeats 8000000 in
theorem k203 (C : Cx w g A (d + 7)) (H : Has g led s.heap) (K : Stk A outer g led s.heap) (Sc : Scan w g led x dx l t i ws) (ht : t.length ≤ sizeLine) (h6 : t.length ≤ 1000000) (hok : ∀ c ∈ t.cps.toList, okc c) (hi : i < t.length) (hw : ws.length ≤ 1000000) :
    codeAny (model PR w) A (.call (.ref 203) ⟨[.ref x], []⟩) (ScanOr w g led s outer x dx l t (stepOr t i ws) fun v => v = .none) s := by
  refine' enterE (binds := [("self", .ref x)]) ?C ?H ?ho ?hcd ?hb ?hl ?_ ?c1 ?c2 ?c3 ?c4; tb_start
  intro L s1 S C1
  have hil := Nat.le_of_lt hi
  obtain ⟨c, hc⟩ := at_lt hi
  have hcc : okc c := hok c (by
    rw [← Array.getElem?_toList] at hc
    exact List.mem_of_getElem? hc)
  refine x_assign ?_ (by rfl)
  tb_rel
  tb_rel
  tb_rel
  tb_rel
  rename St _ _ _ _ _ _ => S
  refine r_pureL S (k168' (d := 0) (C1.less (by omega)) S.hasL Sc ht) fun v s' hv S => ?_
  obtain ⟨tk, rfl⟩ := hv
  rw [sgn_some hc]
  have e1 : stepOr t i ws = if (isFig c || (c == 46 && nextFig t (i + 1))) = true then some (numEnd t i, ws ++ [(sNum, sub t i (numEnd t i), (i : Int))])
    else if c = 39 ∨ c = 34 then litOr t c i ws
    else if c = 36 then varOr t i ws
    else if c = 42 then some (i + 1, ws ++ [(if isBehind ws = true then sOp else sName, Str.ofString "*", (i : Int))])
    else if isStart c = true ∧ c ≠ 58 then nameOr t i ws
    else markOr t i ws := by unfold stepOr; rw [hc]
  tb_rel
  refine x_if ?_
  rename St _ _ _ _ _ _ => S
  refine wpAny_mono (Q := fun b s₂ => b = (isFig c || (c == 46 && nextFig t (i + 1))) ∧ Same S s₂) ?_ ?_ (fun _ _ h => h)
  · have S2 := S
    repeat tb_rel
    refine ite_b (fig_in c) ?_
    refine ite_c (fun h1 => ?_) (fun h1 => ?_)
    · rename St _ _ _ _ _ _ => S
      exact ⟨by rw [h1]; rfl, S⟩
    repeat tb_rel
    refine ite_b (p_dot c) ?_
    refine ite_c (fun h2 => ?_) (fun h2 => ?_)
    · repeat tb_rel
      refine ite_b (q_nnil _ _) ?_
      refine ite_c (fun h3 => ?_) (fun h3 => ?_)
      · have h3' : ¬ t.cps[i + 1]? = none := by
          intro h; rw [h] at h3; cases h3
        repeat tb_rel
        refine ite_b (fig_next _ _ h3') ?_
        refine ite_c (fun h4 => ?_) (fun h4 => ?_)
        · repeat tb_rel
          rename St _ _ _ _ _ _ => S
          exact ⟨by rw [h1, h2, h4]; rfl, S⟩
        · repeat tb_rel
          rename St _ _ _ _ _ _ => S
          exact ⟨by rw [h1, h2, h4]; rfl, S⟩
      · have h3' : t.cps[i + 1]? = none := by
          cases h : t.cps[i + 1]? with
          | none => rfl
          | some y => rw [h] at h3; cases h3
        repeat tb_rel
        rename St _ _ _ _ _ _ => S
        exact ⟨by rw [h1, h2]; unfold nextFig; rw [h3']; rfl, S⟩
    · repeat tb_rel
      rename St _ _ _ _ _ _ => S
      exact ⟨by rw [h1, h2]; rfl, S⟩
  rintro b s2 ⟨hb, S'⟩
  have S := (show St _ _ _ _ _ _ from S')
  clear S'
  refine ite_c (fun h5 => ?_) (fun h5 => ?_)
  · rw [h5] at hb
    rw [e1, if_pos hb.symm]
    repeat tb_rel
    rename St _ _ _ _ _ _ => S
    refine r_scan S (k210 (d := 0) (C1.less (by omega)) S.hasL Sc ht hil hw) fun v g' led' s' hv hg Sc S => ?_
    repeat tb_rel
    exact ScanOr.some' rfl S Sc rfl
  rw [h5] at hb
  rw [if_neg (fun h => by rw [← hb] at h; cases h)] at e1
  tb_rel
  rename St _ _ _ _ _ _ => S
  repeat tb_rel
  rename St _ _ _ _ _ _ => S
  refine r_newTuple S (by rw [sizeLine_eq]; exact Nat.le_of_ble_eq_true rfl) fun a s' S => ?_
  refine in_tuple_strs (ys := [Str.ofString "'", Str.ofString "\""]) ⟨_, S.get (.head _), rfl, _, rfl⟩ (.cons _ _ (.cons _ _ .nil)) ?_
  have S := S.drop0
  repeat tb_rel
  refine ite_b (quo_in c) ?_
  refine ite_c (fun hq => ?_) (fun hq => ?_)
  · rw [e1, if_pos (show c = 39 ∨ c = 34 by simpa using hq)]
    repeat tb_rel
    rename St _ _ _ _ _ _ => S
    refine r_or S (k224 (d := 0) (C1.less (by omega)) S.hasL (S.stk K rfl) Sc ht h6 hi hw) (fun i' ws' val g' led' s' hp hv hg Sc S => ?_) fun hp e' s' F => S.fliesOr K F (fun _ h => h) hp
    repeat tb_rel
    exact ScanOr.some' hp S Sc rfl
  rw [if_neg (show ¬ (c = 39 ∨ c = 34) by simpa using hq)] at e1
  repeat tb_rel
  refine ite_b (p_dol c) ?_
  refine ite_c (fun hq => ?_) (fun hq => ?_)
  · rw [e1, if_pos (show c = 36 from beq_iff_eq.mp hq)]
    repeat tb_rel
    rename St _ _ _ _ _ _ => S
    refine r_or S (k231 (d := 0) (C1.less (by omega)) S.hasL (S.stk K rfl) Sc ht h6 hok hi hw) (fun i' ws' val g' led' s' hp hv hg Sc S => ?_) fun hp e' s' F => S.fliesOr K F (fun _ h => h) hp
    repeat tb_rel
    exact ScanOr.some' hp S Sc rfl
  rw [if_neg (show ¬ c = 36 by simpa using hq)] at e1
  repeat tb_rel
  refine ite_b (p_star c) ?_
  refine ite_c (fun hq => ?_) (fun hq => ?_)
  · rw [e1, if_pos (show c = 42 from beq_iff_eq.mp hq)]
    repeat tb_rel
    rename St _ _ _ _ _ _ => S
    rename Scan _ _ _ _ _ _ _ _ _ => Sc
    refine r_setat (i' := i + 1) (v := ((i : Nat) : Int) + 1) (by assumption) S Sc (by omega) fun led'' s' S Sc => ?_
    repeat tb_rel
    refine ite_c (fun hb2 => ?_) (fun hb2 => ?_)
    · rw [if_pos hb2]
      repeat tb_rel
      rename St _ _ _ _ _ _ => S
      rename Scan _ _ _ _ _ _ _ _ _ => Sc
      exact ScanOr.some' (by rw [show ((i + 1 : Nat) : Int) - 1 = (i : Int) by omega]; rfl) S Sc rfl
    · rw [if_neg (by rw [hb2]; decide)]
      repeat tb_rel
      rename St _ _ _ _ _ _ => S
      rename Scan _ _ _ _ _ _ _ _ _ => Sc
      exact ScanOr.some' (by rw [show ((i + 1 : Nat) : Int) - 1 = (i : Int) by omega]; rfl) S Sc rfl
  rw [if_neg (show ¬ c = 42 by simpa using hq)] at e1
  repeat tb_rel
  rename St _ _ _ _ _ _ => S
  refine r_pure S (k59 (d := 0) (C1.less (by omega)) S.has0 hcc) fun v s' hv S => ?_
  subst hv
  repeat tb_rel
  refine ite_c (fun hq => ?_) (fun hq => ?_)
  · repeat tb_rel
    refine ite_b (p_nco c) ?_
    refine ite_c (fun hq2 => ?_) (fun hq2 => ?_)
    · rw [e1, if_pos (show isStart c = true ∧ c ≠ 58 from ⟨hq, by simpa using hq2⟩)]
      repeat tb_rel
      rename St _ _ _ _ _ _ => S
      refine r_or S (k252 (d := 0) (C1.less (by omega)) S.hasL (S.stk K rfl) Sc ht h6 hok hil hw) (fun i' ws' val g' led' s' hp hv hg Sc S => ?_) fun hp e' s' F => S.fliesOr K F (fun _ h => h) hp
      repeat tb_rel
      exact ScanOr.some' hp S Sc rfl
    · rw [e1, if_neg (show ¬ (isStart c = true ∧ c ≠ 58) from fun h => h.2 (by simpa using hq2))]
      repeat tb_rel
      rename St _ _ _ _ _ _ => S
      refine r_or S (k259 (d := 0) (C1.less (by omega)) S.hasL (S.stk K rfl) Sc ht h6 hil hw) (fun i' ws' val g' led' s' hp hv hg Sc S => ?_) fun hp e' s' F => S.fliesOr K F (fun _ h => h) hp
      repeat tb_rel
      exact ScanOr.some' hp S Sc rfl
  · rw [e1, if_neg (show ¬ (isStart c = true ∧ c ≠ 58) from fun h => by rw [h.1] at hq; cases hq)]
    repeat tb_rel
    rename St _ _ _ _ _ _ => S
    refine r_or S (k259 (d := 0) (C1.less (by omega)) S.hasL (S.stk K rfl) Sc ht h6 hil hw) (fun i' ws' val g' led' s' hp hv hg Sc S => ?_) fun hp e' s' F => S.fliesOr K F (fun _ h => h) hp
    repeat tb_rel
    exact ScanOr.some' hp S Sc rfl
end
/- M24 -/
open PySem PySem.W PySem.Calls PyProof.Rows
set_option maxHeartbeats 200000
theorem numEnd_gt {t : Str} {i c : Nat} (hc : t.cps[i]? = some c) (h : (isFig c || (c == 46 && nextFig t (i + 1))) = true) : i < numEnd t i := by
  cases hf : isFig c with
  | true =>
    have h1 := spanTo_step hc hf
    have h2 := spanTo_ge isFig t (i + 1)
    have h3 := spanTo_ge isFig t (spanTo isFig t i + 1)
    unfold numEnd
    split <;> omega
  | false =>
    rw [hf, Bool.false_or, Bool.and_eq_true] at h
    have hs := spanTo_stop hc hf
    have h46 : c = 46 := beq_iff_eq.mp h.1
    have h2 := spanTo_ge isFig t (i + 1)
    unfold numEnd
    rw [hs, if_pos]
    · omega
    · rw [hc, h46, Bool.and_eq_true]
      refine ⟨by simp, ?_⟩
      have hn := h.2
      unfold nextFig at hn
      cases hd : t.cps[i + 1]? with
      | none => rw [hd] at hn; cases hn
      | some y =>
        rw [hd] at hn
        have : y ≠ 46 := by intro q; rw [q] at hn; revert hn; decide
        simp [this]
theorem nmC_of {c : Nat} (h : isStart c = true) (h2 : c ≠ 58) : nmC c = true := by simp [nmC, isNameC, h, h2]
theorem nameEnd_gt {t : Str} {i c : Nat} (hc : t.cps[i]? = some c) (h : isStart c = true) (h2 : c ≠ 58) : i < nameEnd t i := by
  have e : nameEnd t i = spanTo nmC t i := by unfold nameEnd; rw [hc]; simp [h, h2]
  rw [e, ← spanTo_step hc (nmC_of h h2)]
  exact spanTo_ge ..
theorem qual_ge {t : Str} {i : Nat} {p : Nat × Str} (h : qual t i = some p) : nameEnd t i ≤ p.1 := by
  unfold qual at h
  split at h
  · cases h; exact Nat.le_refl _
  · split at h
    · cases h; exact Nat.le_add_right ..
    · have h4 := nameEnd_ge t (nameEnd t i + 1)
      split at h
      · cases h
      · cases h; exact Nat.le_of_succ_le h4
theorem pairs_len {y : Str} (h : PAIRS.any (· == y) = true) : y.length = 2 := by
  rw [List.any_eq_true] at h
  obtain ⟨z, hz, e⟩ := h
  have e := beq_iff_eq.mp e
  subst e
  have : ∀ z ∈ PAIRS, z.length = 2 := by decide +kernel
  exact this z hz
theorem markText_gt {t : Str} {i : Nat} (hi : i < t.length) : 0 < (markText t i).length ∧ i + (markText t i).length ≤ t.length := by
  obtain ⟨c, hc⟩ := at_lt hi
  have h1 : (sgn t i).length = 1 := by rw [sgn_some hc]; rfl
  unfold markText
  split
  · rename_i h
    have h2 := pairs_len h
    rw [h2]
    rw [Str.length_append, h1] at h2
    have h3 : i + 1 < t.length := by
      cases hd : t.cps[i + 1]? with
      | none => rw [sgn_none hd] at h2; cases h2
      | some y => exact lt_of_at hd
    omega
  · rw [h1]; omega
theorem stepOr_go {t : Str} {i : Nat} {ws : List Wd} {p : Nat × List Wd} (h : stepOr t i ws = some p) (hi : i < t.length) : i < p.1 ∧ p.1 ≤ t.length ∧ p.2.length = ws.length + 1 := by
  obtain ⟨c, hc⟩ := at_lt hi
  unfold stepOr at h
  rw [hc] at h
  dsimp only at h
  split at h
  · rename_i h1
    cases h
    exact ⟨numEnd_gt hc h1, numEnd_le (Nat.le_of_lt hi), by simp⟩
  split at h
  · unfold litOr at h
    split at h
    · cases h
      have := spanTo_ge (· != c) t (i + 1)
      refine ⟨?_, by assumption, by simp⟩
      show i < spanTo (· != c) t (i + 1) + 1
      omega
    · cases h
  split at h
  · unfold varOr at h
    split at h
    · cases h
    · rename_i q hq
      have hb := qual_bound hq hi
      split at h
      · cases h
      · cases h; exact ⟨hb.1, hb.2.1, by simp⟩
  split at h
  · cases h; exact ⟨Nat.lt_succ_self _, hi, by simp⟩
  split at h
  · rename_i h1
    have hg := nameEnd_gt hc h1.1 h1.2
    have hl := nameEnd_le (Nat.le_of_lt hi)
    unfold nameOr at h
    split at h
    · split at h
      · cases h; exact ⟨hg, hl, by simp⟩
      · cases h
    · split at h
      · cases h
      · rename_i q hq
        have hb := qual_bound hq (Nat.le_of_lt hi)
        have hb2 := qual_ge hq
        have h3 := spanTo_ge isSp t q.1
        have h4 : spanTo isSp t q.1 ≤ t.length := spanTo_le hb.2.1
        split at h
        · cases h; exact ⟨by show i < spanTo isSp t q.1; omega, h4, by simp⟩
        split at h
        · cases h; exact ⟨by show i < spanTo isSp t q.1; omega, h4, by simp⟩
        · cases h; exact ⟨by show i < q.1; omega, hb.2.1, by simp⟩
  · have hm := markText_gt hi
    unfold markOr at h
    split at h
    · cases h; exact ⟨by show i < i + _; omega, hm.2, by simp⟩
    split at h
    · cases h; exact ⟨by show i < i + _; omega, hm.2, by simp⟩
    · cases h
/-- the whole scan -/
def scanF (t : Str) : Nat → Nat → List Wd → Option (List Wd)
  | 0, _, _ => none
  | n + 1, i, ws => if i < t.length then (match stepOr t i ws with | none => none | some p => scanF t n (spanTo isSp t p.1) p.2) else some (ws ++ [(sEnd, Str.ofString "", (i : Int))])
def words (t : Str) : Option (List Wd) := scanF t (t.length + 1) (spanTo isSp t 0) []
def RunOr (w : World) (g : Heap) (led : Led) (s : Shared) (outer : List Env) (x dx l : Addr) (t : Str) (r : Result) (s' : Shared) : Prop := match words t with
  | some ws => ∃ i, i ≤ t.length ∧ ScanTo w g led s x dx l t i ws (fun v => v = .ref l) r s'
  | none => ∃ e, r = .error e ∧ Flies outer led s e s'
section
variable {w : World} {A : Around} {E : Value → Shared → Prop} {s s0 : Shared} {e : Ent} {g : Heap} {L x dx l f : Addr} {m : Str → Option Value} {led led₁ : Led} {d i i' c : Nat} {t : Str} {ws ws' : List Wd} {outer : List Env}
set_option maxHeartbeats 8000000 in
theorem k182 (C : Cx w g A (d + 8)) (H : Has g led s.heap) (K : Stk A outer g led s.heap) (Sc : Scan w g led x dx l t 0 []) (ht : t.length ≤ sizeLine) (h6 : t.length ≤ 1000000) (hok : ∀ c ∈ t.cps.toList, okc c) :
    codeAny (model PR w) A (.call (.ref 182) ⟨[.ref x], []⟩) (RunOr w g led s outer x dx l t) s := by
  refine' enterE (binds := [("self", .ref x)]) ?C ?H ?ho ?hcd ?hb ?hl ?_ ?c1 ?c2 ?c3 ?c4; tb_start
  intro L s1 S C1
  repeat tb_rel
  rename St _ _ _ _ _ _ => S
  rename Scan _ _ _ _ _ _ _ _ _ => Sc
  have hsp : spanTo isSp t 0 ≤ t.length := spanTo_le (Nat.zero_le _)
  refine x_whileE PassesOwn.leaving (fun n s => ∃ i' ws' g' led', t.length - i' < n ∧ i' ≤ t.length ∧ ws'.length ≤ i' ∧ g.StaysIn g' ∧ Scan w g' led' x dx l t i' ws' ∧ St _ g' L _ led' s ∧ scanF t n i' ws' = words t) (t.length + 1)
    ⟨_, [], _, _, by omega, hsp, Nat.zero_le _, S.ran.le, Sc, S, rfl⟩ ?_
  clear S Sc
  rintro n s2 ⟨i', ws', g', led', hn, hi', hw', hg', Sc, S, hs⟩
  obtain ⟨n, rfl⟩ : ∃ k, n = k + 1 := ⟨n - 1, by omega⟩
  have C2 := C1.mono hg'
  have S2 := S
  repeat tb_rel
  refine ite_c (fun h1 => ?_) (fun h1 => ?_)
  · have h1' : i' < t.length := by simp at h1; omega
    unfold scanF at hs
    rw [if_pos h1'] at hs
    repeat tb_rel
    rename St _ _ _ _ _ _ => S
    refine r_or S (k203 (d := 0) (C2.less (by omega)) S.hasL (S.stk K rfl) Sc ht h6 hok h1' (by omega)) (fun i'' ws'' val g'' led'' s' hp hv hg Sc S => ?_) fun hp e' s' F => ?_
    · have hgo := stepOr_go hp h1'
      have C3 := C2.mono hg
      rw [hp] at hs
      dsimp only at hs hgo
      have q1 := spanTo_ge isSp t i''
      have q2 : spanTo isSp t i'' ≤ t.length := spanTo_le hgo.2.1
      repeat tb_rel
      rename St _ _ _ _ _ _ => S
      rename Scan _ _ _ _ _ _ _ _ _ => Sc
      exact ⟨n, Nat.lt_succ_self _, _, _, _, _, by omega, q2, by omega, S.ran.le, Sc, S, hs⟩
    · refine S.flies (R := fun v s'' => RunOr w g led s outer x dx l t (.error v) s'') K F (fun _ h => h) fun s'' F => ?_
      have : words t = none := by rw [← hs, hp]
      unfold RunOr
      rw [this]
      exact ⟨_, rfl, F⟩
  · have h1' : ¬ i' < t.length := by simp at h1; omega
    unfold scanF at hs
    rw [if_neg h1'] at hs
    have hw : ws'.length ≤ 1000000 := by omega
    repeat tb_rel
    rename St _ _ _ _ _ _ => S
    rename Scan _ _ _ _ _ _ _ _ _ => Sc
    unfold RunOr
    rw [← hs]
    exact ⟨i', hi', S.scanTo Sc rfl⟩
end
/- M25 -/
open PySem PySem.W PySem.Calls PyProof.Rows
set_option maxHeartbeats 200000
/-- path_words gives back the frozen list of words, or a fault flies -/
def PathOr (w : World) (g : Heap) (led : Led) (s : Shared) (outer : List Env) (t : Str) (r : Result) (s' : Shared) : Prop := match words t with
  | some ws => ∃ l items k g', r = .ok (.ret (.ref l)) ∧ g'.get? l = some (lstObj items k) ∧ Words w g' items.toList ws ∧ Ran g led s g' led s'
  | none => ∃ e, r = .error e ∧ Flies outer led s e s'
section
variable {w : World} {A : Around} {E : Value → Shared → Prop} {s s0 : Shared} {e : Ent} {g : Heap} {L x dx l f : Addr} {m : Str → Option Value} {led led₁ : Led} {d i i' c : Nat} {t : Str} {ws ws' : List Wd} {outer : List Env}
set_option maxHeartbeats 4000000 in
theorem k160 {a : Tok} (C : Cx w g A (d + 1)) (H : Has g [(dx, dictOf [] 0), (x, instObj 262 dx)] s.heap) :
    codeAny (model PR w) A (.call (.ref 160) ⟨[.ref x, .str t a], []⟩)
      (fun r s' => r = .ok (.ret .none) ∧ ∃ l led', Scan w g led' x dx l t 0 [] ∧ Ran g [(dx, dictOf [] 0), (x, instObj 262 dx)] s g led' s') s := by
  refine' enter (binds := [("self", .ref x), ("text", .str t a)]) ?C ?H ?ho ?hcd ?hb ?hl ?_ ?c1 ?c2 ?c3 ?c4; tb_start
  intro L s1 S C1
  repeat tb_rel
  rename St _ _ _ _ _ _ => S
  refine r_set (Cl := 262) C1 S (S.get (.tail _ (.head _))) (by k_is) (by k_is) (by k_is) (by k_is) (by rfl) (by exact Nat.le_of_ble_eq_true rfl) fun t1 n' s' S _ => ?_
  repeat tb_rel
  rename St _ _ _ _ _ _ => S
  refine r_set (Cl := 262) C1 S (S.get (.tail _ (.head _))) (by k_is) (by k_is) (by k_is) (by k_is) (by rfl) (by exact Nat.le_of_ble_eq_true rfl) fun t2 n' s' S _ => ?_
  repeat tb_rel
  rename St _ _ _ _ _ _ => S
  refine r_newList S (by decide) fun l s' S => ?_
  repeat tb_rel
  rename St _ _ _ _ _ _ => S
  have S := S.perm (.swap _ _ _)
  refine r_set (Cl := 262) C1 S (S.get (.tail _ (.tail _ (.head _)))) (by k_is) (by k_is) (by k_is) (by k_is) (by rfl) (by exact Nat.le_of_ble_eq_true rfl) fun t3 n' s' S _ => ?_
  repeat tb_rel
  exact ⟨rfl, l, _, ⟨t1, t2, t3, a, _, n', 0, #[], rfl, .nil⟩, S.ran⟩
theorem r_scanner {a : Tok} {Q : Value → Shared → Prop} (C : Cx w g A (d + 2)) (S : St e g L m led s)
    (h : ∀ x dx l led₁ s', Scan w g led₁ x dx l t 0 [] → St e g L m (led₁ ++ led) s' → Q (.ref x) s') : wpAny (model PR w) A (call (.ref 262) [.str t a] []) Q E s := by
  refine r_make (fI := 160) C S (by k_is) (by k_is) (by k_is) fun x dx s' S => ?_
  have S1 : St e g L m ([(dx, dictOf [] 0), (x, instObj 262 dx)] ++ led) s' := S.perm (.swap _ _ _)
  have H : Has g [(dx, dictOf [] 0), (x, instObj 262 dx)] s'.heap := ⟨S1.keep, fun p hp => S1.ran.has.at_ p (List.mem_append_left _ hp), by
    have := S1.ran.has.nd
    rw [List.map_append, List.nodup_append] at this
    exact this.1⟩
  refine codeAny_mono (k160 C.underMake H) fun r s'' ⟨hr, l, led', Sc, R⟩ => ⟨hr, ?_⟩
  exact h _ _ _ _ _ Sc (S1.ret R)
set_option maxHeartbeats 4000000 in
theorem k273 {a : Tok} (C : Cx w g A (d + 9)) (H : Has g [] s.heap) (K : Stk A outer g [] s.heap) (ht : t.length ≤ sizeLine) (h6 : t.length ≤ 1000000) (hok : ∀ c ∈ t.cps.toList, okc c) :
    codeAny (model PR w) A (.call (.ref 273) ⟨[.str t a], []⟩) (PathOr w g [] s outer t) s := by
  refine' enterE (binds := [("text", .str t a)]) ?C ?H ?ho ?hcd ?hb ?hl ?_ ?c1 ?c2 ?c3 ?c4; tb_start
  intro L s1 S C1
  repeat tb_rel
  rename St _ _ _ _ _ _ => S
  refine r_scanner (Cx.less (d' := 0 + 2) C1 (by omega)) S fun x dx l led₁ s' Sc S => ?_
  rw [List.append_nil] at S
  have S2 := S
  repeat tb_rel
  rename St _ _ _ _ _ _ => S
  refine wpAny_call (codeAny_mono (k182 (d := 0) (C1.less (by omega)) S.hasL (S.stk K rfl) Sc ht h6 hok) fun r s' q => ?_)
  unfold RunOr at q
  cases hw : words t with
  | some ws =>
    rw [hw] at q
    obtain ⟨i, hi, val, g', led', rfl, rfl, Sc, R⟩ := q
    have S3 := St.ret (led₁ := led₁) (led₁' := led') (rest := []) (by rw [List.append_nil]; exact S) R
    obtain ⟨b1, b2, b3, p1, p2, n, k, items, rfl, W⟩ := Sc
    obtain ⟨g'', hg, S4, hf⟩ := S3.freeze
    repeat tb_rel
    unfold PathOr
    rw [hw]
    exact ⟨l, items, k, g'', rfl, hf _ (.tail _ (.head _)), W.mono hg, S4.ran⟩
  | none =>
    rw [hw] at q
    obtain ⟨e', rfl, F⟩ := q
    refine S.flies (R := fun v s'' => PathOr w g [] s outer t (.error v) s'') K F (fun _ h => h) fun s'' F => ?_
    unfold PathOr
    rw [hw]
    exact ⟨_, rfl, F⟩
end
end Mine
/- M40 -/
namespace Mine
open PySem PySem.W PySem.Calls PyProof.Rows
set_option maxHeartbeats 200000

/-- Z is what the text t holds from the place i on -/
def At (t : Str) (i : Nat) (Z : List Nat) : Prop := t.cps.toList.drop i = Z ∧ i ≤ t.length
theorem tl_len (t : Str) : t.cps.toList.length = t.length := Array.length_toList
theorem At.get {t : Str} {i : Nat} {Z : List Nat} (h : At t i Z) (j : Nat) : t.cps[i + j]? = Z[j]? := by
  rw [← h.1, List.getElem?_drop, Array.getElem?_toList]
theorem At.get0 {t : Str} {i : Nat} {Z : List Nat} (h : At t i Z) : t.cps[i]? = Z.head? := by
  have := h.get 0
  rw [Nat.add_zero] at this
  rw [this, List.head?_eq_getElem?]
theorem At.len {t : Str} {i : Nat} {Z : List Nat} (h : At t i Z) : t.length = i + Z.length := by
  have h1 := congrArg List.length h.1
  rw [List.length_drop, tl_len] at h1
  have := h.2
  omega
theorem At.skip {t : Str} {i : Nat} {y Z : List Nat} (h : At t i (y ++ Z)) : At t (i + y.length) Z := by
  have h1 := h.len
  rw [List.length_append] at h1
  refine ⟨?_, by omega⟩
  rw [← List.drop_drop, h.1]; exact List.drop_left
theorem At.skip1 {t : Str} {i c : Nat} {Z : List Nat} (h : At t i (c :: Z)) : At t (i + 1) Z := At.skip (y := [c]) h
theorem At.span {t : Str} {i : Nat} {Z : List Nat} (h : At t i Z) (p : Nat → Bool) : spanTo p t i = i + (Z.takeWhile p).length := by unfold spanTo; rw [h.1]
theorem At.sub {t : Str} {i : Nat} {y Z : List Nat} (h : At t i (y ++ Z)) : sub t i (i + y.length) = ⟨y.toArray⟩ := by
  unfold Mine.sub
  rw [h.1, Nat.add_sub_cancel_left, List.take_left]
theorem tw {p : Nat → Bool} : ∀ {y R : List Nat}, (∀ c ∈ y, p c = true) → (∀ c, R.head? = some c → p c = false) → (y ++ R).takeWhile p = y
  | [], [], _, _ => rfl
  | [], c :: R, _, h => by rw [List.nil_append, List.takeWhile_cons_of_neg (by rw [h c rfl]; decide)]
  | a :: y, R, h1, h2 => by
    rw [List.cons_append, List.takeWhile_cons_of_pos (h1 a (.head _)), tw (fun c hc => h1 c (.tail _ hc)) h2]
def BD : List Nat := [32, 9, 10, 41, 93, 91, 44]
def Bd (R : List Nat) : Prop := ∀ c, R.head? = some c → c ∈ BD
theorem Bd.no {R : List Nat} (h : Bd R) (p : Nat → Bool) (hp : ∀ c ∈ BD, p c = false) : ∀ c, R.head? = some c → p c = false := fun c hc => hp c (h c hc)
theorem Bd.ne {R : List Nat} (h : Bd R) {b : Nat} (hp : b ∉ BD) : R.head? ≠ some b := fun hc => hp (h b hc)
theorem mk_list (x : Str) : (⟨x.cps.toList.toArray⟩ : Str) = x := by rw [Array.toArray_toList]
/- numbers -/
theorem num1 {t : Str} {i : Nat} {a R : List Nat} (h : At t i (a ++ R)) (ha : ∀ c ∈ a, isFig c = true) (hR : Bd R) : numEnd t i = i + a.length := by
  have h1 : spanTo isFig t i = i + a.length := by rw [h.span, tw ha (hR.no _ (by decide))]
  unfold numEnd
  rw [h1, h.skip.get0, if_neg]
  rw [beq_eq_false_iff_ne.mpr (hR.ne (by decide))]; simp
theorem num2 {t : Str} {i : Nat} {a b R : List Nat} (h : At t i (a ++ 46 :: (b ++ R))) (ha : ∀ c ∈ a, isFig c = true) (hb : ∀ c ∈ b, isFig c = true) (hR : Bd R) : numEnd t i = i + a.length + 1 + b.length := by
  have h1 : spanTo isFig t i = i + a.length := by rw [h.span, tw ha (by rintro c ⟨⟩; decide)]
  have h2 := h.skip.skip1
  have h3 : spanTo isFig t (i + a.length + 1) = i + a.length + 1 + b.length := by rw [h2.span, tw hb (hR.no _ (by decide))]
  unfold numEnd
  rw [h1, h.skip.get0, h2.get0, if_pos, h3]
  rw [Bool.and_eq_true]
  refine ⟨rfl, ?_⟩
  rw [Bool.not_eq_true', beq_eq_false_iff_ne]
  cases b with
  | nil => exact hR.ne (by decide)
  | cons c b =>
    intro e
    cases e
    exact absurd (hb 46 (.head _)) (by decide)
def numOk (y : List Nat) : Bool :=
  let a := y.takeWhile isFig
  a.all isFig && ((!a.isEmpty && y == a) || (y == a ++ 46 :: y.drop (a.length + 1) && (y.drop (a.length + 1)).all isFig && !(a.isEmpty && (y.drop (a.length + 1)).isEmpty)))
theorem st_num {t : Str} {i : Nat} {y R : List Nat} {ws : List Wd} (hy : numOk y = true) (h : At t i (y ++ R)) (hR : Bd R) : stepOr t i ws = some (i + y.length, ws ++ [(sNum, ⟨y.toArray⟩, (i : Int))]) := by
  have key : numEnd t i = i + y.length ∧ ∃ c, t.cps[i]? = some c ∧ (isFig c || (c == 46 && nextFig t (i + 1))) = true := by
    unfold numOk at hy
    dsimp only at hy
    generalize ha : y.takeWhile isFig = a at hy
    generalize y.drop (a.length + 1) = b at hy
    simp only [Bool.and_eq_true, Bool.or_eq_true, List.all_eq_true, beq_iff_eq] at hy
    obtain ⟨hf, ⟨h1, h2⟩ | ⟨⟨h1, h2⟩, h3⟩⟩ := hy
    · subst h2
      rw [num1 h hf hR]
      refine ⟨rfl, ?_⟩
      cases y with
      | nil => cases h1
      | cons c a' => exact ⟨c, h.get0, by rw [hf c (.head _)]; rfl⟩
    · rw [h1, List.append_assoc] at h
      have h' : At t i (a ++ 46 :: (b ++ R)) := h
      refine ⟨by rw [num2 h' hf h2 hR, h1]; simp; omega, ?_⟩
      cases a with
      | cons c a' => exact ⟨c, h.get0, by rw [hf c (.head _)]; rfl⟩
      | nil =>
        refine ⟨46, h.get0, ?_⟩
        have h5 := h'.skip1
        cases b with
        | nil => cases h3
        | cons c b' =>
          unfold nextFig
          rw [h5.get0]
          show (isFig 46 || (46 == 46 && isFig c)) = true
          rw [h2 c (.head _)]; rfl
  obtain ⟨k1, c, k2, k3⟩ := key
  unfold stepOr
  rw [k2]
  dsimp only
  rw [if_pos k3, k1, h.sub]
/- names -/
def nameOk : List Nat → Bool
  | [] => false
  | c :: a => isStart c && c != 58 && (c :: a).all nmC
theorem nameEnd_ok {t : Str} {i : Nat} {a R : List Nat} (ha : nameOk a = true) (h : At t i (a ++ R)) (hR : ∀ c, R.head? = some c → nmC c = false) : nameEnd t i = i + a.length := by
  cases a with
  | nil => cases ha
  | cons c a =>
    unfold nameOk at ha
    simp only [Bool.and_eq_true, bne_iff_ne] at ha
    obtain ⟨⟨h1, h2⟩, h3⟩ := ha
    have hc : t.cps[i]? = some c := h.get0
    unfold nameEnd
    rw [hc]
    dsimp only
    rw [if_neg (by rw [h1, beq_eq_false_iff_ne.mpr h2]; decide), h.span, tw (List.all_eq_true.mp h3) hR]
def qualOk (y : List Nat) : Bool :=
  let a := y.takeWhile nmC
  nameOk a && (y == a || y == a ++ [58, 42] || (y == a ++ 58 :: y.drop (a.length + 1) && nameOk (y.drop (a.length + 1))))
theorem app_mk (a b : List Nat) : ((⟨a.toArray⟩ : Str) ++ (⟨b.toArray⟩ : Str)) = ⟨(a ++ b).toArray⟩ := by
  show Str.mk _ = _
  simp
theorem L_coL : Str.ofString ":" = ⟨[58].toArray⟩ := by decide +kernel
theorem L_costar : Str.ofString ":*" = ⟨[58, 42].toArray⟩ := by decide +kernel
theorem qual_ok {t : Str} {i : Nat} {y R : List Nat} (hy : qualOk y = true) (h : At t i (y ++ R)) (hR : Bd R) : qual t i = some (i + y.length, ⟨y.toArray⟩) := by
  unfold qualOk at hy
  dsimp only at hy
  generalize ha : y.takeWhile nmC = a at hy
  generalize y.drop (a.length + 1) = b at hy
  simp only [Bool.and_eq_true, Bool.or_eq_true, beq_iff_eq] at hy
  obtain ⟨hn, (h1 | h1) | ⟨h1, h2⟩⟩ := hy
  · subst h1
    have e := nameEnd_ok hn h (hR.no _ (by decide))
    unfold qual
    rw [e, if_pos (.inr (.inl (by rw [h.skip.get0]; exact hR.ne (by decide)))), h.sub]
  · rw [h1, List.append_assoc] at h
    have e := nameEnd_ok hn h (by rintro c ⟨⟩; decide)
    have hne : a.length ≠ 0 := by cases a with | nil => cases hn | cons => simp
    have g1 : t.cps[i + a.length]? = some 58 := h.skip.get0
    have g2 : t.cps[i + a.length + 1]? = some 42 := h.skip.skip1.get0
    unfold qual
    rw [e, if_neg (by rw [g1, g2]; rintro (h | h | h); · omega
                      · exact h rfl
                      · cases h), if_pos g2, h.sub, L_costar, app_mk, h1]
    simp; omega
  · rw [h1, List.append_assoc] at h
    have h : At t i (a ++ 58 :: (b ++ R)) := h
    have e := nameEnd_ok hn h (by rintro c ⟨⟩; decide)
    have hne : a.length ≠ 0 := by cases a with | nil => cases hn | cons => simp
    have g1 : t.cps[i + a.length]? = some 58 := h.skip.get0
    have e2 := nameEnd_ok h2 h.skip.skip1 (hR.no _ (by decide))
    obtain ⟨c, b', rfl⟩ : ∃ c b', b = c :: b' := by cases b with | nil => cases h2 | cons c b' => exact ⟨c, b', rfl⟩
    have g2 : t.cps[i + a.length + 1]? = some c := h.skip.skip1.get0
    have hc : isStart c = true ∧ c ≠ 58 := by
      unfold nameOk at h2
      simp only [Bool.and_eq_true, bne_iff_ne] at h2
      exact h2.1
    unfold qual
    rw [e, if_neg (by rw [g1, g2]; rintro (h | h | h); · omega
                      · exact h rfl
                      · exact hc.2 (Option.some.inj h)), if_neg (by rw [g2]; rintro ⟨⟩; exact absurd hc.1 (by decide)), e2, if_neg (by simp), h.sub, h.skip.skip1.sub, L_coL, app_mk, app_mk, h1]
    simp; omega
/- the first sign tells the way -/
theorem start_cls {c : Nat} (h : isStart c = true) : isFig c = false ∧ c ≠ 46 ∧ c ≠ 39 ∧ c ≠ 34 ∧ c ≠ 36 ∧ c ≠ 42 := by
  unfold isStart isLow at h
  unfold isFig
  split at h
  · simp only [Bool.or_eq_true, decide_eq_true_eq, beq_iff_eq] at h
    rw [decide_eq_false_iff_not]
    omega
  · rw [decide_eq_false_iff_not]
    omega
theorem st_name {t : Str} {i c : Nat} {Z : List Nat} {ws : List Wd} (h : At t i (c :: Z)) (h1 : isStart c = true) (h2 : c ≠ 58) : stepOr t i ws = nameOr t i ws := by
  obtain ⟨a1, a2, a3, a4, a5, a6⟩ := start_cls h1
  have hc : t.cps[i]? = some c := h.get0
  unfold stepOr
  rw [hc]
  dsimp only
  rw [if_neg (by rw [a1, beq_eq_false_iff_ne.mpr a2]; simp), if_neg (by omega), if_neg a5, if_neg a6, if_pos ⟨h1, h2⟩]
theorem st_lit {t : Str} {i q : Nat} {x R : List Nat} {ws : List Wd} (hq : q = 39 ∨ q = 34) (hx : q ∉ x) (h : At t i (q :: (x ++ q :: R))) : stepOr t i ws = some (i + x.length + 2, ws ++ [(sLit, ⟨x.toArray⟩, (i : Int))]) := by
  have hc : t.cps[i]? = some q := h.get0
  have e : litEnd t q i = i + 1 + x.length := by
    unfold litEnd
    rw [h.skip1.span, tw (fun c hm => by rw [bne_iff_ne]; rintro rfl; exact hx hm) (by rintro c ⟨⟩; simp)]
  have hl := h.len
  unfold stepOr
  rw [hc]
  dsimp only
  rw [if_neg (by rcases hq with rfl | rfl <;> simp [isFig]), if_pos hq]
  unfold litOr
  rw [e, if_pos (by simp at hl; omega), h.skip1.sub]
  congr 2
  omega
theorem st_var {t : Str} {i : Nat} {x R : List Nat} {ws : List Wd} (hx : qualOk x = true) (hs : starE ⟨x.toArray⟩ = false) (h : At t i (36 :: (x ++ R))) (hR : Bd R) : stepOr t i ws = some (i + 1 + x.length, ws ++ [(sVar, ⟨x.toArray⟩, (i : Int))]) := by
  have hc : t.cps[i]? = some 36 := h.get0
  unfold stepOr
  rw [hc]
  dsimp only
  rw [if_neg (by simp [isFig]), if_neg (by decide), if_pos rfl]
  unfold varOr
  rw [qual_ok hx h.skip1 hR]
  dsimp only
  rw [if_neg]
  rw [hs]
  rintro (e | e)
  · have e := beq_iff_eq.mp e
    rw [L_none] at e
    have e := congrArg (fun s : Str => s.cps.toList) e
    simp at e
    subst e
    exact absurd hx (by decide)
  · cases e
theorem st_star {t : Str} {i : Nat} {R : List Nat} {ws : List Wd} (h : At t i (42 :: R)) : stepOr t i ws = some (i + 1, ws ++ [(if isBehind ws = true then sOp else sName, Str.ofString "*", (i : Int))]) := by
  have hc : t.cps[i]? = some 42 := h.get0
  unfold stepOr
  rw [hc]
  dsimp only
  rw [if_neg (by simp [isFig]), if_neg (by decide), if_neg (by decide), if_pos rfl]
/-- what stands behind the blanks -/
def nb (R : List Nat) : List Nat := R.dropWhile isSp
theorem tw_dw (p : Nat → Bool) (R : List Nat) : R.takeWhile p ++ R.dropWhile p = R := List.takeWhile_append_dropWhile
theorem At.blank {t : Str} {i : Nat} {R : List Nat} (h : At t i R) : At t (spanTo isSp t i) (nb R) := by
  rw [h.span]
  have h2 : At t i (R.takeWhile isSp ++ nb R) := by unfold nb; rw [tw_dw]; exact h
  exact h2.skip
theorem nb_head (R : List Nat) : ∀ c, (nb R).head? = some c → isSp c = false := by
  intro c hc
  unfold nb at hc
  have := List.head?_dropWhile_not (p := isSp) R
  rw [hc] at this
  simpa using this
theorem At.blank2 {t : Str} {i : Nat} {R : List Nat} (h : At t i R) : spanTo isSp t (spanTo isSp t i) = spanTo isSp t i := by
  rw [h.blank.span]
  have : (nb R).takeWhile isSp = [] := by
    have := tw (p := isSp) (y := []) (R := nb R) (by simp) (nb_head R)
    simpa using this
  rw [this]; rfl
theorem name_fun {t : Str} {i : Nat} {y R : List Nat} {ws : List Wd} (hb : isBehind ws = false) (hy : qualOk y = true) (h : At t i (y ++ R)) (hR : Bd R) (hs : starE ⟨y.toArray⟩ = false) (hn : (nb R).head? = some 40) :
    nameOr t i ws = some (spanTo isSp t (i + y.length), ws ++ [(if KINDS.any (· == ⟨y.toArray⟩) = true then sKind else sFun, ⟨y.toArray⟩, (i : Int))]) := by
  unfold nameOr
  rw [if_neg (by rw [hb]; decide), qual_ok hy h hR]
  dsimp only
  rw [if_pos ⟨by rw [h.skip.blank.get0]; exact hn, by rw [hs]; decide⟩]
theorem name_axis {t : Str} {i : Nat} {y R r : List Nat} {ws : List Wd} (hb : isBehind ws = false) (hy : qualOk y = true) (h : At t i (y ++ R)) (hR : Bd R) (hn : nb R = 58 :: 58 :: r) :
    nameOr t i ws = some (spanTo isSp t (i + y.length), ws ++ [(sAxis, ⟨y.toArray⟩, (i : Int))]) := by
  have h2 := h.skip.blank
  rw [hn] at h2
  unfold nameOr
  rw [if_neg (by rw [hb]; decide), qual_ok hy h hR]
  dsimp only
  rw [if_neg (by rw [h2.get0]; rintro ⟨e, _⟩; cases e), if_pos ⟨h2.get0, h2.skip1.get0⟩]
theorem name_name {t : Str} {i : Nat} {y R : List Nat} {ws : List Wd} (hb : isBehind ws = false) (hy : qualOk y = true) (h : At t i (y ++ R)) (hR : Bd R) (hn : (nb R).head? ≠ some 40) (hn2 : (nb R).head? ≠ some 58) :
    nameOr t i ws = some (i + y.length, ws ++ [(sName, ⟨y.toArray⟩, (i : Int))]) := by
  have h2 := h.skip.blank
  unfold nameOr
  rw [if_neg (by rw [hb]; decide), qual_ok hy h hR]
  dsimp only
  rw [if_neg (by rw [h2.get0]; rintro ⟨e, _⟩; exact hn e), if_neg (by rw [h2.get0]; rintro ⟨e, _⟩; exact hn2 e)]
theorem name_op {t : Str} {i : Nat} {y R : List Nat} {ws : List Wd} (hb : isBehind ws = true) (hy : nameOk y = true) (h : At t i (y ++ R)) (hR : Bd R) (hw : (⟨y.toArray⟩ : Str) ∈ WOPS) :
    nameOr t i ws = some (i + y.length, ws ++ [(sOp, ⟨y.toArray⟩, (i : Int))]) := by
  have e := nameEnd_ok hy h (hR.no _ (by decide))
  unfold nameOr
  rw [if_pos hb, e, h.sub, if_pos]
  rw [List.any_eq_true]
  exact ⟨_, hw, beq_self_eq_true _⟩
/- marks -/
theorem PAIRS_eq : PAIRS = [⟨#[47, 47]⟩, ⟨#[33, 61]⟩, ⟨#[60, 61]⟩, ⟨#[62, 61]⟩, ⟨#[46, 46]⟩, ⟨#[58, 58]⟩] := by decide +kernel
def mkC (c : Nat) : Bool := !isFig c && c != 39 && c != 34 && c != 36 && c != 42 && (c == 58 || !isStart c)
theorem st_mark {t : Str} {i c : Nat} {Z : List Nat} {ws : List Wd} (h : At t i (c :: Z)) (hm : mkC c = true) (hd : c = 46 → ∀ d, Z.head? = some d → isFig d = false) : stepOr t i ws = markOr t i ws := by
  unfold mkC at hm
  simp only [Bool.and_eq_true, Bool.not_eq_true', bne_iff_ne, Bool.or_eq_true, beq_iff_eq] at hm
  obtain ⟨⟨⟨⟨⟨a1, a2⟩, a3⟩, a4⟩, a5⟩, a6⟩ := hm
  have hc : t.cps[i]? = some c := h.get0
  have hn : (isFig c || (c == 46 && nextFig t (i + 1))) = false := by
    rw [a1]
    by_cases e : c = 46
    · unfold nextFig
      rw [h.skip1.get0]
      have := hd e
      revert this
      cases Z.head? with
      | none => simp
      | some d => intro k; simp [k d rfl]
    · rw [beq_eq_false_iff_ne.mpr e]; rfl
  unfold stepOr
  rw [hc]
  dsimp only
  rw [if_neg (by rw [hn]; decide), if_neg (by omega), if_neg a4, if_neg a5, if_neg]
  rintro ⟨e1, e2⟩
  rcases a6 with e | e
  · exact e2 e
  · rw [e] at e1; cases e1
def pairC (c d : Nat) : Bool := PAIRS.any (· == ⟨#[c, d]⟩)
theorem sgn_get {t : Str} {i : Nat} {Z : List Nat} (h : At t i Z) : sgn t i = match Z.head? with | some c => ⟨#[c]⟩ | none => ⟨#[]⟩ := by
  unfold sgn; rw [h.get0]; first | done | (cases Z.head? <;> rfl)
theorem mark1 {t : Str} {i c : Nat} {R : List Nat} (h : At t i (c :: R)) (hR : ∀ d, R.head? = some d → pairC c d = false) : markText t i = ⟨#[c]⟩ := by
  have h1 : sgn t i = ⟨#[c]⟩ := sgn_get h
  have h2 := sgn_get h.skip1
  unfold markText
  rw [h1, h2]
  cases hd : R.head? with
  | none =>
    dsimp only
    rw [if_neg]
    rw [PAIRS_eq]
    simp [show ((⟨#[c]⟩ : Str) ++ (⟨#[]⟩ : Str)) = ⟨#[c]⟩ from rfl]
  | some d =>
    dsimp only
    rw [if_neg]
    have := hR d hd
    unfold pairC at this
    rw [show ((⟨#[c]⟩ : Str) ++ (⟨#[d]⟩ : Str)) = ⟨#[c, d]⟩ from rfl, this]; decide
theorem mark2 {t : Str} {i c d : Nat} {R : List Nat} (h : At t i (c :: d :: R)) (hp : pairC c d = true) : markText t i = ⟨#[c, d]⟩ := by
  have h1 : sgn t i = ⟨#[c]⟩ := sgn_get h
  have h2 : sgn t (i + 1) = ⟨#[d]⟩ := sgn_get h.skip1
  unfold markText
  rw [h1, h2, if_pos]
  · rfl
  · exact hp
end Mine
namespace Mine
/- M26 -/
open PySem PySem.W PySem.Calls PyProof.Rows
set_option maxHeartbeats 200000
def IsLst (o : Obj) (items : Array Value) : Prop := o.cls = .type "list" ∧ ∃ n, o.data = .seq items n
/-- the source: a list of two ints -/
def SrcO (o : Obj) (a b : Int) : Prop := ∃ ta tb, IsLst o #[.int a ta, .int b tb]
def Src (sa : Addr) (led : Led) : Prop := ∃ o a b, led = [(sa, o)] ∧ SrcO o a b ∧ 0 ≤ a ∧ 0 ≤ b ∧ b < 2147483648
/-- a draw: the source turns, the kept heap grows, P of the value -/
def DrawG (g : Heap) (led : Led) (s : Shared) (sa : Addr) (P : Heap → Value → Prop) (r : Result) (s' : Shared) : Prop :=
  ∃ val g' led', r = .ok (.ret val) ∧ P g' val ∧ Src sa led' ∧ Ran g led s g' led' s'
section
variable {w : World} {A : Around} {E : Value → Shared → Prop} {s s0 : Shared} {e : Ent} {g g₀ : Heap} {L x dx l f sa : Addr} {m : Str → Option Value} {led led₀ led₁ rest : Led} {d i i' : Nat}
theorem mulOk {a b : Int} (h0 : 0 ≤ a) (h : a < 2147483648) : IntMulOk a b := IntMulOk.of_left (intBits_le_64 (by omega) (by omega))
theorem src_list {o : Obj} {items : Array Value} (S : St e g L m ((l, o) :: rest) s) (h : IsLst o items) : s.heap.IsList l items :=
  let ⟨h1, n, h2⟩ := h; ⟨o, S.get (.head _), h1, n, h2⟩
theorem x_setitem {o i : PySem.Expr} {pos' pos : Pos} {value : PySem.Expr} {rest : List Stmt} {env : Env} {Q : Flow → Shared → Prop}
    (h : wpAny (model PR w) A (eval value env) (fun v s₁ => wpAny (model PR w) A (eval o env) (fun ov s₂ => wpAny (model PR w) A (eval i env) (fun iv s₃ => wpAny (model PR w) A (setItem ov iv v) (fun _ s₄ => wpAny (model PR w) A (execs rest env) Q E s₄) E s₃) E s₂) E s₁) E s)
    (hs : swapsWith value (some (.Subscript o i pos')) pos.line env = pure false) : wpAny (model PR w) A (execs (.Assign [.Subscript o i pos'] value pos :: rest) env) Q E s :=
  x_cons (wpAny_Assign_Subscript (wpAny_mono h (fun _ _ h₁ => wpAny_mono h₁ (fun _ _ h₂ => wpAny_mono h₂ (fun _ _ h₃ => wpAny_mono h₃ (fun _ _ h₄ => kont_next h₄) fun _ _ x => x) fun _ _ x => x) fun _ _ x => x) fun _ _ x => x) hs)
theorem r_setI {o : Obj} {items : Array Value} {j : Int} {t : Tok} {v : Value} {Q : Unit → Shared → Prop} (S : St e g L m ((l, o) :: rest) s) (hi : IsLst o items) (h0 : 0 ≤ j) (hfit : j < 2 ^ 63) (hn : j < items.size)
    (h : ∀ o' s', St e g L m ((l, o') :: rest) s' → IsLst o' (items.setIfInBounds j.toNat v) → Q () s') : wpAny (model PR w) A (setItem (.ref l) (.int j t) v) Q E s := by
  refine wpAny_setItem_list (src_list S hi) h0 hfit hn fun h' ⟨o', ho, hc, n, hd⟩ hs => ?_
  exact h o' _ (S.upd (tk := s.toks) hs ho fun _ vs q => by rw [hd] at q; cases q) ⟨hc, n, hd⟩
theorem r_item0 {o : Obj} {x y : Value} {u : Tok} {value slice : PySem.Expr} {Q : Value → Shared → Prop} (S : St e g L m ((l, o) :: rest) s) (hi : IsLst o #[x, y]) (h : Q x s)
    (hs : subscripted slice false (.ref l) (.int 0 u) = operate [.ref l, .int 0 u] (getItem (.ref l) (.int 0 u)) := by with_unfolding_all rfl) (hg : ∀ r, letTemporaryGo value (.ref l) r = pure () := by intro _; with_unfolding_all rfl) :
    wpAny (model PR w) A (subscriptTail value slice (.ref l) (.int 0 u)) Q E s := item_list (src_list S hi) (by decide) (by decide) rfl h hs hg
theorem r_item1 {o : Obj} {x y : Value} {u : Tok} {value slice : PySem.Expr} {Q : Value → Shared → Prop} (S : St e g L m ((l, o) :: rest) s) (hi : IsLst o #[x, y]) (h : Q y s)
    (hs : subscripted slice false (.ref l) (.int 1 u) = operate [.ref l, .int 1 u] (getItem (.ref l) (.int 1 u)) := by with_unfolding_all rfl) (hg : ∀ r, letTemporaryGo value (.ref l) r = pure () := by intro _; with_unfolding_all rfl) :
    wpAny (model PR w) A (subscriptTail value slice (.ref l) (.int 1 u)) Q E s := item_list (src_list S hi) (by decide) (by decide) rfl h hs hg
theorem St.hasSub (S : St e g L m (led ++ rest) s) : Has g led s.heap := ⟨S.keep, fun p hp => S.ran.has.at_ p (List.mem_append_left _ hp), by
  have := S.ran.has.nd
  rw [List.map_append, List.nodup_append] at this
  exact this.1⟩
theorem St.draw {g₀ g : Heap} {led₀ led : Led} {P : Heap → Value → Prop} {val : Value} (S : St ⟨g₀, led₀, s0, []⟩ g L m led s) (hs : Src sa led) (h : P g val) : DrawG g₀ led₀ s0 sa P (.ok (.ret val)) s := ⟨val, g, led, rfl, h, hs, S.ran⟩
/-- from a frame: draw -/
theorem r_drawR {f : Value} {args : List Value} {P : Heap → Value → Prop} {Q : Value → Shared → Prop} (S : St e g L m (led ++ rest) s) (hc : codeAny (model PR w) A (.call f ⟨args, []⟩) (DrawG g led s sa P) s)
    (h : ∀ val g' led' s', g.StaysIn g' → P g' val → Src sa led' → St e g' L m (led' ++ rest) s' → Q val s') : wpAny (model PR w) A (call f args []) Q E s :=
  r_call hc fun _ s' ⟨val, g', led', hr, hP, hs, R⟩ => ⟨val, hr, h val g' led' s' R.le hP hs (St.ret S R)⟩
theorem r_draw {f : Value} {args : List Value} {P : Heap → Value → Prop} {Q : Value → Shared → Prop} (S : St e g L m led s) (hc : codeAny (model PR w) A (.call f ⟨args, []⟩) (DrawG g led s sa P) s)
    (h : ∀ val g' led' s', g.StaysIn g' → P g' val → Src sa led' → St e g' L m led' s' → Q val s') : wpAny (model PR w) A (call f args []) Q E s :=
  r_drawR (rest := []) (by rw [List.append_nil]; exact S) hc fun val g' led' s' h1 h2 h3 h4 => h val g' led' s' h1 h2 h3 (by rwa [List.append_nil] at h4)
end
local macro_rules | `(tactic| tb_start) => `(tactic| ((case C => assumption); (case H => assumption); (case ho => k_is); (case hcd => k_is); (case hb => first | exact BindsTo.of_eq rfl | exact binds_K (Frag.In.keeps (Cx.X ‹Cx _ _ _ _›) (Has.keep ‹Has _ _ _›)) rfl (by k_is) rfl rfl rfl); (case hl => exact locs rfl); (case c1 => exact rfl); (case c2 => exact rfl); (case c3 => exact rfl); (case c4 => decide)))
local macro_rules | `(tactic| tb_rel) => `(tactic| first
  | with_reducible refine x_return ?_
  | with_reducible refine x_if ?_
  | ((with_reducible refine x_assign ?_ ?hs); (case hs => rfl))
  | ((with_reducible refine x_expr ?_ ?hi ?hs); (case hi => rfl); (case hs => rfl))
  | ((with_reducible refine x_setattr ?_ ?hs); (case hs => rfl))
  | with_reducible refine x_nil ?_
  | with_reducible refine kont_next ?_
  | with_reducible refine kont_ret ?_
  | with_reducible refine fnK_ret ?_
  | with_reducible refine fnK_next ?_
  | ((with_reducible refine wpAny_isTrue_Compare1 (hm := ?hm) ?_); (case hm => rfl))
  | ((with_reducible refine isTrue_chain (hm := ?hm) ?_); (case hm => rfl))
  | with_reducible refine wpAny_isTrue_BoolOp ?_
  | with_reducible refine wpAny_isTrue_Not ?_
  | with_reducible refine wpAny_allTrue_And_cons ?_
  | with_reducible refine wpAny_allTrue_Or_cons ?_
  | with_reducible refine wpAny_allTrue_And_nil ?_
  | with_reducible refine wpAny_allTrue_Or_nil ?_
  | ((with_reducible refine Compare_chain (hm := ?hm) ?_); (case hm => rfl))
  | with_reducible refine chain_linkE ?_
  | with_reducible refine chain_lastE ?_
  | ((with_reducible refine wpAny_Compare1 (hm := ?hm) ?_); (case hm => rfl))
  | with_reducible refine wpAny_BinOp ?_
  | with_reducible refine wpAny_IfExp ?_
  | with_reducible refine wpAny_UnaryOp ?_
  | with_reducible refine eval_boolOp ?_
  | with_reducible refine boolOp_orE ?_
  | with_reducible refine boolOp_andE ?_
  | with_reducible refine boolOp_oneE ?_
  | with_reducible refine wpAny_truthy_bool ?_
  | with_reducible refine wpAny_Call_ofName ?_
  | ((with_reducible refine' MethodCall_ (he := ?he) ?_); (case he => rfl))
  | ((with_reducible refine PyProof.Rows.Attribute_any_ ?_ ?he); (case he => rfl))
  | with_reducible refine PyProof.Rows.Subscript_ ?_
  | with_reducible refine PyProof.Rows.Tuple_ ?_
  | with_reducible refine PyProof.Rows.List_ ?_
  | ((with_reducible refine r_callW (by assumption) ?hk ?_ ?he ?hp); (case hk => k_is); (case he => rfl); (case hp => rfl))
  | ((with_reducible refine r_callW0 (by assumption) (by assumption) ?hk ?_); (case hk => k_is))
  | ((with_reducible refine PyProof.Rows.callWith_method0 ?_))
  | ((with_reducible refine r_callB ?_ ?he ?hp); (case he => rfl); (case hp => rfl))
  | ((with_reducible refine PyProof.Rows.callWith_method1 ?_ ?he ?hp); (case he => rfl); (case hp => rfl))
  | ((with_reducible refine r_callT ?_ ?he ?hp); (case he => rfl); (case hp => rfl))
  | ((with_reducible refine PyProof.Rows.spliced_more ?_ ?he); (case he => rfl))
  | with_reducible refine PyProof.Rows.spliced_none ?_
  | with_reducible refine inK (by assumption) (by assumption) ?_
  | with_reducible refine PyProof.Rows.eq_int ?_
  | with_reducible refine PyProof.Rows.ne_int ?_
  | with_reducible refine PyProof.Rows.lt_int ?_
  | with_reducible refine PyProof.Rows.gt_int ?_
  | with_reducible refine PyProof.Rows.le_int ?_
  | with_reducible refine PyProof.Rows.ge_int ?_
  | with_reducible refine PyProof.Rows.eq_str ?_
  | with_reducible refine PyProof.Rows.ne_str ?_
  | with_reducible refine PySem.P.le_str ?_
  | with_reducible refine PyProof.Rows.in_str ?_
  | with_reducible refine r_bool ?_
  | ((rename St _ _ _ _ _ _ => S0); (first
     | (with_reducible refine r_str S0 ?_)
     | (with_reducible refine r_int S0 ?_)
     | (with_reducible refine r_add S0 ?_)
     | (with_reducible refine r_sub S0 ?_)
     | (with_reducible refine r_find3 S0 ?_)); clear S0; intro tk' s' S')
  | ((rename St _ _ _ _ _ _ => S0); (with_reducible refine' r_local S0 ?hv ?_ ?hk ?hl ?hd); (case hv => first | rfl | assumption); (case hk => rfl); (case hl => rfl); (case hd => decide))
  | ((rename St _ _ _ _ _ _ => S0); (with_reducible refine' r_glob (by assumption) S0 ?hv ?_ ?hk ?hl ?hd); (case hv => k_is); (case hk => rfl); (case hl => rfl); (case hd => decide))
  | ((rename St _ _ _ _ _ _ => S0); (with_reducible refine' r_bi (by assumption) S0 ?hv ?hb ?hn ?_ ?hk ?hl ?hd); (case hv => k_is); (case hb => boot_by_name); (case hn => decide); (case hk => rfl); (case hl => rfl); (case hd => decide))
  | ((rename St _ _ _ _ _ _ => S0); (with_reducible refine r_store S0 ?_ ?hk ?hl); clear S0; (case hk => rfl); (case hl => rfl); intro s' S')
  | ((with_reducible refine isTrue_plain ?_ ?he); (case he => rfl)))
local macro_rules | `(tactic| tb_rel) => `(tactic| ((rename St _ _ _ _ _ _ => S0); first
  | with_reducible refine x_slice ?_
  | ((with_reducible refine r_text (by assumption) S0 (by assumption) ?_); clear S0; intro tk' s' S')
  | ((with_reducible refine r_at (by assumption) S0 (by assumption) ?_); clear S0; intro tk' s' S')
  | ((with_reducible refine r_found (by assumption) S0 (by assumption) ?_); clear S0; intro s' S')
  | ((with_reducible refine' r_scm (by assumption) S0 (by assumption) ?hg ?hf ?ht ?hl ?_); (case hg => k_is); (case hf => k_is); (case ht => k_is); (case hl => exact fun _ _ _ _ _ _ _ _ => rfl))
  | ((with_reducible refine r_callM (by assumption) ?hk ?_ ?he ?hp); (case hk => k_is); (case he => rfl); (case hp => rfl))
  | ((with_reducible refine r_callM0 (by assumption) S0 ?hk ?_); (case hk => k_is))
  | ((with_reducible refine r_lenS S0 ?hz ?_); (case hz => assumption); clear S0; intro tk' s' S')))
local macro_rules | `(tactic| tb_rel) => `(tactic| first
  | ((with_reducible refine x_setitem ?_ ?hs); (case hs => rfl))
  | with_reducible refine PySem.call_int_int ?_
  | ((with_reducible show wpAny _ _ (subscriptTail _ _ (.ref _) (.int 0 _)) _ _ _); (rename St _ _ _ _ _ _ => S0); refine r_item0 S0 (by assumption) ?_)
  | ((with_reducible show wpAny _ _ (subscriptTail _ _ (.ref _) (.int 1 _)) _ _ _); (rename St _ _ _ _ _ _ => S0); refine r_item1 S0 (by assumption) ?_))
section
variable {w : World} {A : Around} {E : Value → Shared → Prop} {s s0 : Shared} {e : Ent} {g g₀ : Heap} {L x dx l f sa : Addr} {m : Str → Option Value} {led led₀ led₁ rest : Led} {d i i' : Nat}
set_option maxHeartbeats 4000000 in
theorem k287 {top : Int} {tt : Tok} (C : Cx w g A (d + 1)) (H : Has g led s.heap) (hs : Src sa led) (h0 : 0 < top) (h1 : top ≤ 1000000) :
    codeAny (model PR w) A (.call (.ref 287) ⟨[.ref sa, .int top tt], []⟩) (DrawG g led s sa fun _ v => ∃ n tk, v = .int n tk ∧ 0 ≤ n ∧ n < top) s := by
  refine' enter (binds := [("source", .ref sa), ("top", .int top tt)]) ?C ?H ?ho ?hcd ?hb ?hl ?_ ?c1 ?c2 ?c3 ?c4; tb_start
  intro L s1 S C1
  obtain ⟨o, a, b, rfl, ⟨ta, tb, ho⟩, ha, hb, hb'⟩ := hs
  repeat tb_rel
  refine ite_c (fun h2 => ?_) (fun h2 => ?_)
  · repeat tb_rel
    rename St _ _ _ _ _ _ => S
    refine r_mod S h0 fun tk s' S => ?_
    repeat tb_rel
    rename St _ _ _ _ _ _ => S
    refine r_fdiv S h0 (by omega) fun tk s' S => ?_
    repeat tb_rel
    rename St _ _ _ _ _ _ => S
    refine r_setI S ho (by decide) (by decide) (by show (_ : Int) < 2; decide) fun o' s' S ho' => ?_
    repeat tb_rel
    rename St _ _ _ _ _ _ => S
    exact S.draw ⟨o', _, _, rfl, ⟨_, _, ho'⟩, Int.ediv_nonneg ha (by omega), hb, hb'⟩ ⟨_, _, rfl, Int.emod_nonneg _ (by omega), Int.emod_lt_of_pos _ h0⟩
  · repeat tb_rel
    rename St _ _ _ _ _ _ => S
    refine r_mul S (mulOk hb hb') fun tk s' S => ?_
    repeat tb_rel
    rename St _ _ _ _ _ _ => S
    refine r_mod S (by decide) fun tk s' S => ?_
    repeat tb_rel
    rename St _ _ _ _ _ _ => S
    refine r_setI S ho (by decide) (by decide) (by show (_ : Int) < 2; decide) fun o' s' S ho' => ?_
    have q1 : 0 ≤ (b * 39373 + 7) % 2147483647 := Int.emod_nonneg _ (by decide)
    have q2 : (b * 39373 + 7) % 2147483647 < 2147483648 := Int.lt_trans (Int.emod_lt_of_pos _ (by decide)) (by decide)
    have ho2 : IsLst o' #[.int a ta, .int ((b * 39373 + 7) % 2147483647) tk] := ho'
    clear ho ho'
    repeat tb_rel
    rename St _ _ _ _ _ _ => S
    refine r_mul S (mulOk q1 q2) fun tk s' S => ?_
    repeat tb_rel
    rename St _ _ _ _ _ _ => S
    refine r_mod S (by decide) fun tk s' S => ?_
    repeat tb_rel
    rename St _ _ _ _ _ _ => S
    refine r_fdiv S (by decide) (by decide) fun tk s' S => ?_
    repeat tb_rel
    rename St _ _ _ _ _ _ => S
    refine r_mod S h0 fun tk s' S => ?_
    repeat tb_rel
    exact S.draw ⟨o', _, _, rfl, ⟨_, _, ho2⟩, ha, q1, q2⟩ ⟨_, _, rfl, Int.emod_nonneg _ (by omega), Int.emod_lt_of_pos _ h0⟩
end
/- M27 -/
open PySem PySem.W PySem.Calls PyProof.Rows
set_option maxHeartbeats 200000
section
variable {w : World} {A : Around} {E : Value → Shared → Prop} {s s0 : Shared} {e : Ent} {g g₀ : Heap} {L x dx l f sa th : Addr} {m : Str → Option Value} {led led₀ led₁ rest : Led} {d i i' : Nat}
theorem strs_at : ∀ {vs : List Value} {ys : List Str} {i : Nat} {v : Value}, StrsAre vs ys → vs[i]? = some v → ∃ y tk, v = .str y tk ∧ y ∈ ys
  | _, _, 0, _, .cons y t _, h => by cases h; exact ⟨_, _, rfl, .head _⟩
  | _, _, i + 1, _, .cons _ _ r, h => by
    obtain ⟨y, tk, e, hy⟩ := strs_at (i := i) r (by simpa using h)
    exact ⟨y, tk, e, .tail _ hy⟩
def strsOf : List Value → List Str
  | .str y _ :: r => y :: strsOf r
  | _ => []
def allStr : List Value → Bool
  | [] => true
  | .str _ _ :: r => allStr r
  | _ => false
theorem strs_of : ∀ {vs : List Value}, allStr vs = true → StrsAre vs (strsOf vs)
  | [], _ => .nil
  | .str y t :: r, h => .cons y t (strs_of (vs := r) h)
theorem r_newFrozen {vs : List Value} {Q : Value → Shared → Prop} (C : Cx w g A d) (S : St e g L m led s) (hz : vs.length ≤ sizeLine)
    (h : ∀ g' a s', g.StaysIn g' → Cx w g' A d → St e g' L m led s' → g'.IsList a vs.toArray → Q (.ref a) s') : wpAny (model PR w) A (newList vs) Q E s := by
  refine r_newList S hz fun a s' S => ?_
  obtain ⟨g1, hg1, S1, ha⟩ := S.freeze0
  exact h g1 a s' hg1 (C.mono hg1) S1 ⟨_, ha, rfl, _, rfl⟩
end
section
variable {w : World} {A : Around} {E : Value → Shared → Prop} {s s0 : Shared} {e : Ent} {g g₀ : Heap} {L x dx l f sa th : Addr} {m : Str → Option Value} {led led₀ led₁ rest : Led} {d i i' : Nat}
set_option maxHeartbeats 4000000 in
theorem k294 {vs : List Value} {ys : List Str} (C : Cx w g A (d + 2)) (H : Has g led s.heap) (hs : Src sa led) (ht : g.IsList th vs.toArray) (hv : StrsAre vs ys) (h0 : 0 < vs.length) (h1 : vs.length ≤ 1000) :
    codeAny (model PR w) A (.call (.ref 294) ⟨[.ref sa, .ref th], []⟩) (DrawG g led s sa fun _ v => ∃ y tk, v = .str y tk ∧ y ∈ ys) s := by
  refine' enter (binds := [("source", .ref sa), ("things", .ref th)]) ?C ?H ?ho ?hcd ?hb ?hl ?_ ?c1 ?c2 ?c3 ?c4; tb_start
  intro L s1 S C1
  repeat tb_rel
  rename St _ _ _ _ _ _ => S
  obtain ⟨o, hth, r⟩ := id ht
  have hsz : vs.toArray.size = vs.length := List.size_toArray
  refine len_list (items := vs.toArray) ⟨o, S.keep _ _ hth, r⟩ (by rw [hsz]; omega) ?_
  have S := S.tok (tk := s1.toks + 1 + 1)
  repeat tb_rel
  rename St _ _ _ _ _ _ => S
  refine r_draw S (k287 (d := 0) (C1.less (by omega)) S.hasL hs (by rw [hsz]; omega) (by rw [hsz]; omega)) fun v g' led' s' hg hP hs S => ?_
  obtain ⟨n, tk, rfl, hn0, hn1⟩ := hP
  rw [hsz] at hn1
  have hlt : n.toNat < vs.length := by omega
  refine item_list (items := vs.toArray) (k := n) (x := vs[n.toNat]) ⟨o, S.keep _ _ (hg _ _ hth), r⟩ hn0 (by omega) (by simp [hlt]) ?_
  repeat tb_rel
  obtain ⟨y, tk', e, hy⟩ := strs_at (v := vs[n.toNat]) (i := n.toNat) hv (List.getElem?_eq_getElem hlt)
  exact S.draw hs ⟨y, tk', e, hy⟩
theorem ints_at : ∀ {vs : List Value} {ns : List Int} {i : Nat}, IntsAre vs ns → i < vs.length → ∃ n t, vs[i]? = some (.int n t)
  | _, _, 0, .cons n t _, _ => ⟨n, t, rfl⟩
  | _, _, i + 1, .cons _ _ r, h => by
    obtain ⟨n, t, e⟩ := ints_at (i := i) r (by simpa using h)
    exact ⟨n, t, by simpa using e⟩
theorem mixOk (b : Int) : IntMulOk (b % 2147483629 + 7919 * 0 * 0 + 31 * 0 + 17) 48271 := IntMulOk.of_right (intBits_le_64 (by decide) (by decide))
theorem r_lenL {items : Array Value} {Q : Value → Shared → Prop} (S : St e g L m led s) (hl : g.IsList l items) (hz : items.size ≤ 1000000) (h : ∀ tk s', St e g L m led s' → Q (.int (items.size : Nat) tk) s') : wpAny (model PR w) A (call (.builtin "len") [.ref l]) Q E s :=
  let ⟨o, hth, r⟩ := hl
  len_list (items := items) ⟨o, S.keep _ _ hth, r⟩ (by omega) (h _ _ S.tok)
theorem r_max {a b : Int} {t u : Tok} {Q : Value → Shared → Prop} (C : Cx w g A d) (S : St e g L m led s) (h : ∀ tk s', St e g L m led s' → Q (.int (if b > a then b else a) tk) s') : wpAny (model PR w) A (call (.builtin "max") [.int a t, .int b u]) Q E s := by
  refine max_two_ints C.hand fun h' tk hk => ?_
  split
  · rename_i q; have := h u _ (S.grow (tk := tk) hk); rwa [if_pos q] at this
  · rename_i q; have := h t _ (S.grow (tk := tk) hk); rwa [if_neg q] at this
theorem r_intB {b : Bool} {Q : Value → Shared → Prop} (S : St e g L m led s) (h : ∀ tk s', St e g L m led s' → Q (.int (if b then 1 else 0) tk) s') : wpAny (model PR w) A (call (.type "int") [.bool b]) Q E s := call_int_bool (h _ _ S.tok)
/-- the pool's end: its list is the source -/
def PoolTo (g : Heap) (s : Shared) (r : Result) (s' : Shared) : Prop := ∃ sa led', r = .ok (.ret (.ref sa)) ∧ Src sa led' ∧ Ran g [] s g led' s'
theorem pool_end {g₀ : Heap} {c y : Int} {ta tb : Tok} {sa : Addr} (S : St ⟨g₀, [], s0, []⟩ g₀ L m ((sa, lstObj #[.int c ta, .int y tb] 0) :: []) s) (h1 : 0 ≤ c) (h2 : 0 ≤ y) (h3 : y < 2147483648) : PoolTo g₀ s0 (.ok (.ret (.ref sa))) s :=
  ⟨sa, _, rfl, ⟨_, _, _, rfl, ⟨_, _, rfl, _, rfl⟩, h1, h2, h3⟩, S.ran⟩
theorem big_ge (c : Int) : 0 ≤ (if -1 - c > c then -1 - c else c) := by split <;> omega
theorem flag_ge (b : Bool) : (0 : Int) ≤ (if b then 1 else 0) := by cases b <;> decide
theorem flag_le (b : Bool) : (if b then 1 else 0 : Int) < 2 := by cases b <;> decide
set_option maxHeartbeats 4000000 in
theorem k280 {sc : Addr} {items : Array Value} {ns : List Int} {tk : Tok} (C : Cx w g A (d + 2)) (H : Has g [] s.heap) (hl : g.IsList sc items) (hi : IntsAre items.toList ns) (hz : items.size ≤ 1000) :
    codeAny (model PR w) A (.call (.ref 280) ⟨[.ref sc, .int 0 tk], []⟩) (PoolTo g s) s := by
  refine' enter (binds := [("script", .ref sc), ("k", .int 0 tk)]) ?C ?H ?ho ?hcd ?hb ?hl ?_ ?c1 ?c2 ?c3 ?c4; tb_start
  intro L s1 S C1
  repeat tb_rel
  rename St _ _ _ _ _ _ => S
  refine r_lenL S hl (by omega) fun tk' s' S => ?_
  repeat tb_rel
  refine ite_c (fun h1 => ?_) (fun h1 => ?_)
  · have h1' : 0 < items.size := by
      have := of_decide_eq_true h1
      omega
    obtain ⟨n, t, hn⟩ := ints_at (i := 0) hi (by rw [Array.length_toList]; exact h1')
    rw [Array.getElem?_toList] at hn
    repeat tb_rel
    rename St _ _ _ _ _ _ => S
    obtain ⟨o, hth, r⟩ := id hl
    refine item_list (items := items) (k := 0) (x := .int n t) ⟨o, S.keep _ _ hth, r⟩ (by decide) (by decide) hn ?_
    repeat tb_rel
    rename St _ _ _ _ _ _ => S
    refine r_neg S fun tk' s' S => ?_
    repeat tb_rel
    rename St _ _ _ _ _ _ => S
    refine r_max C1 S fun tk' s' S => ?_
    repeat tb_rel
    rename St _ _ _ _ _ _ => S
    refine r_mod S (by decide) fun tk' s' S => ?_
    repeat tb_rel
    rename St _ _ _ _ _ _ => S
    refine r_mul S (mulOk (by decide) (by decide)) fun tk' s' S => ?_
    repeat tb_rel
    rename St _ _ _ _ _ _ => S
    refine r_mul S (mulOk (by decide) (by decide)) fun tk' s' S => ?_
    repeat tb_rel
    rename St _ _ _ _ _ _ => S
    refine r_mul S (mulOk (by decide) (by decide)) fun tk' s' S => ?_
    repeat tb_rel
    rename St _ _ _ _ _ _ => S
    refine r_mul S (mixOk _) fun tk' s' S => ?_
    repeat tb_rel
    rename St _ _ _ _ _ _ => S
    refine r_mod S (by decide) fun tk' s' S => ?_
    repeat tb_rel
    rename St _ _ _ _ _ _ => S
    refine r_pow S (by decide) (by decide +kernel) fun tk' s' S => ?_
    repeat tb_rel
    rename St _ _ _ _ _ _ => S
    refine r_intB S fun tk' s' S => ?_
    repeat tb_rel
    rename St _ _ _ _ _ _ => S
    refine r_mul S (IntMulOk.of_right (intBits_le_64 (Int.lt_of_lt_of_le (by decide) (flag_ge _)) (Int.lt_trans (flag_le _) (by decide)))) fun tk' s' S => ?_
    repeat tb_rel
    rename St _ _ _ _ _ _ => S
    refine r_newList S (by rw [sizeLine_eq]; exact Nat.le_of_ble_eq_true rfl) fun a s' S => ?_
    repeat tb_rel
    exact pool_end S (Int.mul_nonneg (big_ge _) (flag_ge _)) (Int.emod_nonneg _ (by decide)) (Int.lt_trans (Int.emod_lt_of_pos _ (by decide)) (by decide))
  · skip
    repeat tb_rel
    rename St _ _ _ _ _ _ => S
    refine r_neg S fun tk' s' S => ?_
    repeat tb_rel
    rename St _ _ _ _ _ _ => S
    refine r_max C1 S fun tk' s' S => ?_
    repeat tb_rel
    rename St _ _ _ _ _ _ => S
    refine r_mod S (by decide) fun tk' s' S => ?_
    repeat tb_rel
    rename St _ _ _ _ _ _ => S
    refine r_mul S (mulOk (by decide) (by decide)) fun tk' s' S => ?_
    repeat tb_rel
    rename St _ _ _ _ _ _ => S
    refine r_mul S (mulOk (by decide) (by decide)) fun tk' s' S => ?_
    repeat tb_rel
    rename St _ _ _ _ _ _ => S
    refine r_mul S (mulOk (by decide) (by decide)) fun tk' s' S => ?_
    repeat tb_rel
    rename St _ _ _ _ _ _ => S
    refine r_mul S (mixOk _) fun tk' s' S => ?_
    repeat tb_rel
    rename St _ _ _ _ _ _ => S
    refine r_mod S (by decide) fun tk' s' S => ?_
    repeat tb_rel
    rename St _ _ _ _ _ _ => S
    refine r_pow S (by decide) (by decide +kernel) fun tk' s' S => ?_
    repeat tb_rel
    rename St _ _ _ _ _ _ => S
    refine r_intB S fun tk' s' S => ?_
    repeat tb_rel
    rename St _ _ _ _ _ _ => S
    refine r_mul S (IntMulOk.of_right (intBits_le_64 (Int.lt_of_lt_of_le (by decide) (flag_ge _)) (Int.lt_trans (flag_le _) (by decide)))) fun tk' s' S => ?_
    repeat tb_rel
    rename St _ _ _ _ _ _ => S
    refine r_newList S (by rw [sizeLine_eq]; exact Nat.le_of_ble_eq_true rfl) fun a s' S => ?_
    repeat tb_rel
    exact pool_end S (Int.mul_nonneg (big_ge _) (flag_ge _)) (Int.emod_nonneg _ (by decide)) (Int.lt_trans (Int.emod_lt_of_pos _ (by decide)) (by decide))
end
local macro_rules | `(tactic| tb_rel) => `(tactic| ((with_reducible show wpAny _ _ (newList _) _ _ _); (rename St _ _ _ _ _ _ => S0); refine r_newFrozen (by assumption) S0 (by rw [sizeLine_eq]; exact Nat.le_of_ble_eq_true rfl) ?_; intro g' a' s' hg' C' S' ha'; clear S0))
local macro_rules | `(tactic| tb_rel) => `(tactic| ((with_reducible show wpAny _ _ (call (.ref 294) _ _) _ _ _); (rename St _ _ _ _ _ _ => S0); (rename Src _ _ => src0); (rename Heap.IsList _ _ _ => l0); refine r_draw S0 (k294 (d := 0) (Cx.less (by assumption) (by omega)) S0.hasL src0 l0 (strs_of (by rfl)) (by exact Nat.le_of_ble_eq_true rfl) (by exact Nat.le_of_ble_eq_true rfl)) ?_; intro v' g' led' s' hg' hP' src' S'; obtain ⟨y', tk', hv', hy'⟩ := hP'; subst hv'; (have C' := Cx.mono (by assumption) hg'); clear S0 src0 l0))
def NMS : List Str := ["a", "div", "mod", "or", "and", "x-1", "b.c", "text", "ét", "_"]
def PRE : List Str := ["", "p:", "and:"]
theorem pre4 {y : Str} (h : y ∈ ([Str.ofString "", Str.ofString "", Str.ofString "p:", Str.ofString "and:"] : List Str)) : y ∈ PRE := by
  cases h with
  | head => exact .head _
  | tail _ h => exact h
theorem len_in {ys : List Str} {y : Str} (h : ∀ y ∈ ys, y.length ≤ 100) (hy : y ∈ ys) : y.length ≤ 5000000 := Nat.le_trans (h y hy) (by decide)
section
variable {w : World} {A : Around} {E : Value → Shared → Prop} {s s0 : Shared} {e : Ent} {g g₀ : Heap} {L x dx l f sa th : Addr} {m : Str → Option Value} {led led₀ led₁ rest : Led} {d i i' : Nat}
set_option maxHeartbeats 4000000 in
theorem k301 (C : Cx w g A (d + 3)) (H : Has g led s.heap) (hs : Src sa led) :
    codeAny (model PR w) A (.call (.ref 301) ⟨[.ref sa], []⟩) (DrawG g led s sa fun _ v => ∃ p f tk, v = .str (p ++ f) tk ∧ p ∈ PRE ∧ f ∈ NMS) s := by
  refine' enter (binds := [("source", .ref sa)]) ?C ?H ?ho ?hcd ?hb ?hl ?_ ?c1 ?c2 ?c3 ?c4; tb_start
  intro L s1 S C1
  repeat tb_rel
  rename St _ _ _ _ _ _ => S
  rename _ ∈ strsOf _ => hp
  have hp' : _ ∈ ([Str.ofString "", Str.ofString "", Str.ofString "p:", Str.ofString "and:"] : List Str) := hp
  clear hp
  rename _ ∈ strsOf _ => hf
  have hf' : _ ∈ NMS := hf
  clear hf
  rename Src _ _ => hs
  refine r_cat S (cat_ok (len_in (by decide +kernel) hp') (len_in (by decide +kernel) hf')) fun tk s' S => ?_
  repeat tb_rel
  exact S.draw hs ⟨_, _, _, rfl, pre4 hp', hf'⟩
end
/- M28 -/
open PySem PySem.W PySem.Calls PyProof.Rows
set_option maxHeartbeats 200000
abbrev Tk := Str × Str
def NUMS : List Str := ["3", "40.5", ".5", "7.", "0"]
def LITS : List Str := ["", "a b", "*", "it's", "1 div 2", "\"q\""]
def STARS : List Str := ["*", "p:*", "div:*"]
def FUNS : List Str := ["count", "div", "p:f", "id"]
def KNDS : List Str := ["text", "node", "comment", "processing-instruction"]
def AXES : List Str := ["child", "self", "preceding-sibling", "or"]
/-- what stands where an operand is awaited, and whether an operand is then behind -/
inductive Opd : List Tk → Bool → Prop
  | num {x : Str} : x ∈ NUMS → Opd [(sNum, x)] true
  | lit {x : Str} : x ∈ LITS → Opd [(sLit, x)] true
  | var {p f : Str} : p ∈ PRE → f ∈ NMS → Opd [(sVar, p ++ f)] true
  | name {p f : Str} : p ∈ PRE → f ∈ NMS → Opd [(sName, p ++ f)] true
  | star {x : Str} : x ∈ STARS → Opd [(sName, x)] true
  | func {x : Str} : x ∈ FUNS → Opd [(sFun, x), (sSign, Str.ofString "(")] false
  | kind {x : Str} : x ∈ KNDS → Opd [(sKind, x), (sSign, Str.ofString "("), (sSign, Str.ofString ")")] true
  | axis {x : Str} : x ∈ AXES → Opd [(sAxis, x), (sSign, Str.ofString "::")] false
  | dot {x : Str} : x ∈ ([".", ".."] : List Str) → Opd [(sSign, x)] true
  | opens {x : Str} : x ∈ (["@", "("] : List Str) → Opd [(sSign, x)] false
  | op {x : Str} : x ∈ (["/", "//", "-"] : List Str) → Opd [(sOp, x)] false
/-- what stands behind an operand -/
inductive Beh : List Tk → Bool → Prop
  | word {x : Str} : x ∈ WOPS → Beh [(sOp, x)] false
  | star : Beh [(sOp, Str.ofString "*")] false
  | close {x : Str} : x ∈ ([")", "]"] : List Str) → Beh [(sSign, x)] true
  | opens {x : Str} : x ∈ (["[", ","] : List Str) → Beh [(sSign, x)] false
  | op {x : Str} : x ∈ OPS → Beh [(sOp, x)] false
def IsTok (g : Heap) (v : Value) (x : Tk) : Prop := ∃ a t1 t2, v = .ref a ∧ g.IsTuple a #[.str x.1 t1, .str x.2 t2]
theorem tup_keeps {g g' : Heap} {a : Addr} {items : Array Value} (h : g.IsTuple a items) (k : g.StaysIn g') : g'.IsTuple a items := let ⟨o, ho, r⟩ := h; ⟨o, k _ _ ho, r⟩
theorem lst_keeps {g g' : Heap} {a : Addr} {items : Array Value} (h : g.IsList a items) (k : g.StaysIn g') : g'.IsList a items := let ⟨o, ho, r⟩ := h; ⟨o, k _ _ ho, r⟩
inductive Toks (g : Heap) : List Value → List Tk → Prop
  | nil : Toks g [] []
  | cons {v x vs xs} : IsTok g v x → Toks g vs xs → Toks g (v :: vs) (x :: xs)
theorem IsTok.mono {g g' : Heap} {v : Value} {x : Tk} (h : IsTok g v x) (k : g.StaysIn g') : IsTok g' v x := let ⟨a, t1, t2, e, T⟩ := h; ⟨a, t1, t2, e, tup_keeps T k⟩
theorem Toks.mono {g g' : Heap} {vs : List Value} {xs : List Tk} (h : Toks g vs xs) (k : g.StaysIn g') : Toks g' vs xs := by
  induction h with
  | nil => exact .nil
  | cons a _ ih => exact .cons (a.mono k) ih
theorem Toks.app {g : Heap} {vs vs' : List Value} {xs xs' : List Tk} (h : Toks g vs xs) (h' : Toks g vs' xs') : Toks g (vs ++ vs') (xs ++ xs') := by
  induction h with
  | nil => exact h'
  | cons a _ ih => exact .cons a ih
theorem Toks.length {g : Heap} {vs : List Value} {xs : List Tk} (h : Toks g vs xs) : vs.length = xs.length := by
  induction h with
  | nil => rfl
  | cons _ _ ih => rw [List.length_cons, List.length_cons, ih]
/-- a pair of some words and a flag -/
def More (P : List Tk → Bool → Prop) (g : Heap) (val : Value) : Prop := ∃ a l items ts b, val = .ref a ∧ g.IsTuple a #[.ref l, .bool b] ∧ g.IsList l items ∧ Toks g items.toList ts ∧ P ts b
theorem more1 {P : List Tk → Bool → Prop} {g1 g2 g3 : Heap} {a l a1 : Addr} {b : Bool} {k x : Str} {t1 t2 : Tok} (h3 : g3.IsTuple a #[.ref l, .bool b]) (h23 : g2.StaysIn g3) (h2 : g2.IsList l #[.ref a1]) (h12 : g1.StaysIn g2) (h1 : g1.IsTuple a1 #[.str k t1, .str x t2]) (hP : P [(k, x)] b) :
    More P g3 (.ref a) := ⟨a, l, _, _, b, rfl, h3, lst_keeps h2 h23, .cons ⟨_, _, _, rfl, tup_keeps h1 fun b o q => h23 b o (h12 b o q)⟩ .nil, hP⟩
theorem more2 {P : List Tk → Bool → Prop} {g1 g2 g3 g4 : Heap} {a l a1 a2 : Addr} {b : Bool} {k x k2 x2 : Str} {t1 t2 t3 t4 : Tok} (h4 : g4.IsTuple a #[.ref l, .bool b]) (h34 : g3.StaysIn g4) (h3 : g3.IsList l #[.ref a1, .ref a2]) (h23 : g2.StaysIn g3) (h2 : g2.IsTuple a2 #[.str k2 t3, .str x2 t4]) (h12 : g1.StaysIn g2) (h1 : g1.IsTuple a1 #[.str k t1, .str x t2]) (hP : P [(k, x), (k2, x2)] b) :
    More P g4 (.ref a) :=
  have h24 : g2.StaysIn g4 := fun b o q => h34 b o (h23 b o q)
  ⟨a, l, _, _, b, rfl, h4, lst_keeps h3 h34, .cons ⟨_, _, _, rfl, tup_keeps h1 fun b o q => h24 b o (h12 b o q)⟩ (.cons ⟨_, _, _, rfl, tup_keeps h2 h24⟩ .nil), hP⟩
theorem more3 {P : List Tk → Bool → Prop} {g1 g2 g3 g4 g5 : Heap} {a l a1 a2 a3 : Addr} {b : Bool} {k x k2 x2 k3 x3 : Str} {t1 t2 t3 t4 t5 t6 : Tok} (h5 : g5.IsTuple a #[.ref l, .bool b]) (h45 : g4.StaysIn g5) (h4 : g4.IsList l #[.ref a1, .ref a2, .ref a3]) (h34 : g3.StaysIn g4) (h3 : g3.IsTuple a3 #[.str k3 t5, .str x3 t6]) (h23 : g2.StaysIn g3) (h2 : g2.IsTuple a2 #[.str k2 t3, .str x2 t4]) (h12 : g1.StaysIn g2) (h1 : g1.IsTuple a1 #[.str k t1, .str x t2]) (hP : P [(k, x), (k2, x2), (k3, x3)] b) :
    More P g5 (.ref a) :=
  have h35 : g3.StaysIn g5 := fun b o q => h45 b o (h34 b o q)
  have h25 : g2.StaysIn g5 := fun b o q => h35 b o (h23 b o q)
  ⟨a, l, _, _, b, rfl, h5, lst_keeps h4 h45, .cons ⟨_, _, _, rfl, tup_keeps h1 fun b o q => h25 b o (h12 b o q)⟩ (.cons ⟨_, _, _, rfl, tup_keeps h2 h25⟩ (.cons ⟨_, _, _, rfl, tup_keeps h3 h35⟩ .nil)), hP⟩
section
variable {w : World} {A : Around} {E : Value → Shared → Prop} {s s0 : Shared} {e : Ent} {g g₀ : Heap} {L x dx l f sa th : Addr} {m : Str → Option Value} {led led₀ led₁ rest : Led} {d i i' : Nat}
theorem r_newFrozenT {vs : List Value} {Q : Value → Shared → Prop} (C : Cx w g A d) (S : St e g L m led s) (hz : vs.length ≤ sizeLine)
    (h : ∀ g' a s', g.StaysIn g' → Cx w g' A d → St e g' L m led s' → g'.IsTuple a vs.toArray → Q (.ref a) s') : wpAny (model PR w) A (newTuple vs) Q E s := by
  refine r_newTuple S hz fun a s' S => ?_
  obtain ⟨g1, hg1, S1, ha⟩ := S.freeze0
  exact h g1 a s' hg1 (C.mono hg1) S1 ⟨_, ha, rfl, _, rfl⟩
end
local macro_rules | `(tactic| tb_rel) => `(tactic| ((with_reducible show wpAny _ _ (newTuple _) _ _ _); (rename St _ _ _ _ _ _ => S0); refine r_newFrozenT (by assumption) S0 (by rw [sizeLine_eq]; exact Nat.le_of_ble_eq_true rfl) ?_; intro g' a' s' hg' C' S' ha'; clear S0))
local macro_rules | `(tactic| tb_rel) => `(tactic| ((with_reducible show wpAny _ _ (call (.ref 301) _ _) _ _ _); (rename St _ _ _ _ _ _ => S0); (rename Src _ _ => src0); refine r_draw S0 (k301 (d := 0) (Cx.less (by assumption) (by omega)) S0.hasL src0) ?_; intro v' g' led' s' hg' hP' src' S'; obtain ⟨p', f', tk', hv', hp', hf'⟩ := hP'; subst hv'; (have C' := Cx.mono (by assumption) hg'); clear S0 src0))
section
variable {w : World} {A : Around} {E : Value → Shared → Prop} {s s0 : Shared} {e : Ent} {g g₀ : Heap} {L x dx l f sa th : Addr} {m : Str → Option Value} {led led₀ led₁ rest : Led} {d i i' : Nat}
set_option maxHeartbeats 8000000 in
theorem k308 (C : Cx w g A (d + 4)) (H : Has g led s.heap) (hs : Src sa led) :
    codeAny (model PR w) A (.call (.ref 308) ⟨[.ref sa], []⟩) (DrawG g led s sa (More Opd)) s := by
  refine' enter (binds := [("source", .ref sa)]) ?C ?H ?ho ?hcd ?hb ?hl ?_ ?c1 ?c2 ?c3 ?c4; tb_start
  intro L s1 S C1
  repeat tb_rel
  rename St _ _ _ _ _ _ => S
  refine r_draw S (k287 (d := 0) (C1.less (by omega)) S.hasL hs (by decide) (by decide)) fun v g' led' s' hg hP hs S => ?_
  obtain ⟨n, tk, rfl, hn0, hn1⟩ := hP
  have C2 := C1.mono hg
  repeat tb_rel
  refine ite_c (fun h => ?_) (fun h => ?_)
  · repeat tb_rel
    rename St _ _ _ _ _ _ => S
    exact S.draw (by assumption) (more1 (by assumption) (by assumption) (by assumption) (by assumption) (by assumption) (.num ‹_ ∈ strsOf _›))
  repeat tb_rel
  refine ite_c (fun h => ?_) (fun h => ?_)
  · repeat tb_rel
    rename St _ _ _ _ _ _ => S
    exact S.draw (by assumption) (more1 (by assumption) (by assumption) (by assumption) (by assumption) (by assumption) (.lit ‹_ ∈ strsOf _›))
  repeat tb_rel
  refine ite_c (fun h => ?_) (fun h => ?_)
  · repeat tb_rel
    rename St _ _ _ _ _ _ => S
    exact S.draw (by assumption) (more1 (by assumption) (by assumption) (by assumption) (by assumption) (by assumption) (.var ‹_ ∈ PRE› ‹_ ∈ NMS›))
  repeat tb_rel
  refine ite_c (fun h => ?_) (fun h => ?_)
  · repeat tb_rel
    rename St _ _ _ _ _ _ => S
    exact S.draw (by assumption) (more1 (by assumption) (by assumption) (by assumption) (by assumption) (by assumption) (.name ‹_ ∈ PRE› ‹_ ∈ NMS›))
  repeat tb_rel
  refine ite_c (fun h => ?_) (fun h => ?_)
  · repeat tb_rel
    rename St _ _ _ _ _ _ => S
    exact S.draw (by assumption) (more1 (by assumption) (by assumption) (by assumption) (by assumption) (by assumption) (.star ‹_ ∈ strsOf _›))
  repeat tb_rel
  refine ite_c (fun h => ?_) (fun h => ?_)
  · repeat tb_rel
    rename St _ _ _ _ _ _ => S
    exact S.draw (by assumption) (more2 (by assumption) (by assumption) (by assumption) (by assumption) (by assumption) (by assumption) (by assumption) (.func ‹_ ∈ strsOf _›))
  repeat tb_rel
  refine ite_c (fun h => ?_) (fun h => ?_)
  · repeat tb_rel
    rename St _ _ _ _ _ _ => S
    exact S.draw (by assumption) (more3 (by assumption) (by assumption) (by assumption) (by assumption) (by assumption) (by assumption) (by assumption) (by assumption) (by assumption) (.kind ‹_ ∈ strsOf _›))
  repeat tb_rel
  refine ite_c (fun h => ?_) (fun h => ?_)
  · repeat tb_rel
    rename St _ _ _ _ _ _ => S
    exact S.draw (by assumption) (more2 (by assumption) (by assumption) (by assumption) (by assumption) (by assumption) (by assumption) (by assumption) (.axis ‹_ ∈ strsOf _›))
  repeat tb_rel
  refine ite_c (fun h => ?_) (fun h => ?_)
  · repeat tb_rel
    rename St _ _ _ _ _ _ => S
    exact S.draw (by assumption) (more1 (by assumption) (by assumption) (by assumption) (by assumption) (by assumption) (.dot ‹_ ∈ strsOf _›))
  repeat tb_rel
  refine ite_c (fun h => ?_) (fun h => ?_)
  · repeat tb_rel
    rename St _ _ _ _ _ _ => S
    exact S.draw (by assumption) (more1 (by assumption) (by assumption) (by assumption) (by assumption) (by assumption) (.opens ‹_ ∈ strsOf _›))
  repeat tb_rel
  rename St _ _ _ _ _ _ => S
  exact S.draw (by assumption) (more1 (by assumption) (by assumption) (by assumption) (by assumption) (by assumption) (.op ‹_ ∈ strsOf _›))
set_option maxHeartbeats 8000000 in
theorem k315 (C : Cx w g A (d + 4)) (H : Has g led s.heap) (hs : Src sa led) :
    codeAny (model PR w) A (.call (.ref 315) ⟨[.ref sa], []⟩) (DrawG g led s sa (More Beh)) s := by
  refine' enter (binds := [("source", .ref sa)]) ?C ?H ?ho ?hcd ?hb ?hl ?_ ?c1 ?c2 ?c3 ?c4; tb_start
  intro L s1 S C1
  repeat tb_rel
  rename St _ _ _ _ _ _ => S
  refine r_draw S (k287 (d := 0) (C1.less (by omega)) S.hasL hs (by decide) (by decide)) fun v g' led' s' hg hP hs S => ?_
  obtain ⟨n, tk, rfl, hn0, hn1⟩ := hP
  have C2 := C1.mono hg
  repeat tb_rel
  refine ite_c (fun h => ?_) (fun h => ?_)
  · repeat tb_rel
    rename St _ _ _ _ _ _ => S
    exact S.draw (by assumption) (more1 (by assumption) (by assumption) (by assumption) (by assumption) (by assumption) (.word ‹_ ∈ strsOf _›))
  repeat tb_rel
  refine ite_c (fun h => ?_) (fun h => ?_)
  · repeat tb_rel
    rename St _ _ _ _ _ _ => S
    exact S.draw (by assumption) (more1 (by assumption) (by assumption) (by assumption) (by assumption) (by assumption) .star)
  repeat tb_rel
  refine ite_c (fun h => ?_) (fun h => ?_)
  · repeat tb_rel
    rename St _ _ _ _ _ _ => S
    exact S.draw (by assumption) (more1 (by assumption) (by assumption) (by assumption) (by assumption) (by assumption) (.close ‹_ ∈ strsOf _›))
  repeat tb_rel
  refine ite_c (fun h => ?_) (fun h => ?_)
  · repeat tb_rel
    rename St _ _ _ _ _ _ => S
    exact S.draw (by assumption) (more1 (by assumption) (by assumption) (by assumption) (by assumption) (by assumption) (.opens ‹_ ∈ strsOf _›))
  repeat tb_rel
  rename St _ _ _ _ _ _ => S
  exact S.draw (by assumption) (more1 (by assumption) (by assumption) (by assumption) (by assumption) (by assumption) (.op ‹_ ∈ strsOf _›))
end
/- M29 -/
open PySem PySem.W PySem.Calls PyProof.Rows
set_option maxHeartbeats 200000
section
variable {w : World} {A : Around} {E : Value → Shared → Prop} {s s0 : Shared} {e : Ent} {g g₀ : Heap} {L x dx l f sa th : Addr} {m : Str → Option Value} {led led₀ led₁ rest : Led} {d i i' : Nat} {env : Env}
theorem x_assignT {elts : List PySem.Expr} {k : Nat} {tpos pos : Pos} {value : PySem.Expr} {rest : List Stmt} {Q : Flow → Shared → Prop}
    (h : wpAny (model PR w) A (eval value env) (fun v s₁ => wpAny (model PR w) A (assign (.Tuple elts k tpos) env v) (fun _ s₂ => wpAny (model PR w) A (execs rest env) Q E s₂) E s₁) E s)
    (hs : swapsWithSole [.Tuple elts k tpos] value pos.line env = pure false) (hw : swappedStores [.Tuple elts k tpos] value env = pure none) :
    wpAny (model PR w) A (execs (.Assign [.Tuple elts k tpos] value pos :: rest) env) Q E s :=
  x_cons (Assign_Tuple (wpAny_mono h (fun _ _ h₁ => wpAny_mono h₁ (fun _ _ h₂ => kont_next h₂) fun _ _ x => x) fun _ _ x => x) hs hw)
theorem x_swap2 {x y : Str} {px py : Pos} {k : Nat} {tpos pos : Pos} {value : PySem.Expr} {rest : List Stmt} {Q : Flow → Shared → Prop}
    (h : wpAny (model PR w) A (eval value env) (fun v s₁ => wpAny (model PR w) A (unpackItems v 2 none) (fun items s₂ =>
      wpAny (model PR w) A (assignInOrder [bindName env y, bindName env x] items.reverse) (fun _ s₃ => wpAny (model PR w) A (execs rest env) Q E s₃) E s₂) E s₁) E s)
    (hs : swapsWithSole [.Tuple [.Name x px, .Name y py] k tpos] value pos.line env = pure false) (hw : swappedStores [.Tuple [.Name x px, .Name y py] k tpos] value env = pure (some [x, y])) :
    wpAny (model PR w) A (execs (.Assign [.Tuple [.Name x px, .Name y py] k tpos] value pos :: rest) env) Q E s :=
  x_cons (Assign_Tuple_swapped (names := [x, y]) (wpAny_mono h (fun _ _ h₁ => wpAny_mono h₁ (fun _ _ h₂ => wpAny_mono h₂ (fun _ _ h₃ => kont_next h₃) fun _ _ x => x) fun _ _ x => x) fun _ _ x => x) hs hw)
theorem x_swap3 {x y z : Str} {px py pz : Pos} {k : Nat} {tpos pos : Pos} {value : PySem.Expr} {rest : List Stmt} {Q : Flow → Shared → Prop}
    (h : wpAny (model PR w) A (eval value env) (fun v s₁ => wpAny (model PR w) A (unpackItems v 3 none) (fun items s₂ =>
      wpAny (model PR w) A (assignInOrder [bindName env z, bindName env y, bindName env x] items.reverse) (fun _ s₃ => wpAny (model PR w) A (execs rest env) Q E s₃) E s₂) E s₁) E s)
    (hs : swapsWithSole [.Tuple [.Name x px, .Name y py, .Name z pz] k tpos] value pos.line env = pure false) (hw : swappedStores [.Tuple [.Name x px, .Name y py, .Name z pz] k tpos] value env = pure (some [x, y, z])) :
    wpAny (model PR w) A (execs (.Assign [.Tuple [.Name x px, .Name y py, .Name z pz] k tpos] value pos :: rest) env) Q E s :=
  x_cons (Assign_Tuple_swapped (names := [x, y, z]) (wpAny_mono h (fun _ _ h₁ => wpAny_mono h₁ (fun _ _ h₂ => wpAny_mono h₂ (fun _ _ h₃ => kont_next h₃) fun _ _ x => x) fun _ _ x => x) fun _ _ x => x) hs hw)
theorem r_unpackI {t : Addr} {items : Array Value} {n : Nat} {Q : List Value → Shared → Prop} (hh : A.handled = none) (S : St e g L m led s) (ht : g.IsTuple t items) (hn : n = items.size) (h : ∀ s', St e g L m led s' → Q items.toList s') :
    wpAny (model PR w) A (unpackItems (.ref t) n none) Q E s := by
  subst hn
  obtain ⟨o, ho, r⟩ := ht
  exact unpackItems_tuple hh ⟨o, S.keep _ _ ho, r⟩ fun h' he => h _ (S.extNew he)
theorem r_swap2 {t : Addr} {a b : Value} {f1 f2 : Value → Sem Unit} {Q : Unit → Shared → Prop} (hh : A.handled = none) (S : St e g L m led s) (ht : g.IsTuple t [a, b].toArray) (h : ∀ s', St e g L m led s' → wpAny (model PR w) A (f1 b) (fun _ s₁ => wpAny (model PR w) A (f2 a) Q E s₁) E s') :
    wpAny (model PR w) A (unpackItems (.ref t) 2 none) (fun items s₂ => wpAny (model PR w) A (assignInOrder [f1, f2] items.reverse) Q E s₂) E s :=
  r_unpackI hh S ht rfl fun s' S' => by
    refine wpAny_assignInOrder_more (wpAny_mono (h s' S') (fun _ _ h₁ => wpAny_assignInOrder_more (wpAny_mono h₁ (fun _ _ h₂ => wpAny_assignInOrder_none h₂) fun _ _ x => x)) fun _ _ x => x)
theorem r_swap3 {t : Addr} {a b c : Value} {f1 f2 f3 : Value → Sem Unit} {Q : Unit → Shared → Prop} (hh : A.handled = none) (S : St e g L m led s) (ht : g.IsTuple t [a, b, c].toArray)
    (h : ∀ s', St e g L m led s' → wpAny (model PR w) A (f1 c) (fun _ s₁ => wpAny (model PR w) A (f2 b) (fun _ s₂ => wpAny (model PR w) A (f3 a) Q E s₂) E s₁) E s') :
    wpAny (model PR w) A (unpackItems (.ref t) 3 none) (fun items s₂ => wpAny (model PR w) A (assignInOrder [f1, f2, f3] items.reverse) Q E s₂) E s :=
  r_unpackI hh S ht rfl fun s' S' => by
    refine wpAny_assignInOrder_more (wpAny_mono (h s' S') (fun _ _ h₁ => wpAny_assignInOrder_more (wpAny_mono h₁ (fun _ _ h₂ => wpAny_assignInOrder_more (wpAny_mono h₂ (fun _ _ h₃ => wpAny_assignInOrder_none h₃) fun _ _ x => x)) fun _ _ x => x)) fun _ _ x => x)
theorem r_addL {b : Addr} {vs ws : Array Value} {Q : Value → Shared → Prop} (C : Cx w g A d) (S : St e g L m led s) (hl : g.IsList l vs) (hb : g.IsList b ws) (hz : vs.size + ws.size ≤ sizeLine)
    (h : ∀ g' a s', g.StaysIn g' → Cx w g' A d → St e g' L m led s' → g'.IsList a (vs ++ ws) → Q (.ref a) s') : wpAny (model PR w) A (binaryOp .Add (.ref l) (.ref b)) Q E s := by
  obtain ⟨⟨cls, dd, data, sl⟩, ho, hc, n, hd⟩ := id hl
  obtain ⟨⟨cls2, dd2, data2, sl2⟩, ho2, hc2, n2, hd2⟩ := id hb
  simp only at hc hd hc2 hd2
  subst hc hd hc2 hd2
  have ho := S.keep _ _ ho
  have ho2 := S.keep _ _ ho2
  refine concat_meets ⟨_, ho, rfl⟩ ⟨_, ho2, rfl⟩ noFill_list_add seq_list_add PySem.F.slot_list_add PySem.F.entry_list_add (PySem.F.args_list_add_2 _ _) (list_addW l b vs ws n n2 dd dd2 sl sl2 (by simpa using hz)) ⟨ho, ho2, ?_⟩
  obtain ⟨g1, hg1, S1, ha⟩ := (S.push (o := { cls := .type "list", data := .seq (vs ++ ws) }) rfl (tk := s.toks)).freeze0
  exact h g1 _ _ hg1 (C.mono hg1) S1 ⟨_, ha, rfl, _, rfl⟩
theorem small13 : ∀ k : Fin 14, Builtin.Range.small 0 ((k.val : Nat) : Int) 1 = true ∧ Builtin.Range.rangeSize 0 ((k.val : Nat) : Int) 1 = ((k.val : Nat) : Int) := by decide +kernel
theorem loopRange {x : Str} {px : Pos} {r : Addr} {n : Nat} {t u v : Tok} {body : List Stmt} {Q : Flow → Shared → Prop} (hh : A.handled = none) (hr : g.get? r = some { cls := .type "range", data := .fields #[.int 0 t, .int n u, .int 1 v] }) (hn : n < 14)
    (J : Nat → Heap → (Str → Option Value) → Led → Prop) (S : St e g L m led s) (h0 : J 0 g m led)
    (turn : ∀ I i v g' m' led' o' s', i < n → g.StaysIn g' → J i g' m' led' → (∃ t, v = .int (0 + i * 1) t) → St e g' L m' ((I, o') :: led') s' →
      wpAny (model PR w) A (assign (.Name x px) env v) (fun _ s₂ => wpAny (model PR w) A (execs body env) (fun f s₃ => match f with
            | .next | .cont => ∃ g'' m'' led'', g'.StaysIn g'' ∧ J (i + 1) g'' m'' led'' ∧ St e g'' L m'' ((I, o') :: led'') s₃
            | .brk => Q .next s₃
            | .ret v => Q (.ret v) s₃) noE s₂) noE s')
    (fin : ∀ g' m' led' s', g.StaysIn g' → J n g' m' led' → St e g' L m' led' s' → Q .next s') :
    wpAny (model PR w) A (pyIter (.ref r)) (fun it s₂ => codeAny (model PR w) A (.forLoop (.Name x px) it body [] env) (fun r s' => match r with | .ok f => Q f s' | .error e => cameBackBy (model PR w) A env E e s') s₂) E s := by
  have hsm := small13 ⟨n, hn⟩
  refine wpAny_pyIter_range (a := 0) (b := (n : Int)) (c := 1) (S.keep _ _ hr) hsm.1 ?_
  rw [hsm.2]
  refine loopW (Walks.range hh s.heap.objs.size 0 1 n) (fun i h x => ⟨_, x, _, rfl⟩) ?_ (fun i v s Q E x q => wpAny_of_eq rfl q) J (S.push rfl) ?_ h0 (turn _) fin
  · intro b hb hnb
    simp only [List.mem_cons, List.not_mem_nil, or_false] at hb
    exact absurd hb hnb
  · show IsRangeIter _ _ _ _ _
    rw [show (0 : Int) + ((0 : Nat) : Int) * 1 = 0 from rfl, show (n : Int) - ((0 : Nat) : Int) = n by omega]
    exact Heap.get?_push_size _ rfl
theorem r_range1 {n : Nat} {t : Tok} {Q : Value → Shared → Prop} (C : Cx w g A d) (S : St e g L m led s)
    (h : ∀ g' a t u v s', g.StaysIn g' → Cx w g' A d → St e g' L m led s' → g'.get? a = some { cls := .type "range", data := .fields #[.int 0 t, .int n u, .int 1 v] } → Q (.ref a) s') : wpAny (model PR w) A (call (.type "range") [.int n t]) Q E s := by
  refine call_range_1 ?_
  obtain ⟨g1, hg1, S1, ha⟩ := (S.push (o := { cls := .type "range", data := .fields #[.int 0 s.toks, .int n t, .int 1 (s.toks + 1)] }) rfl (tk := s.toks + 1 + 1)).freeze0
  exact h g1 _ _ _ _ _ hg1 (C.mono hg1) S1 ha
end
/-- the words of a path, and whether an operand is behind -/
inductive Chain : List Tk → Bool → Prop
  | nil : Chain [] false
  | opd {ts more b} : Chain ts false → Opd more b → Chain (ts ++ more) b
  | beh {ts more b} : Chain ts true → Beh more b → Chain (ts ++ more) b
theorem Opd.len {ts b} (h : Opd ts b) : ts.length ≤ 3 := by cases h <;> exact Nat.le_of_ble_eq_true rfl
theorem Beh.len {ts b} (h : Beh ts b) : ts.length ≤ 3 := by cases h <;> exact Nat.le_of_ble_eq_true rfl
/-- the loop's state in _law_words -/
structure JW (sa : Addr) (i : Nat) (g : Heap) (m : Str → Option Value) (led : Led) : Prop where
  src : Src sa led
  source : m "source" = some (.ref sa)
  ex : ∃ fl items ts b, m "found" = some (.ref fl) ∧ m "is_behind" = some (.bool b) ∧ g.IsList fl items ∧ Toks g items.toList ts ∧ Chain ts b ∧ ts.length ≤ 3 * i
local macro_rules | `(tactic| tb_rel) => `(tactic| first
  | ((with_reducible refine x_assignT ?_ ?hs ?hw); (case hs => rfl); (case hw => rfl))
  | ((with_reducible refine x_swap2 ?_ ?hs ?hw); (case hs => rfl); (case hw => rfl))
  | ((with_reducible refine x_swap3 ?_ ?hs ?hw); (case hs => rfl); (case hw => rfl))
  | with_reducible refine PySem.wpAny_bindName ?_
  | with_reducible refine PyProof.Rows.assign_Name ?_
  | ((with_reducible show wpAny _ _ (unpackItems _ 2 _) _ _ _); (rename St _ _ _ _ _ _ => S0); refine r_swap2 (Cx.hand (by assumption)) S0 (by assumption) ?_; clear S0; intro s' S')
  | ((with_reducible show wpAny _ _ (unpackItems _ 3 _) _ _ _); (rename St _ _ _ _ _ _ => S0); refine r_swap3 (Cx.hand (by assumption)) S0 (by assumption) ?_; clear S0; intro s' S')
  | ((with_reducible show wpAny _ _ (assign (.Tuple [.Name _ _, .Name _ _] _ _) _ (.ref _)) _ _ _); (rename St _ _ _ _ _ _ => S0); refine r_unpack2 (Cx.hand (by assumption)) S0 (by assumption) ?_; clear S0; intro s' S'))
section
variable {w : World} {A : Around} {E : Value → Shared → Prop} {s s0 : Shared} {e : Ent} {g g₀ : Heap} {L x dx l f sa th : Addr} {m : Str → Option Value} {led led₀ led₁ rest : Led} {d i i' : Nat}
set_option maxHeartbeats 8000000 in
theorem k322 (C : Cx w g A (d + 5)) (H : Has g led s.heap) (hs : Src sa led) :
    codeAny (model PR w) A (.call (.ref 322) ⟨[.ref sa], []⟩) (DrawG g led s sa fun g' v => ∃ l items ts b, v = .ref l ∧ g'.IsList l items ∧ Toks g' items.toList ts ∧ Chain ts b ∧ ts.length ≤ 36) s := by
  refine' enter (binds := [("source", .ref sa)]) ?C ?H ?ho ?hcd ?hb ?hl ?_ ?c1 ?c2 ?c3 ?c4; tb_start
  intro L s1 S C1
  repeat tb_rel
  refine x_for ?_ (fun _ => rfl)
  repeat tb_rel
  rename St _ _ _ _ _ _ => S
  refine r_draw S (k287 (d := 0) (Cx.less (by assumption) (by omega)) S.hasL hs (by decide) (by decide)) fun v g' led' s' hg hP hs S => ?_
  obtain ⟨n, tk, rfl, hn0, hn1⟩ := hP
  obtain ⟨n, rfl⟩ := Int.eq_ofNat_of_zero_le hn0
  have C2 := Cx.mono (by assumption) ‹Heap.StaysIn _ g'›
  repeat tb_rel
  rename St _ _ _ _ _ _ => S
  refine r_range1 C2 S fun g1 r t u v s' hg1 C3 S hr => ?_
  rename Heap.IsList _ _ _ => hl0
  have hl1 := lst_keeps hl0 (by assumption)
  have hl2 := lst_keeps hl1 (by assumption)
  have hl3 := lst_keeps hl2 hg1
  refine loopRange C3.hand hr (by omega) (fun i g m led => JW sa i g m led) S ⟨by assumption, rfl, _, _, [], false, rfl, rfl, hl3, .nil, .nil, Nat.zero_le _⟩ ?_ ?_
  · intro I i v g2 m2 led2 o' s2 hi hg2 J hv S
    obtain ⟨tv, rfl⟩ := hv
    obtain ⟨hsrc, hsource, fl, items, ts, b, hfound, hbeh, hl, htk, hch, hlen⟩ := J
    have C4 := C3.mono hg2
    repeat tb_rel
    cases b
    · refine ite_f rfl ?_
      repeat tb_rel
      rename St _ _ _ _ _ _ => S
      have S1 := S.perm (List.perm_append_singleton (I, o') led2)
      refine r_drawR S1 (k308 (d := 0) (C4.less (by omega)) S1.hasSub hsrc) fun val g3 led3 s3 hg3 hP hs3 S => ?_
      obtain ⟨a, l2, items2, more, b2, rfl, hT, hL, hTk, hB⟩ := hP
      have C5 := C4.mono hg3
      repeat tb_rel
      rename St _ _ _ _ _ _ => S
      have hz1 := htk.length
      have hz2 := hTk.length
      have hz3 := hB.len
      rw [Array.length_toList] at hz1 hz2
      refine r_addL C5 S (lst_keeps hl hg3) hL (by rw [sizeLine_eq]; omega) fun g4 fl' s' hg4 C6 S hl4 => ?_
      repeat tb_rel
      rename St _ _ _ _ _ _ => S
      have S := S.perm (List.perm_append_singleton (I, o') led3).symm
      refine ⟨g4, _, led3, fun b o q => hg4 b o (hg3 b o q), ?_, S⟩
      refine ⟨hs3, hsource, fl', _, ts ++ more, b2, rfl, rfl, hl4, ?_, .opd hch hB, ?_⟩
      · rw [Array.toList_append]
        exact (htk.mono fun b o q => hg4 b o (hg3 b o q)).app (hTk.mono hg4)
      · rw [List.length_append]; omega
    · refine ite_t rfl ?_
      repeat tb_rel
      rename St _ _ _ _ _ _ => S
      have S1 := S.perm (List.perm_append_singleton (I, o') led2)
      refine r_drawR S1 (k315 (d := 0) (C4.less (by omega)) S1.hasSub hsrc) fun val g3 led3 s3 hg3 hP hs3 S => ?_
      obtain ⟨a, l2, items2, more, b2, rfl, hT, hL, hTk, hB⟩ := hP
      have C5 := C4.mono hg3
      repeat tb_rel
      rename St _ _ _ _ _ _ => S
      have hz1 := htk.length
      have hz2 := hTk.length
      have hz3 := hB.len
      rw [Array.length_toList] at hz1 hz2
      refine r_addL C5 S (lst_keeps hl hg3) hL (by rw [sizeLine_eq]; omega) fun g4 fl' s' hg4 C6 S hl4 => ?_
      repeat tb_rel
      rename St _ _ _ _ _ _ => S
      have S := S.perm (List.perm_append_singleton (I, o') led3).symm
      refine ⟨g4, _, led3, fun b o q => hg4 b o (hg3 b o q), ?_, S⟩
      refine ⟨hs3, hsource, fl', _, ts ++ more, b2, rfl, rfl, hl4, ?_, .beh hch hB, ?_⟩
      · rw [Array.toList_append]
        exact (htk.mono fun b o q => hg4 b o (hg3 b o q)).app (hTk.mono hg4)
      · rw [List.length_append]; omega
  · intro g2 m2 led2 s2 hg2 J S
    obtain ⟨hsrc, hsource, fl, items, ts, b, hfound, hbeh, hl, htk, hch, hlen⟩ := J
    have C4 := C3.mono hg2
    repeat tb_rel
    rename St _ _ _ _ _ _ => S
    exact S.draw hsrc ⟨fl, items, ts, b, rfl, hl, htk, hch, by omega⟩
end
/- M30 -/
open PySem PySem.W PySem.Calls PyProof.Rows
set_option maxHeartbeats 200000
section
variable {w : World} {A : Around} {E : Value → Shared → Prop} {s s0 : Shared} {e : Ent} {g g₀ : Heap} {L x dx l f sa th : Addr} {m : Str → Option Value} {led led₀ led₁ rest : Led} {d i i' : Nat} {env : Env}
theorem tup_up {g g' : Heap} {a : Addr} {items : Array Value} (k : g.StaysIn g') (h : g.IsTuple a items) : g'.IsTuple a items := tup_keeps h k
theorem r_titem0 {a : Addr} {x y : Value} {u : Tok} {value slice : PySem.Expr} {Q : Value → Shared → Prop} (S : St e g L m led s) (ht : g.IsTuple a #[x, y]) (h : Q x s)
    (hs : subscripted slice false (.ref a) (.int 0 u) = operate [.ref a, .int 0 u] (getItem (.ref a) (.int 0 u)) := by with_unfolding_all rfl) (hg : ∀ r, letTemporaryGo value (.ref a) r = pure () := by intro _; with_unfolding_all rfl) :
    wpAny (model PR w) A (subscriptTail value slice (.ref a) (.int 0 u)) Q E s :=
  let ⟨o, ho, r⟩ := ht; item_tuple (j := 0) ⟨o, S.keep _ _ ho, r⟩ (by decide) (by decide) (by rfl) rfl h hs hg
theorem r_titem1 {a : Addr} {x y : Value} {u : Tok} {value slice : PySem.Expr} {Q : Value → Shared → Prop} (S : St e g L m led s) (ht : g.IsTuple a #[x, y]) (h : Q y s)
    (hs : subscripted slice false (.ref a) (.int 1 u) = operate [.ref a, .int 1 u] (getItem (.ref a) (.int 1 u)) := by with_unfolding_all rfl) (hg : ∀ r, letTemporaryGo value (.ref a) r = pure () := by intro _; with_unfolding_all rfl) :
    wpAny (model PR w) A (subscriptTail value slice (.ref a) (.int 1 u)) Q E s :=
  let ⟨o, ho, r⟩ := ht; item_tuple (j := 1) ⟨o, S.keep _ _ ho, r⟩ (by decide) (by decide) (by rfl) rfl h hs hg
def isStr (x : Str) : Value → Bool
  | .str y _ => y == x
  | _ => false
theorem any_strs {x : Str} : ∀ {vs : List Value}, allStr vs = true → vs.any (isStr x) = (strsOf vs).any (· == x)
  | [], _ => rfl
  | .str y t :: r, h => by
    show (isStr x (.str y t) || r.any (isStr x)) = ((y == x) || (strsOf r).any (· == x))
    rw [any_strs (vs := r) h]; rfl
theorem mem_strs {vs : List Value} {v : Value} (h : allStr vs = true) (hv : v ∈ vs) : ∃ y t, v = .str y t := by
  induction vs with
  | nil => cases hv
  | cons a r ih =>
    cases a with
    | str y t =>
      rcases List.mem_cons.mp hv with rfl | hv
      · exact ⟨y, t, rfl⟩
      · exact ih h hv
    | _ => cases h
theorem r_inL {vs : List Value} {x : Str} {u : Tok} {Q : Value → Shared → Prop} (S : St e g L m led s) (hl : g.IsList l vs.toArray) (hv : allStr vs = true) (h : Q (.bool ((strsOf vs).any (· == x))) s) :
    wpAny (model PR w) A (compareOp .In (.str x u) (.ref l)) Q E s := by
  obtain ⟨o, ho, r⟩ := hl
  refine SeqAt.in_listAt (isStr x) ⟨o, S.keep _ _ ho, r⟩ (fun y hy => ?_) ?_
  · obtain ⟨z, t, rfl⟩ := mem_strs hv (by simpa using hy)
    exact SeqAt.EqAt.str_str z t x u
  · rw [← Array.any_toList]
    show Q (.bool (vs.any (isStr x))) s
    rw [any_strs hv]
    exact h
end
/-- how a word is written -/
def Written (k x y : Str) : Prop :=
  (k = sVar ∧ y = Str.ofString "$" ++ x) ∨ (k ≠ sVar ∧ k ≠ sLit ∧ y = x) ∨
  (k = sLit ∧ ∃ q, (q = 39 ∨ q = 34) ∧ y = (⟨#[q]⟩ ++ x) ++ ⟨#[q]⟩ ∧ (q ∉ x.cps.toList ∨ (q = 39 ∧ 34 ∈ x.cps.toList)))
theorem quo_found (x : Str) : (!(Builtin.Str.occurrences x (Str.ofString "\"") 0 x.length 1).isEmpty) = decide (34 ∈ x.cps.toList) := by rw [L_quo]; exact StrLaws.found_one x 34
theorem apo_found (x : Str) : (!(Builtin.Str.occurrences x (Str.ofString "'") 0 x.length 1).isEmpty) = decide (39 ∈ x.cps.toList) := by rw [L_apo]; exact StrLaws.found_one x 39
local macro_rules | `(tactic| tb_rel) => `(tactic| first
  | ((with_reducible show wpAny _ _ (subscriptTail _ _ (.ref _) (.int 0 _)) _ _ _); (rename St _ _ _ _ _ _ => S0); refine r_titem0 S0 (by first | assumption | exact tup_up (by assumption) (by assumption) | exact tup_up (by assumption) (tup_up (by assumption) (by assumption)) | exact tup_up (by assumption) (tup_up (by assumption) (tup_up (by assumption) (by assumption)))) ?_)
  | ((with_reducible show wpAny _ _ (subscriptTail _ _ (.ref _) (.int 1 _)) _ _ _); (rename St _ _ _ _ _ _ => S0); refine r_titem1 S0 (by first | assumption | exact tup_up (by assumption) (by assumption) | exact tup_up (by assumption) (tup_up (by assumption) (by assumption)) | exact tup_up (by assumption) (tup_up (by assumption) (tup_up (by assumption) (by assumption)))) ?_)
  | ((with_reducible show wpAny _ _ (compareOp .In (.str _ _) (.ref _)) _ _ _); (rename St _ _ _ _ _ _ => S0); (rename Heap.IsList _ _ _ => l0); refine r_inL S0 l0 (by rfl) ?_))
section
variable {w : World} {A : Around} {E : Value → Shared → Prop} {s s0 : Shared} {e : Ent} {g g₀ : Heap} {L x dx l f sa th wd : Addr} {m : Str → Option Value} {led led₀ led₁ rest : Led} {d i i' : Nat}
set_option maxHeartbeats 8000000 in
theorem k329 {k tx : Str} {t1 t2 : Tok} (C : Cx w g A (d + 3)) (H : Has g led s.heap) (hs : Src sa led) (ht : g.IsTuple wd #[.str k t1, .str tx t2]) (hz : tx.length ≤ 100) :
    codeAny (model PR w) A (.call (.ref 329) ⟨[.ref sa, .ref wd], []⟩) (DrawG g led s sa fun _ v => ∃ y tk, v = .str y tk ∧ Written k tx y) s := by
  refine' enter (binds := [("source", .ref sa), ("word", .ref wd)]) ?C ?H ?ho ?hcd ?hb ?hl ?_ ?c1 ?c2 ?c3 ?c4; tb_start
  intro L s1 S C1
  have hz' : tx.length ≤ 5000000 := by omega
  repeat tb_rel
  refine ite_c (fun h1 => ?_) (fun h1 => ?_)
  · repeat tb_rel
    rename St _ _ _ _ _ _ => S
    refine r_cat S (cat_ok (by decide +kernel) hz') fun tk s' S => ?_
    repeat tb_rel
    exact S.draw hs ⟨_, _, rfl, .inl ⟨beq_iff_eq.mp h1, rfl⟩⟩
  have h1' : k ≠ sVar := fun h => by rw [h] at h1; exact absurd h1 (by decide +kernel)
  repeat tb_rel
  refine ite_c (fun h2 => ?_) (fun h2 => ?_)
  · have h2' : k ≠ sLit := fun h => by rw [h] at h2; exact absurd h2 (by decide +kernel)
    repeat tb_rel
    rename St _ _ _ _ _ _ => S
    exact S.draw hs ⟨_, _, rfl, .inr (.inl ⟨h1', h2', rfl⟩)⟩
  have h2' : k = sLit := bne_eq_false_iff_eq.mp h2
  repeat tb_rel
  refine ite_b (quo_found tx) ?_
  refine ite_c (fun h3 => ?_) (fun h3 => ?_)
  · have h3' := of_decide_eq_true h3
    repeat tb_rel
    rename St _ _ _ _ _ _ => S
    refine r_cat S (cat_ok (by decide +kernel) hz') fun tk s' S => ?_
    repeat tb_rel
    rename St _ _ _ _ _ _ => S
    refine r_cat S (cat_ok (by rw [Str.length_append, show (Str.ofString "'").length = 1 by decide +kernel]; omega) (by decide +kernel)) fun tk s' S => ?_
    repeat tb_rel
    exact S.draw hs ⟨_, _, rfl, .inr (.inr ⟨h2', 39, .inl rfl, by rw [L_apo], .inr ⟨rfl, h3'⟩⟩)⟩
  have h3' := of_decide_eq_false h3
  repeat tb_rel
  refine ite_b (apo_found tx) ?_
  refine ite_c (fun h4 => ?_) (fun h4 => ?_)
  · repeat tb_rel
    rename St _ _ _ _ _ _ => S
    refine r_cat S (cat_ok (by decide +kernel) hz') fun tk s' S => ?_
    repeat tb_rel
    rename St _ _ _ _ _ _ => S
    refine r_cat S (cat_ok (by rw [Str.length_append, show (Str.ofString "\"").length = 1 by decide +kernel]; omega) (by decide +kernel)) fun tk s' S => ?_
    repeat tb_rel
    exact S.draw hs ⟨_, _, rfl, .inr (.inr ⟨h2', 34, .inr rfl, by rw [L_quo], .inl h3'⟩)⟩
  have h4' := of_decide_eq_false h4
  repeat tb_rel
  rename _ ∈ strsOf _ => hq
  have hq' : _ ∈ ([Str.ofString "'", Str.ofString "\""] : List Str) := hq
  clear hq
  rename Src _ _ => hs'
  rename St _ _ _ _ _ _ => S
  have hql := len_in (by decide +kernel) hq'
  have hql2 : _ ≤ 100 := (by decide +kernel : ∀ y ∈ ([Str.ofString "'", Str.ofString "\""] : List Str), y.length ≤ 100) _ hq'
  refine r_cat S (cat_ok hql hz') fun tk s' S => ?_
  repeat tb_rel
  rename St _ _ _ _ _ _ => S
  refine r_cat S (cat_ok (by rw [Str.length_append]; omega) hql) fun tk s' S => ?_
  repeat tb_rel
  refine S.draw hs' ⟨_, _, rfl, .inr (.inr ⟨h2', ?_⟩)⟩
  rcases List.mem_cons.mp hq' with rfl | hq'
  · exact ⟨39, .inl rfl, by rw [L_apo], .inl h4'⟩
  · rcases List.mem_cons.mp hq' with rfl | hq'
    · exact ⟨34, .inr rfl, by rw [L_quo], .inl h3'⟩
    · cases hq'
end
/- M31 -/
open PySem PySem.W PySem.Calls PyProof.Rows
set_option maxHeartbeats 200000
def Bare (ahead k x : Str) : Prop := ahead ∈ (["(", "[", ",", ")", "]"] : List Str) ∨ (x ∈ ([")", "]", ",", "["] : List Str) ∧ k = sSign)
def GAPS : List Str := [" ", " ", "\t", "\n  "]
def GapOk (ahead k x : Str) (rows : List Wd) (gap : Str) : Prop := gap ∈ GAPS ∨ (gap = Str.ofString "" ∧ (Bare ahead k x ∨ rows = []))
/-- the text that is laid, and its rows -/
inductive Laid : List Tk → Str → List Wd → Str → Prop
  | start {lead : Str} : lead ∈ (["", " "] : List Str) → Laid [] lead [] (Str.ofString "(")
  | word {ts text rows ahead k x gap y} : Laid ts text rows ahead → GapOk ahead k x rows gap → Written k x y →
      Laid (ts ++ [(k, x)]) ((text ++ gap) ++ y) (rows ++ [(k, x, (((text ++ gap).length : Nat) : Int))]) (if k = sSign then x else Str.ofString "")
theorem any_mem {ys : List Str} {x : Str} (h : ys.any (· == x) = true) : x ∈ ys := by
  rw [List.any_eq_true] at h
  obtain ⟨y, hy, e⟩ := h
  rw [← beq_iff_eq.mp e]; exact hy
theorem Written.len {k x y : Str} (h : Written k x y) : y.length ≤ x.length + 2 := by
  rcases h with ⟨_, rfl⟩ | ⟨_, _, rfl⟩ | ⟨_, q, _, rfl, _⟩
  · rw [Str.length_append, show (Str.ofString "$").length = 1 by decide +kernel]; omega
  · omega
  · rw [Str.length_append, Str.length_append, show (⟨#[q]⟩ : Str).length = 1 from rfl]; omega
def IsRow (g : Heap) (v : Value) (x : Wd) : Prop := ∃ a t1 t2 t3, v = .ref a ∧ g.IsTuple a #[.str x.1 t1, .str x.2.1 t2, .int x.2.2 t3]
inductive Rows (g : Heap) : List Value → List Wd → Prop
  | nil : Rows g [] []
  | cons {v x vs xs} : IsRow g v x → Rows g vs xs → Rows g (v :: vs) (x :: xs)
theorem IsRow.mono {g g' : Heap} {v : Value} {x : Wd} (h : IsRow g v x) (k : g.StaysIn g') : IsRow g' v x := let ⟨a, t1, t2, t3, e, T⟩ := h; ⟨a, t1, t2, t3, e, tup_keeps T k⟩
theorem Rows.mono {g g' : Heap} {vs : List Value} {xs : List Wd} (h : Rows g vs xs) (k : g.StaysIn g') : Rows g' vs xs := by
  induction h with
  | nil => exact .nil
  | cons a _ ih => exact .cons (a.mono k) ih
theorem Rows.snoc {g : Heap} {vs : List Value} {xs : List Wd} {v : Value} {x : Wd} (h : Rows g vs xs) (a : IsRow g v x) : Rows g (vs ++ [v]) (xs ++ [x]) := by
  induction h with
  | nil => exact .cons a .nil
  | cons b _ ih => exact .cons b ih
theorem Rows.length {g : Heap} {vs : List Value} {xs : List Wd} (h : Rows g vs xs) : vs.length = xs.length := by
  induction h with
  | nil => rfl
  | cons _ _ ih => rw [List.length_cons, List.length_cons, ih]
theorem Toks.at {g : Heap} : ∀ {vs : List Value} {xs : List Tk} {i : Nat} {v : Value}, Toks g vs xs → vs[i]? = some v → ∃ x, xs[i]? = some x ∧ IsTok g v x
  | _, _, 0, _, .cons a _, h => by cases h; exact ⟨_, rfl, a⟩
  | _, _, i + 1, _, .cons _ r, h => by
    obtain ⟨x, e, hx⟩ := Toks.at (i := i) r (by simpa using h)
    exact ⟨x, by simpa using e, hx⟩
section
variable {w : World} {A : Around} {E : Value → Shared → Prop} {s s0 : Shared} {e : Ent} {g g₀ : Heap} {L x dx l f sa th : Addr} {m : Str → Option Value} {led led₀ led₁ rest : Led} {d i i' : Nat} {env : Env}
def SameG {e : Ent} {g : Heap} {L : Addr} {m : Str → Option Value} {led : Led} {s : Shared} (_ : St e g L m led s) (g' : Heap) (s₂ : Shared) : Prop := St e g' L m led s₂
theorem x_if_join {test : PySem.Expr} {body orelse : List Stmt} {pos : Pos} {rest : List Stmt} {Q : Flow → Shared → Prop} (P : Shared → Prop)
    (h : wpAny (model PR w) A (isTrue test env (eval test env)) (fun b s₂ => if b = true then wpAny (model PR w) A (execs body env) (fun fl s₃ => fl = .next ∧ P s₃) E s₂ else wpAny (model PR w) A (execs orelse env) (fun fl s₃ => fl = .next ∧ P s₃) E s₂) E s)
    (k : ∀ s', P s' → wpAny (model PR w) A (execs rest env) Q E s') : wpAny (model PR w) A (execs (.If test body orelse pos :: rest) env) Q E s := by
  refine x_if (wpAny_mono h (fun b s₂ h₂ => ?_) fun _ _ x => x)
  have go : ∀ (fl : Flow) (s₃ : Shared), fl = .next ∧ P s₃ → kont (model PR w) A rest env Q E fl s₃ := by
    rintro fl s₃ ⟨rfl, hp⟩
    exact kont_next (k _ hp)
  cases b with
  | true => rw [if_pos rfl] at h₂ ⊢; exact wpAny_mono h₂ go fun _ _ x => x
  | false => rw [if_neg (by decide)] at h₂ ⊢; exact wpAny_mono h₂ go fun _ _ x => x
end
theorem perm3 (a b : Addr × Obj) (l : Led) : (b :: a :: l).Perm (l ++ [a, b]) := (List.Perm.swap a b l).trans (List.perm_append_comm (l₁ := [a, b]) (l₂ := l))
/-- the loop's state in _law_text -/
structure JT (sa rw : Addr) (ts : List Tk) (i : Nat) (g : Heap) (m : Str → Option Value) (led : Led) : Prop where
  source : m "source" = some (.ref sa)
  rows : m "rows" = some (.ref rw)
  ex : ∃ text rows ahead its k led2 t1 t2, led = (rw, lstObj its k) :: led2 ∧ Src sa led2 ∧ m "text" = some (.str text t1) ∧ m "ahead" = some (.str ahead t2) ∧ Rows g its.toList rows ∧ Laid (ts.take i) text rows ahead ∧ text.length ≤ 200 * (i + 1) ∧ rows.length = i
/- M41 -/
open PySem PySem.W PySem.Calls PyProof.Rows
set_option maxHeartbeats 200000
/-- which word may stand in which state, and the state behind it: 0 an operand is awaited, 1 behind an operand, 2 behind a function's name, 3 behind a kind, 4 behind a kind's open bracket, 5 behind an axis -/
inductive Nx : Nat → Str → Str → Nat → Prop
  | num {x : Str} : x ∈ NUMS → Nx 0 sNum x 1
  | lit {x : Str} : x ∈ LITS → Nx 0 sLit x 1
  | var {p f : Str} : p ∈ PRE → f ∈ NMS → Nx 0 sVar (p ++ f) 1
  | name {p f : Str} : p ∈ PRE → f ∈ NMS → Nx 0 sName (p ++ f) 1
  | star {x : Str} : x ∈ STARS → Nx 0 sName x 1
  | func {x : Str} : x ∈ FUNS → Nx 0 sFun x 2
  | fpar : Nx 2 sSign (Str.ofString "(") 0
  | kind {x : Str} : x ∈ KNDS → Nx 0 sKind x 3
  | kpar : Nx 3 sSign (Str.ofString "(") 4
  | kend : Nx 4 sSign (Str.ofString ")") 1
  | axis {x : Str} : x ∈ AXES → Nx 0 sAxis x 5
  | cols : Nx 5 sSign (Str.ofString "::") 0
  | dot {x : Str} : x ∈ ([".", ".."] : List Str) → Nx 0 sSign x 1
  | opens {x : Str} : x ∈ (["@", "("] : List Str) → Nx 0 sSign x 0
  | op {x : Str} : x ∈ (["/", "//", "-"] : List Str) → Nx 0 sOp x 0
  | bword {x : Str} : x ∈ WOPS → Nx 1 sOp x 0
  | bstar : Nx 1 sOp (Str.ofString "*") 0
  | bclose {x : Str} : x ∈ ([")", "]"] : List Str) → Nx 1 sSign x 1
  | bopens {x : Str} : x ∈ (["[", ","] : List Str) → Nx 1 sSign x 0
  | bop {x : Str} : x ∈ OPS → Nx 1 sOp x 0
inductive Seq : List Tk → Nat → Prop
  | nil : Seq [] 0
  | snoc {ts q k x q'} : Seq ts q → Nx q k x q' → Seq (ts ++ [(k, x)]) q'
theorem Chain.seq {ts : List Tk} {b : Bool} (h : Chain ts b) : Seq ts (if b = true then 1 else 0) := by
  have two : ∀ {ts : List Tk} {q k x q' k2 x2 q''}, Seq ts q → Nx q k x q' → Nx q' k2 x2 q'' → Seq (ts ++ [(k, x), (k2, x2)]) q'' := fun {ts q k x q' k2 x2 q''} a b c => by
    have := (a.snoc b).snoc c
    rw [List.append_assoc] at this; exact this
  induction h with
  | nil => exact .nil
  | opd _ o ih =>
    cases o with
    | num h => exact ih.snoc (.num h)
    | lit h => exact ih.snoc (.lit h)
    | var h1 h2 => exact ih.snoc (.var h1 h2)
    | name h1 h2 => exact ih.snoc (.name h1 h2)
    | star h => exact ih.snoc (.star h)
    | func h => exact two ih (.func h) .fpar
    | kind h =>
      have := (two ih (.kind h) .kpar).snoc .kend
      rw [List.append_assoc] at this; exact this
    | axis h => exact two ih (.axis h) .cols
    | dot h => exact ih.snoc (.dot h)
    | opens h => exact ih.snoc (.opens h)
    | op h => exact ih.snoc (.op h)
  | beh _ o ih =>
    cases o with
    | word h => exact ih.snoc (.bword h)
    | star => exact ih.snoc .bstar
    | close h => exact ih.snoc (.bclose h)
    | opens h => exact ih.snoc (.bopens h)
    | op h => exact ih.snoc (.bop h)
def okb (c : Nat) : Bool := decide (c < 128) || c == 233
/-- what is plain of a word -/
def plainOk (k x : Str) : Bool := x.cps.toList.all okb && decide (x.length ≤ 100) && !(k == sOp && x == Str.ofString "")
theorem Nx.plain {q q' : Nat} {k x : Str} (h : Nx q k x q') : plainOk k x = true := by
  cases h with
  | num h => exact (by decide +kernel : ∀ x ∈ NUMS, plainOk sNum x = true) _ h
  | lit h => exact (by decide +kernel : ∀ x ∈ LITS, plainOk sLit x = true) _ h
  | var h1 h2 => exact (by decide +kernel : ∀ p ∈ PRE, ∀ f ∈ NMS, plainOk sVar (p ++ f) = true) _ h1 _ h2
  | name h1 h2 => exact (by decide +kernel : ∀ p ∈ PRE, ∀ f ∈ NMS, plainOk sName (p ++ f) = true) _ h1 _ h2
  | star h => exact (by decide +kernel : ∀ x ∈ STARS, plainOk sName x = true) _ h
  | func h => exact (by decide +kernel : ∀ x ∈ FUNS, plainOk sFun x = true) _ h
  | fpar => decide +kernel
  | kind h => exact (by decide +kernel : ∀ x ∈ KNDS, plainOk sKind x = true) _ h
  | kpar => decide +kernel
  | kend => decide +kernel
  | axis h => exact (by decide +kernel : ∀ x ∈ AXES, plainOk sAxis x = true) _ h
  | cols => decide +kernel
  | dot h => exact (by decide +kernel : ∀ x ∈ ([".", ".."] : List Str), plainOk sSign x = true) _ h
  | opens h => exact (by decide +kernel : ∀ x ∈ (["@", "("] : List Str), plainOk sSign x = true) _ h
  | op h => exact (by decide +kernel : ∀ x ∈ (["/", "//", "-"] : List Str), plainOk sOp x = true) _ h
  | bword h => exact (by decide +kernel : ∀ x ∈ WOPS, plainOk sOp x = true) _ h
  | bstar => decide +kernel
  | bclose h => exact (by decide +kernel : ∀ x ∈ ([")", "]"] : List Str), plainOk sSign x = true) _ h
  | bopens h => exact (by decide +kernel : ∀ x ∈ (["[", ","] : List Str), plainOk sSign x = true) _ h
  | bop h => exact (by decide +kernel : ∀ x ∈ OPS, plainOk sOp x = true) _ h
theorem Seq.plain {ts : List Tk} {q : Nat} (h : Seq ts q) : ∀ p ∈ ts, plainOk p.1 p.2 = true := by
  induction h with
  | nil => intro p h; cases h
  | snoc _ n ih =>
    intro p hp
    rcases List.mem_append.mp hp with h | h
    · exact ih p h
    · rw [List.mem_singleton] at h; subst h; exact n.plain
theorem plainOk.use {k x : Str} (h : plainOk k x = true) : (∀ c ∈ x.cps.toList, okb c = true) ∧ x.length ≤ 100 ∧ (k == sOp && x == Str.ofString "") = false := by
  unfold plainOk at h
  simp only [Bool.and_eq_true, List.all_eq_true, decide_eq_true_eq, Bool.not_eq_true'] at h
  exact ⟨h.1.1, h.1.2, h.2⟩
theorem chain_len {ts : List Tk} {b : Bool} (h : Chain ts b) : ∀ p ∈ ts, p.2.length ≤ 100 := fun p hp => (plainOk.use (h.seq.plain p hp)).2.1
theorem Laid.length {ts : List Tk} {text ahead : Str} {rows : List Wd} (h : Laid ts text rows ahead) : rows.length = ts.length := by
  induction h with
  | start _ => rfl
  | word _ _ _ ih => rw [List.length_append, List.length_append, ih]; rfl
theorem Laid.kinds {ts : List Tk} {text ahead : Str} {rows : List Wd} (h : Laid ts text rows ahead) : rows.map (fun y => (y.1, y.2.1)) = ts := by
  induction h with
  | start _ => rfl
  | word _ _ _ ih => rw [List.map_append, ih]; rfl
theorem law_row {ts : List Tk} {b : Bool} {text ahead trail : Str} {rows : List Wd} (h : Chain ts b) (hl : Laid ts text rows ahead) : ∀ y ∈ rows ++ [(sEnd, Str.ofString "", (((text ++ trail).length : Nat) : Int))], y.2.1.length ≤ 100 ∧ (y.1 == sOp && y.2.1 == Str.ofString "") = false := by
  intro y hy
  rcases List.mem_append.mp hy with hy | hy
  · have : (y.1, y.2.1) ∈ ts := by rw [← hl.kinds]; exact List.mem_map_of_mem (f := fun y : Wd => (y.1, y.2.1)) hy
    exact (plainOk.use (h.seq.plain _ this)).2
  · rw [List.mem_singleton] at hy
    subst hy
    exact ⟨show (Str.ofString "").length ≤ 100 by decide +kernel, show (sEnd == sOp && Str.ofString "" == Str.ofString "") = false by decide +kernel⟩
theorem okb_ok {c : Nat} (h : okb c = true) : okc c := by
  unfold okb at h
  simp only [Bool.or_eq_true, decide_eq_true_eq, beq_iff_eq] at h
  exact h
theorem cat_list (a b : Str) : (a ++ b).cps.toList = a.cps.toList ++ b.cps.toList := by rw [Str.cps_append, Array.toList_append]
theorem all_cat {P : Nat → Prop} {a b : Str} (ha : ∀ c ∈ a.cps.toList, P c) (hb : ∀ c ∈ b.cps.toList, P c) : ∀ c ∈ (a ++ b).cps.toList, P c := by
  intro c hc
  rw [cat_list] at hc
  rcases List.mem_append.mp hc with h | h
  · exact ha c h
  · exact hb c h
theorem Written.ok {k x y : Str} (h : Written k x y) (hx : ∀ c ∈ x.cps.toList, okb c = true) : ∀ c ∈ y.cps.toList, okb c = true := by
  rcases h with ⟨_, rfl⟩ | ⟨_, _, rfl⟩ | ⟨_, q, hq, rfl, _⟩
  · exact all_cat (by decide +kernel) hx
  · exact hx
  · have : ∀ c ∈ (⟨#[q]⟩ : Str).cps.toList, okb c = true := by
      intro c hc
      have hc : c = q := by simpa using hc
      subst hc
      rcases hq with rfl | rfl <;> decide
    exact all_cat (all_cat this hx) this
theorem Laid.ok {ts : List Tk} {text ahead : Str} {rows : List Wd} (h : Laid ts text rows ahead) (hp : ∀ p ∈ ts, plainOk p.1 p.2 = true) : ∀ c ∈ text.cps.toList, okb c = true := by
  induction h with
  | start h => exact (by decide +kernel : ∀ y ∈ (["", " "] : List Str), ∀ c ∈ y.cps.toList, okb c = true) _ h
  | @word ts text rows ahead k x gap y _ hg hw ih =>
    have h1 := ih fun p hp' => hp p (List.mem_append_left _ hp')
    have h2 := (plainOk.use (hp (k, x) (List.mem_append_right _ (.head _)))).1
    refine all_cat (all_cat h1 ?_) (hw.ok h2)
    rcases hg with h | ⟨rfl, _⟩
    · exact (by decide +kernel : ∀ y ∈ GAPS, ∀ c ∈ y.cps.toList, okb c = true) _ h
    · decide +kernel
theorem law_ok {ts : List Tk} {b : Bool} {text ahead trail : Str} {rows : List Wd} (h : Chain ts b) (hl : Laid ts text rows ahead) (ht : trail ∈ (["", " ", "\n"] : List Str)) : ∀ c ∈ (text ++ trail).cps.toList, okc c := fun c hc =>
  okb_ok (all_cat (hl.ok h.seq.plain) ((by decide +kernel : ∀ y ∈ (["", " ", "\n"] : List Str), ∀ c ∈ y.cps.toList, okb c = true) _ ht) c hc)
/- M42 -/
open PySem PySem.W PySem.Calls PyProof.Rows
set_option maxHeartbeats 200000
def BR : List Str := ["(", "[", ",", ")", "]"]
def brC (c : Nat) : Bool := [40, 91, 44, 41, 93].contains c
theorem br_pair {c : Nat} (h : brC c = true) (d : Nat) : pairC c d = false := by
  unfold brC at h
  unfold pairC
  rw [PAIRS_eq]
  simp at h
  rcases h with rfl | rfl | rfl | rfl | rfl <;> simp
/-- a mark of one sign, or of two -/
def m1 (x : Str) : Bool := match x.cps.toList with
  | [c] => mkC c && (brC c || (BD.all fun d => !pairC c d) && !BR.any (· == x)) && (c != 46 || BD.all fun d => !isFig d)
  | _ => false
def m2 (x : Str) : Bool := match x.cps.toList with
  | [c, d] => mkC c && pairC c d && (c != 46 || !isFig d)
  | _ => false
def mkRes (x : Str) : Option Str := if OPS.any (· == x) = true then some sOp else if SIGNS.any (· == x) = true then some sSign else none
def mOk (k x : Str) : Bool := (m1 x || m2 x) && mkRes x == some k
theorem mark_res {t x k : Str} {i : Nat} {ws : List Wd} (h : markText t i = x) (hk : mkRes x = some k) : markOr t i ws = some (i + x.length, ws ++ [(k, x, (i : Int))]) := by
  unfold mkRes at hk
  unfold markOr
  rw [h]
  split at hk
  · rename_i q; rw [if_pos q]; cases hk; rfl
  · rename_i q
    rw [if_neg q]
    split at hk
    · rename_i q2; rw [if_pos q2]; cases hk; rfl
    · cases hk
theorem str_of_list {x : Str} {l : List Nat} (h : x.cps.toList = l) : x = ⟨l.toArray⟩ := by rw [← h]
theorem len_of_list {x : Str} : x.length = x.cps.toList.length := (tl_len x).symm
theorem st_mk {t k x : Str} {i : Nat} {R : List Nat} {ws : List Wd} (hx : mOk k x = true) (hR : x ∈ BR ∨ Bd R) (h : At t i (x.cps.toList ++ R)) : stepOr t i ws = some (i + x.length, ws ++ [(k, x, (i : Int))]) := by
  unfold mOk at hx
  rw [Bool.and_eq_true, Bool.or_eq_true, beq_iff_eq] at hx
  obtain ⟨hm, hk⟩ := hx
  rcases hm with hm | hm
  · unfold m1 at hm
    split at hm
    · rename_i c hl
      rw [hl] at h
      simp only [Bool.and_eq_true, Bool.or_eq_true, List.all_eq_true, Bool.not_eq_true', bne_iff_ne] at hm
      obtain ⟨⟨h1, h2⟩, h3⟩ := hm
      have h : At t i (c :: R) := h
      have hp : ∀ d, R.head? = some d → pairC c d = false := by
        rcases h2 with h2 | ⟨h2, h4⟩
        · exact fun d _ => br_pair h2 d
        · rcases hR with hR | hR
          · have := List.any_eq_false.mp h4 x hR
            simp at this
          · exact fun d hd => h2 d (hR d hd)
      have hd : c = 46 → ∀ d, R.head? = some d → isFig d = false := by
        rintro rfl d hd
        rcases hR with hR | hR
        · rcases h2 with h2 | ⟨_, h4⟩
          · exact absurd h2 (by decide)
          · have := List.any_eq_false.mp h4 x hR
            simp at this
        · rcases h3 with h3 | h3
          · exact absurd rfl h3
          · exact h3 d (hR d hd)
      rw [st_mark h h1 hd, mark_res ((mark1 h hp).trans (str_of_list hl).symm) hk]
    · cases hm
  · unfold m2 at hm
    split at hm
    · rename_i c d hl
      rw [hl] at h
      simp only [Bool.and_eq_true, Bool.or_eq_true, Bool.not_eq_true', bne_iff_ne] at hm
      obtain ⟨⟨h1, h2⟩, h3⟩ := hm
      have h : At t i (c :: d :: R) := h
      have hd : c = 46 → ∀ e, (d :: R).head? = some e → isFig e = false := by
        rintro rfl e he
        cases he
        rcases h3 with h3 | h3
        · exact absurd rfl h3
        · exact h3
      rw [st_mark h h1 hd, mark_res ((mark2 h h2).trans (str_of_list hl).symm) hk]
    · cases hm
theorem qual_head {y : List Nat} (h : qualOk y = true) : ∃ c r, y = c :: r ∧ isStart c = true ∧ c ≠ 58 := by
  unfold qualOk at h
  dsimp only at h
  rw [Bool.and_eq_true] at h
  obtain ⟨h1, _⟩ := h
  cases y with
  | nil => exact absurd h1 (by decide)
  | cons c r =>
    refine ⟨c, r, rfl, ?_⟩
    rw [List.takeWhile_cons] at h1
    split at h1
    · unfold nameOk at h1
      simp only [Bool.and_eq_true, bne_iff_ne] at h1
      exact h1.1
    · cases h1
/-- what must stand behind a word, by the state that it leaves -/
structure Fol (q : Nat) (ahead : Str) (R : List Nat) : Prop where
  bd : ahead ∈ BR ∨ Bd R
  par : q = 2 ∨ q = 3 → (nb R).head? = some 40
  cols : q = 5 → ∃ r, nb R = 58 :: 58 :: r
  opd : q = 1 → (nb R).head? ≠ some 40 ∧ (nb R).head? ≠ some 58
theorem fin_plain {t : Str} {i : Nat} {y : Str} {R : List Nat} {ws ws' : List Wd} (h : At t i (y.cps.toList ++ R)) (e : stepOr t i ws = some (i + y.length, ws')) :
    ∃ p, stepOr t i ws = some (p, ws') ∧ spanTo isSp t p = i + y.length + (R.takeWhile isSp).length := by
  refine ⟨_, e, ?_⟩
  have := h.skip
  rw [← len_of_list] at this
  exact this.span _
theorem fin_blank {t : Str} {i : Nat} {y : Str} {R : List Nat} {ws ws' : List Wd} (h : At t i (y.cps.toList ++ R)) (e : stepOr t i ws = some (spanTo isSp t (i + y.length), ws')) :
    ∃ p, stepOr t i ws = some (p, ws') ∧ spanTo isSp t p = i + y.length + (R.takeWhile isSp).length := by
  refine ⟨_, e, ?_⟩
  have := h.skip
  rw [← len_of_list] at this
  rw [this.blank2]
  exact this.span _
theorem not_br : ¬ Str.ofString "" ∈ BR := by decide +kernel
theorem Fol.bd0 {q : Nat} {R : List Nat} (F : Fol q (Str.ofString "") R) : Bd R := F.bd.resolve_left not_br
theorem W_same {k x y : Str} (W : Written k x y) (h1 : k ≠ sVar) (h2 : k ≠ sLit) : y = x := by
  rcases W with ⟨h, _⟩ | ⟨_, _, h⟩ | ⟨h, _⟩
  · exact absurd h h1
  · exact h
  · exact absurd h h2
/- M43 -/
open PySem PySem.W PySem.Calls PyProof.Rows
set_option maxHeartbeats 200000
theorem nvl : sNum ≠ sVar ∧ sNum ≠ sLit := by decide +kernel
theorem namevl : sName ≠ sVar ∧ sName ≠ sLit := by decide +kernel
theorem funvl : sFun ≠ sVar ∧ sFun ≠ sLit := by decide +kernel
theorem kindvl : sKind ≠ sVar ∧ sKind ≠ sLit := by decide +kernel
theorem axvl : sAxis ≠ sVar ∧ sAxis ≠ sLit := by decide +kernel
theorem signvl : sSign ≠ sVar ∧ sSign ≠ sLit := by decide +kernel
theorem opvl : sOp ≠ sVar ∧ sOp ≠ sLit := by decide +kernel
theorem litv : sLit ≠ sVar := by decide +kernel
theorem names_ok : ∀ p ∈ PRE, ∀ f ∈ NMS, qualOk (p ++ f).cps.toList = true ∧ starE (p ++ f) = false := by decide +kernel
theorem funs_ok : ∀ x ∈ FUNS, qualOk x.cps.toList = true ∧ starE x = false ∧ (if KINDS.any (· == x) = true then sKind else sFun) = sFun := by decide +kernel
theorem knds_ok : ∀ x ∈ KNDS, qualOk x.cps.toList = true ∧ starE x = false ∧ (if KINDS.any (· == x) = true then sKind else sFun) = sKind := by decide +kernel
theorem axes_ok : ∀ x ∈ AXES, qualOk x.cps.toList = true := by decide +kernel
theorem nums_ok : ∀ x ∈ NUMS, numOk x.cps.toList = true := by decide +kernel
theorem stars_ok : ∀ x ∈ STARS, x = Str.ofString "*" ∨ qualOk x.cps.toList = true := by decide +kernel
theorem wops_ok : ∀ x ∈ WOPS, nameOk x.cps.toList = true := by decide +kernel
theorem lits_ok : ∀ x ∈ LITS, 34 ∈ x.cps.toList → 39 ∉ x.cps.toList := by decide +kernel
theorem Bd.of_fol {q : Nat} {k x : Str} {R : List Nat} (F : Fol q (if k = sSign then x else Str.ofString "") R) (h : k ≠ sSign) : Bd R := by
  rw [if_neg h] at F; exact F.bd0
theorem fol_mark {q : Nat} {k x : Str} {R : List Nat} (F : Fol q (if k = sSign then x else Str.ofString "") R) : x ∈ BR ∨ Bd R := by
  by_cases h : k = sSign
  · rw [if_pos h] at F; exact F.bd
  · exact .inr (Bd.of_fol F h)
theorem name_head {y : List Nat} (h : nameOk y = true) : ∃ c r, y = c :: r ∧ isStart c = true ∧ c ≠ 58 := by
  cases y with
  | nil => cases h
  | cons c r =>
    unfold nameOk at h
    simp only [Bool.and_eq_true, bne_iff_ne] at h
    exact ⟨c, r, rfl, h.1⟩
theorem step {q q' : Nat} {k x y : Str} {R : List Nat} {t : Str} {i : Nat} {ws : List Wd} (N : Nx q k x q') (W : Written k x y) (h : At t i (y.cps.toList ++ R)) (F : Fol q' (if k = sSign then x else Str.ofString "") R)
    (hb0 : q = 0 → isBehind ws = false) (hb1 : q = 1 → isBehind ws = true) : ∃ p, stepOr t i ws = some (p, ws ++ [(k, x, (i : Int))]) ∧ spanTo isSp t p = i + y.length + (R.takeWhile isSp).length := by
  have mark : ∀ {k x : Str}, mOk k x = true → k ≠ sVar ∧ k ≠ sLit → Written k x y → Fol q' (if k = sSign then x else Str.ofString "") R → ∃ p, stepOr t i ws = some (p, ws ++ [(k, x, (i : Int))]) ∧ spanTo isSp t p = i + y.length + (R.takeWhile isSp).length := fun {k x} hm hk W F => by
    have := W_same W hk.1 hk.2
    subst this
    exact fin_plain h (st_mk hm (fol_mark F) h)
  have name1 : ∀ {x : Str}, q = 0 → q' = 1 → qualOk x.cps.toList = true → Fol q' (if sName = sSign then x else Str.ofString "") R → At t i (x.cps.toList ++ R) → ∃ p, stepOr t i ws = some (p, ws ++ [(sName, x, (i : Int))]) ∧ spanTo isSp t p = i + x.length + (R.takeWhile isSp).length := fun {x} hq hq' o1 F h => by
    obtain ⟨c, r, hy, g1, g2⟩ := qual_head o1
    obtain ⟨f1, f2⟩ := F.opd hq'
    have e := name_name (ws := ws) (hb0 hq) o1 h (Bd.of_fol F (by decide +kernel)) f1 f2
    rw [← st_name (ws := ws) (by rw [hy] at h; exact h) g1 g2, mk_list, ← len_of_list] at e
    exact fin_plain h e
  cases N with
  | num hx =>
    have := W_same W nvl.1 nvl.2
    subst this
    have e := st_num (ws := ws) (nums_ok _ hx) h (Bd.of_fol F (by decide +kernel))
    rw [mk_list, ← len_of_list] at e
    exact fin_plain h e
  | lit hx =>
    rcases W with ⟨hk, _⟩ | ⟨_, hk, _⟩ | ⟨_, c, hc, rfl, hq⟩
    · exact absurd hk litv
    · exact absurd rfl hk
    · have hn : c ∉ x.cps.toList := by
        rcases hq with hq | ⟨rfl, hq⟩
        · exact hq
        · exact lits_ok _ hx hq
      have h' := h
      rw [cat_list, cat_list] at h'
      have h' : At t i (c :: (x.cps.toList ++ c :: R)) := by
        simpa using h'
      have e := st_lit (ws := ws) hc hn h'
      rw [mk_list, ← len_of_list] at e
      refine fin_plain h ?_
      rw [e, Str.length_append, Str.length_append, show (⟨#[c]⟩ : Str).length = 1 from rfl]
      congr 2; omega
  | @var p f h1 h2 =>
    obtain ⟨o1, o2⟩ := names_ok _ h1 _ h2
    rcases W with ⟨_, rfl⟩ | ⟨hk, _⟩ | ⟨hk, _⟩
    · generalize p ++ f = x at *
      have h' := h
      rw [cat_list, show (Str.ofString "$").cps.toList = [36] by decide +kernel] at h'
      have e := st_var (ws := ws) o1 (by rw [mk_list]; exact o2) (show At t i (36 :: (x.cps.toList ++ R)) from h') (Bd.of_fol F (by decide +kernel))
      rw [mk_list, ← len_of_list] at e
      refine fin_plain h ?_
      rw [e, Str.length_append, show (Str.ofString "$").length = 1 by decide +kernel]
      congr 2; omega
    · exact absurd rfl hk
    · exact absurd hk.symm litv
  | @name p f h1 h2 =>
    obtain ⟨o1, o2⟩ := names_ok _ h1 _ h2
    have := W_same W namevl.1 namevl.2
    subst this
    generalize p ++ f = x at *
    exact name1 rfl rfl o1 F h
  | star hx =>
    have := W_same W namevl.1 namevl.2
    subst this
    rcases stars_ok _ hx with rfl | o1
    · have h' := h
      rw [show (Str.ofString "*").cps.toList = [42] by decide +kernel] at h'
      have e := st_star (ws := ws) (show At t i (42 :: R) from h')
      rw [if_neg (by rw [hb0 rfl]; decide)] at e
      exact fin_plain h e
    · exact name1 rfl rfl o1 F h
  | func hx =>
    have := W_same W funvl.1 funvl.2
    subst this
    obtain ⟨o1, o2, o3⟩ := funs_ok _ hx
    obtain ⟨c, r, hy, g1, g2⟩ := qual_head o1
    have e := name_fun (ws := ws) (hb0 rfl) o1 h (Bd.of_fol F (by decide +kernel)) (by rw [mk_list]; exact o2) (F.par (.inl rfl))
    rw [← st_name (ws := ws) (by rw [hy] at h; exact h) g1 g2, mk_list, o3, ← len_of_list] at e
    exact fin_blank h e
  | fpar => exact mark (by decide +kernel) signvl W F
  | kind hx =>
    have := W_same W kindvl.1 kindvl.2
    subst this
    obtain ⟨o1, o2, o3⟩ := knds_ok _ hx
    obtain ⟨c, r, hy, g1, g2⟩ := qual_head o1
    have e := name_fun (ws := ws) (hb0 rfl) o1 h (Bd.of_fol F (by decide +kernel)) (by rw [mk_list]; exact o2) (F.par (.inr rfl))
    rw [← st_name (ws := ws) (by rw [hy] at h; exact h) g1 g2, mk_list, o3, ← len_of_list] at e
    exact fin_blank h e
  | kpar => exact mark (by decide +kernel) signvl W F
  | kend => exact mark (by decide +kernel) signvl W F
  | axis hx =>
    have := W_same W axvl.1 axvl.2
    subst this
    have o1 := axes_ok _ hx
    obtain ⟨c, r, hy, g1, g2⟩ := qual_head o1
    obtain ⟨r', hr'⟩ := F.cols rfl
    have e := name_axis (ws := ws) (hb0 rfl) o1 h (Bd.of_fol F (by decide +kernel)) hr'
    rw [← st_name (ws := ws) (by rw [hy] at h; exact h) g1 g2, mk_list, ← len_of_list] at e
    exact fin_blank h e
  | cols => exact mark (by decide +kernel) signvl W F
  | dot hx => exact mark ((by decide +kernel : ∀ x ∈ ([".", ".."] : List Str), mOk sSign x = true) _ hx) signvl W F
  | opens hx => exact mark ((by decide +kernel : ∀ x ∈ (["@", "("] : List Str), mOk sSign x = true) _ hx) signvl W F
  | op hx => exact mark ((by decide +kernel : ∀ x ∈ (["/", "//", "-"] : List Str), mOk sOp x = true) _ hx) opvl W F
  | bword hx =>
    have := W_same W opvl.1 opvl.2
    subst this
    have o1 := wops_ok _ hx
    have e := name_op (ws := ws) (hb1 rfl) o1 h (Bd.of_fol F (by decide +kernel)) (by rw [mk_list]; exact hx)
    obtain ⟨c, r, hy, g1, g2⟩ := name_head o1
    rw [← st_name (ws := ws) (by rw [hy] at h; exact h) g1 g2, mk_list, ← len_of_list] at e
    exact fin_plain h e
  | bstar =>
    have := W_same W opvl.1 opvl.2
    subst this
    have h' := h
    rw [show (Str.ofString "*").cps.toList = [42] by decide +kernel] at h'
    have e := st_star (ws := ws) (show At t i (42 :: R) from h')
    rw [if_pos (hb1 rfl)] at e
    exact fin_plain h e
  | bclose hx => exact mark ((by decide +kernel : ∀ x ∈ ([")", "]"] : List Str), mOk sSign x = true) _ hx) signvl W F
  | bopens hx => exact mark ((by decide +kernel : ∀ x ∈ (["[", ","] : List Str), mOk sSign x = true) _ hx) signvl W F
  | bop hx => exact mark ((by decide +kernel : ∀ x ∈ OPS, mOk sOp x = true) _ hx) opvl W F
/- M44 -/
open PySem PySem.W PySem.Calls PyProof.Rows
set_option maxHeartbeats 200000
/-- how a written word begins -/
def headOk (q : Nat) (y : List Nat) : Bool := match y with
  | [] => false
  | c :: _ => !isSp c && (q != 1 || (c != 40 && c != 58)) && ((q != 2 && q != 3) || c == 40) && (q != 5 || y == [58, 58])
theorem Nx.head {q q' : Nat} {k x y : Str} (N : Nx q k x q') (W : Written k x y) : headOk q y.cps.toList = true := by
  cases N with
  | num h => rw [W_same W nvl.1 nvl.2]; exact (by decide +kernel : ∀ x ∈ NUMS, headOk 0 x.cps.toList = true) _ h
  | lit h =>
    rcases W with ⟨hk, _⟩ | ⟨_, hk, _⟩ | ⟨_, c, hc, rfl, _⟩
    · exact absurd hk litv
    · exact absurd rfl hk
    · rw [cat_list, cat_list]
      rcases hc with rfl | rfl <;> rfl
  | var h1 h2 =>
    rcases W with ⟨_, rfl⟩ | ⟨hk, _⟩ | ⟨hk, _⟩
    · exact (by decide +kernel : ∀ p ∈ PRE, ∀ f ∈ NMS, headOk 0 (Str.ofString "$" ++ (p ++ f)).cps.toList = true) _ h1 _ h2
    · exact absurd rfl hk
    · exact absurd hk.symm litv
  | name h1 h2 => rw [W_same W namevl.1 namevl.2]; exact (by decide +kernel : ∀ p ∈ PRE, ∀ f ∈ NMS, headOk 0 (p ++ f).cps.toList = true) _ h1 _ h2
  | star h => rw [W_same W namevl.1 namevl.2]; exact (by decide +kernel : ∀ x ∈ STARS, headOk 0 x.cps.toList = true) _ h
  | func h => rw [W_same W funvl.1 funvl.2]; exact (by decide +kernel : ∀ x ∈ FUNS, headOk 0 x.cps.toList = true) _ h
  | fpar => rw [W_same W signvl.1 signvl.2]; decide +kernel
  | kind h => rw [W_same W kindvl.1 kindvl.2]; exact (by decide +kernel : ∀ x ∈ KNDS, headOk 0 x.cps.toList = true) _ h
  | kpar => rw [W_same W signvl.1 signvl.2]; decide +kernel
  | kend => rw [W_same W signvl.1 signvl.2]; decide +kernel
  | axis h => rw [W_same W axvl.1 axvl.2]; exact (by decide +kernel : ∀ x ∈ AXES, headOk 0 x.cps.toList = true) _ h
  | cols => rw [W_same W signvl.1 signvl.2]; decide +kernel
  | dot h => rw [W_same W signvl.1 signvl.2]; exact (by decide +kernel : ∀ x ∈ ([".", ".."] : List Str), headOk 0 x.cps.toList = true) _ h
  | opens h => rw [W_same W signvl.1 signvl.2]; exact (by decide +kernel : ∀ x ∈ (["@", "("] : List Str), headOk 0 x.cps.toList = true) _ h
  | op h => rw [W_same W opvl.1 opvl.2]; exact (by decide +kernel : ∀ x ∈ (["/", "//", "-"] : List Str), headOk 0 x.cps.toList = true) _ h
  | bword h => rw [W_same W opvl.1 opvl.2]; exact (by decide +kernel : ∀ x ∈ WOPS, headOk 1 x.cps.toList = true) _ h
  | bstar => rw [W_same W opvl.1 opvl.2]; decide +kernel
  | bclose h => rw [W_same W signvl.1 signvl.2]; exact (by decide +kernel : ∀ x ∈ ([")", "]"] : List Str), headOk 1 x.cps.toList = true) _ h
  | bopens h => rw [W_same W signvl.1 signvl.2]; exact (by decide +kernel : ∀ x ∈ (["[", ","] : List Str), headOk 1 x.cps.toList = true) _ h
  | bop h => rw [W_same W opvl.1 opvl.2]; exact (by decide +kernel : ∀ x ∈ OPS, headOk 1 x.cps.toList = true) _ h
def bh (k x : Str) : Bool := if k == sOp then false else !(k == sSign && BEH.any (· == x))
theorem bh_other {k : Str} (h : (k == sOp) = false ∧ (k == sSign) = false) (x : Str) : bh k x = true := by
  unfold bh; rw [h.1, h.2]; rfl
theorem Nx.behind {q q' : Nat} {k x : Str} (N : Nx q k x q') : (q' = 0 → bh k x = false) ∧ (q' = 1 → bh k x = true) := by
  cases N with
  | num h => exact ⟨fun h => by omega, fun _ => bh_other (by decide +kernel) _⟩
  | lit h => exact ⟨fun h => by omega, fun _ => bh_other (by decide +kernel) _⟩
  | var h1 h2 => exact ⟨fun h => by omega, fun _ => bh_other (by decide +kernel) _⟩
  | name h1 h2 => exact ⟨fun h => by omega, fun _ => bh_other (by decide +kernel) _⟩
  | star h => exact ⟨fun h => by omega, fun _ => bh_other (by decide +kernel) _⟩
  | func h => exact ⟨fun h => by omega, fun h => by omega⟩
  | fpar => exact ⟨fun _ => by decide +kernel, fun h => by omega⟩
  | kind h => exact ⟨fun h => by omega, fun h => by omega⟩
  | kpar => exact ⟨fun h => by omega, fun h => by omega⟩
  | kend => exact ⟨fun h => by omega, fun _ => by decide +kernel⟩
  | axis h => exact ⟨fun h => by omega, fun h => by omega⟩
  | cols => exact ⟨fun _ => by decide +kernel, fun h => by omega⟩
  | dot h => exact ⟨fun h => by omega, fun _ => (by decide +kernel : ∀ x ∈ ([".", ".."] : List Str), bh sSign x = true) _ h⟩
  | opens h => exact ⟨fun _ => (by decide +kernel : ∀ x ∈ (["@", "("] : List Str), bh sSign x = false) _ h, fun h => by omega⟩
  | op h => exact ⟨fun _ => rfl, fun h => by omega⟩
  | bword h => exact ⟨fun _ => rfl, fun h => by omega⟩
  | bstar => exact ⟨fun _ => rfl, fun h => by omega⟩
  | bclose h => exact ⟨fun h => by omega, fun _ => (by decide +kernel : ∀ x ∈ ([")", "]"] : List Str), bh sSign x = true) _ h⟩
  | bopens h => exact ⟨fun _ => (by decide +kernel : ∀ x ∈ (["[", ","] : List Str), bh sSign x = false) _ h, fun h => by omega⟩
  | bop h => exact ⟨fun _ => rfl, fun h => by omega⟩
theorem behind_snoc (ws : List Wd) (k x : Str) (i : Int) : isBehind (ws ++ [(k, x, i)]) = bh k x := by
  unfold isBehind
  rw [List.getLast?_concat]; rfl
theorem Laid.inv {ts : List Tk} {k x text' ahead' : Str} {rows' : List Wd} (h : Laid (ts ++ [(k, x)]) text' rows' ahead') : ∃ text rows ahead gap y, Laid ts text rows ahead ∧ GapOk ahead k x rows gap ∧ Written k x y ∧
    text' = (text ++ gap) ++ y ∧ rows' = rows ++ [(k, x, (((text ++ gap).length : Nat) : Int))] ∧ ahead' = if k = sSign then x else Str.ofString "" := by
  generalize hl : ts ++ [(k, x)] = l at h
  cases h with
  | start _ => simp at hl
  | @word ts2 text rows ahead k2 x2 gap y h1 h2 h3 =>
    obtain ⟨rfl, e⟩ := List.append_inj' hl rfl
    cases e
    exact ⟨text, rows, ahead, gap, y, h1, h2, h3, rfl, rfl, rfl⟩
theorem Laid.inv0 {text ahead : Str} {rows : List Wd} (h : Laid [] text rows ahead) : rows = [] ∧ ahead = Str.ofString "(" ∧ text ∈ (["", " "] : List Str) := by
  generalize hl : ([] : List Tk) = l at h
  cases h with
  | start h => exact ⟨rfl, rfl, h⟩
  | word _ _ _ => simp at hl
theorem gaps_sp : ∀ y ∈ GAPS, (∀ c ∈ y.cps.toList, isSp c = true) ∧ (∃ c, y.cps.toList.head? = some c ∧ c ∈ BD) := by
  have : ∀ y ∈ GAPS, (y.cps.toList.all isSp && (match y.cps.toList.head? with | some c => BD.contains c | none => false)) = true := by decide +kernel
  intro y hy
  have := this y hy
  rw [Bool.and_eq_true, List.all_eq_true] at this
  refine ⟨this.1, ?_⟩
  have h2 := this.2
  split at h2
  · rename_i c hc
    exact ⟨c, hc, by simpa using h2⟩
  · cases h2
theorem emp_list : (Str.ofString "").cps.toList = [] := by decide +kernel
theorem bare_heads : ∀ x ∈ ([")", "]", ",", "["] : List Str), ∃ c, x.cps.toList.head? = some c ∧ c ∈ BD := by
  have : ∀ x ∈ ([")", "]", ",", "["] : List Str), (match x.cps.toList.head? with | some c => BD.contains c | none => false) = true := by decide +kernel
  intro x hx
  have h2 := this x hx
  split at h2
  · rename_i c hc
    exact ⟨c, hc, by simpa using h2⟩
  · cases h2
theorem head_app {a b : List Nat} {c : Nat} (h : a.head? = some c) : (a ++ b).head? = some c := by
  cases a with
  | nil => cases h
  | cons d a => exact h
theorem bd_of {R : List Nat} {c : Nat} (h : R.head? = some c) (hc : c ∈ BD) : Bd R := fun d hd => by rw [h] at hd; cases hd; exact hc
theorem nb_gap {a R : List Nat} (h : ∀ c ∈ a, isSp c = true) (hR : ∀ c, R.head? = some c → isSp c = false) : nb (a ++ R) = R := by
  have h1 := tw h hR
  have h2 := tw_dw isSp (a ++ R)
  rw [h1] at h2
  exact List.append_cancel_left h2
theorem fol_gap {q q' : Nat} {k x y ahead gap : Str} {rows : List Wd} {R : List Nat} (N : Nx q k x q') (W : Written k x y) (G : GapOk ahead k x rows gap) (h0 : rows = [] → ahead = Str.ofString "(") :
    (∀ c ∈ gap.cps.toList, isSp c = true) ∧ (∃ c r, y.cps.toList = c :: r ∧ isSp c = false) ∧ Fol q ahead (gap.cps.toList ++ (y.cps.toList ++ R)) := by
  have hh := N.head W
  unfold headOk at hh
  have hg : ∀ c ∈ gap.cps.toList, isSp c = true := by
    rcases G with G | ⟨rfl, _⟩
    · exact (gaps_sp _ G).1
    · rw [emp_list]; simp
  split at hh
  · cases hh
  · rename_i c r hy
    simp only [Bool.and_eq_true, Bool.or_eq_true, Bool.not_eq_true', bne_iff_ne, beq_iff_eq] at hh
    obtain ⟨⟨⟨h1, h2⟩, h3⟩, h4⟩ := hh
    have hn : nb (gap.cps.toList ++ (y.cps.toList ++ R)) = c :: (r ++ R) := by
      rw [nb_gap hg, hy]; · rfl
      · rw [hy]; rintro d ⟨⟩; exact h1
    refine ⟨hg, ⟨c, r, hy, h1⟩, ?_, fun hq => ?_, fun hq => ?_, fun hq => ?_⟩
    · rcases G with G | ⟨rfl, (hB | ⟨hx, hk⟩) | hr⟩
      · obtain ⟨e, he, hb⟩ := (gaps_sp _ G).2
        exact .inr (bd_of (head_app he) hb)
      · exact .inl hB
      · obtain ⟨e, he, hb⟩ := bare_heads _ hx
        subst hk
        have := W_same W signvl.1 signvl.2
        subst this
        rw [emp_list, List.nil_append]
        exact .inr (bd_of (head_app he) hb)
      · rw [h0 hr]; exact .inl (.head _)
    · rw [hn]
      rcases h3 with h3 | h3
      · omega
      · rw [h3]; rfl
    · rw [hn]
      rcases h4 with h4 | h4
      · exact absurd hq h4
      · rw [hy] at h4
        cases h4
        exact ⟨R, rfl⟩
    · rw [hn]
      rcases h2 with h2 | h2
      · exact absurd hq h2
      · exact ⟨fun e => h2.1 (Option.some.inj e), fun e => h2.2 (Option.some.inj e)⟩
theorem scan_main {ts : List Tk} {q : Nat} (Sq : Seq ts q) : ∀ {text ahead : Str} {rows : List Wd}, Laid ts text rows ahead → ∀ (t : Str) (R : List Nat), t.cps.toList = text.cps.toList ++ R → Fol q ahead R →
    (∀ n, scanF t (n + rows.length) (spanTo isSp t 0) [] = scanF t n (text.length + (R.takeWhile isSp).length) rows) ∧ rows.length ≤ text.length ∧ (q = 0 → isBehind rows = false) ∧ (q = 1 → isBehind rows = true) := by
  induction Sq with
  | nil =>
    intro text ahead rows hl t R ht F
    obtain ⟨rfl, rfl, hx⟩ := hl.inv0
    refine ⟨fun n => ?_, Nat.zero_le _, fun _ => rfl, fun h => by omega⟩
    have h0 : At t 0 (text.cps.toList ++ R) := ⟨by rw [ht]; rfl, Nat.zero_le _⟩
    have hsp : ∀ c ∈ text.cps.toList, isSp c = true := (by decide +kernel : ∀ y ∈ (["", " "] : List Str), ∀ c ∈ y.cps.toList, isSp c = true) _ hx
    have : (text.cps.toList ++ R).takeWhile isSp = text.cps.toList ++ R.takeWhile isSp := by
      rw [List.takeWhile_append_of_pos hsp]
    rw [h0.span, this, List.length_append, ← len_of_list, Nat.zero_add]; rfl
  | @snoc ts q k x q' Sq N ih =>
    intro text' ahead' rows' hl t R ht F
    obtain ⟨text, rows, ahead, gap, y, hl1, G, W, rfl, rfl, rfl⟩ := hl.inv
    have h0 : rows = [] → ahead = Str.ofString "(" := fun hr => by
      have := hl1.length
      rw [hr] at this
      have : ts = [] := List.length_eq_zero_iff.mp this.symm
      subst this
      exact hl1.inv0.2.1
    obtain ⟨g1, ⟨c, r, hy, hc⟩, F0⟩ := fol_gap (R := R) N W G h0
    have ht' : t.cps.toList = text.cps.toList ++ (gap.cps.toList ++ (y.cps.toList ++ R)) := by
      rw [ht, cat_list, cat_list, List.append_assoc, List.append_assoc]
    obtain ⟨ih1, ih2, ih3, ih4⟩ := ih hl1 t _ ht' F0
    have hA : At t (text ++ gap).length (y.cps.toList ++ R) := by
      have a0 : At t 0 (text.cps.toList ++ (gap.cps.toList ++ (y.cps.toList ++ R))) := ⟨by rw [ht']; rfl, Nat.zero_le _⟩
      have a1 := a0.skip.skip
      rw [Nat.zero_add, ← len_of_list, ← len_of_list, ← Str.length_append] at a1
      exact a1
    obtain ⟨p, e1, e2⟩ := step N W hA F ih3 ih4
    have hlt : (text ++ gap).length < t.length := by
      rw [hA.len, hy]; simp
    refine ⟨fun n => ?_, ?_, ?_, ?_⟩
    · have i1 := ih1 (n + 1)
      have : (gap.cps.toList ++ (y.cps.toList ++ R)).takeWhile isSp = gap.cps.toList := tw g1 (by rw [hy]; rintro d ⟨⟩; exact hc)
      rw [this, ← len_of_list, ← Str.length_append] at i1
      rw [List.length_append, show n + (rows.length + [(k, x, (((text ++ gap).length : Nat) : Int))].length) = n + 1 + rows.length by simp; omega, i1]
      show (if (text ++ gap).length < t.length then _ else _) = _
      rw [if_pos hlt, e1]
      show scanF t n (spanTo isSp t p) _ = _
      rw [e2, Str.length_append (a := text ++ gap)]
    · have l1 : ((text ++ gap) ++ y).length = text.length + gap.length + y.length := by rw [Str.length_append, Str.length_append]
      have l2 : 1 ≤ y.length := by rw [len_of_list, hy]; simp
      rw [List.length_append, l1]
      show rows.length + 1 ≤ _
      omega
    · rw [behind_snoc]; exact N.behind.1
    · rw [behind_snoc]; exact N.behind.2
theorem law_pure {ts : List Tk} {b : Bool} {text ahead trail : Str} {rows : List Wd} (h : Chain ts b) (hl : Laid ts text rows ahead) (ht : trail ∈ (["", " ", "\n"] : List Str)) :
    words (text ++ trail) = some (rows ++ [(sEnd, Str.ofString "", (((text ++ trail).length : Nat) : Int))]) := by
  have hsp : ∀ c ∈ trail.cps.toList, isSp c = true := (by decide +kernel : ∀ y ∈ (["", " ", "\n"] : List Str), ∀ c ∈ y.cps.toList, isSp c = true) _ ht
  have hbd : Bd trail.cps.toList := by
    intro c hc
    exact (by decide +kernel : ∀ y ∈ (["", " ", "\n"] : List Str), ∀ c ∈ y.cps.toList, c ∈ BD) _ ht c (List.mem_of_mem_head? hc)
  have hnb : nb trail.cps.toList = [] := by
    have := nb_gap (R := []) hsp (by simp)
    rwa [List.append_nil] at this
  have F : Fol (if b = true then 1 else 0) ahead trail.cps.toList := ⟨.inr hbd, fun hq => by split at hq <;> omega, fun hq => by split at hq <;> omega, fun _ => by rw [hnb]; exact ⟨by simp, by simp⟩⟩
  obtain ⟨m1, m2, _⟩ := scan_main h.seq hl (text ++ trail) trail.cps.toList (cat_list _ _) F
  have hlen : (text ++ trail).length = text.length + trail.length := Str.length_append ..
  have htw : (trail.cps.toList.takeWhile isSp).length = trail.length := by
    have := tw (R := []) hsp (by simp)
    rw [List.append_nil] at this
    rw [this, ← len_of_list]
  unfold words
  have e : (text ++ trail).length + 1 = ((text ++ trail).length - rows.length + 1) + rows.length := by omega
  rw [e, m1, htw, ← hlen]
  show (if (text ++ trail).length < (text ++ trail).length then _ else _) = _
  rw [if_neg (Nat.lt_irrefl _)]
/- M32 -/
open PySem PySem.W PySem.Calls PyProof.Rows
set_option maxHeartbeats 200000
theorem ite_val {y z : Str} {t : Tok} {o : Option Value} (h : y = z) (e : o = some (Value.str y t)) : o = some (Value.str z t) := h ▸ e
theorem perm2 (a b : Addr × Obj) (l : Led) : (a :: b :: l).Perm (l ++ [a, b]) := List.perm_append_comm (l₁ := [a, b])
local macro_rules | `(tactic| tb_rel) => `(tactic| first | with_reducible refine ite_t rfl ?_ | with_reducible refine ite_f rfl ?_)
section
variable {w : World} {A : Around} {E : Value → Shared → Prop} {s s0 : Shared} {e : Ent} {g g₀ : Heap} {L x dx l f sa th wl : Addr} {m : Str → Option Value} {led led₀ led₁ rest : Led} {d i i' : Nat}
set_option maxHeartbeats 1000000 in
theorem k336 {witems : Array Value} {ts : List Tk} (C : Cx w g A (d + 4)) (H : Has g led s.heap) (hs : Src sa led) (hw : g.IsList wl witems) (hT : Toks g witems.toList ts) (hx : ∀ p ∈ ts, p.2.length ≤ 100) (hn : ts.length ≤ 1000) :
    codeAny (model PR w) A (.call (.ref 336) ⟨[.ref sa, .ref wl], []⟩) (DrawG g led s sa fun g' v => ∃ a text trail dl tk items rows ahead, v = .ref a ∧ g'.IsTuple a #[.str (text ++ trail) tk, .ref dl] ∧ g'.IsList dl items ∧
      Rows g' items.toList (rows ++ [(sEnd, Str.ofString "", (((text ++ trail).length : Nat) : Int))]) ∧ Laid ts text rows ahead ∧ trail ∈ (["", " ", "\n"] : List Str) ∧ text.length ≤ 200 * (ts.length + 1)) s := by
  refine' enter (binds := [("source", .ref sa), ("words", .ref wl)]) ?C ?H ?ho ?hcd ?hb ?hl ?_ ?c1 ?c2 ?c3 ?c4; tb_start
  intro L s1 S C1
  refine x_swap3 ?_ (by rfl) (by rfl)
  iterate 21 tb_rel
  rename St _ _ _ _ _ _ => S
  rename Src _ _ => hs1
  rename _ ∈ strsOf _ => hlead
  have hlead' : _ ∈ (["", " "] : List Str) := hlead
  clear hlead
  refine r_newList S (by decide) fun rw s' S => ?_
  repeat tb_rel
  refine x_for ?_ (fun _ => rfl)
  repeat tb_rel
  rename St _ _ _ _ _ _ => S
  rename Cx _ _ _ _ => C3
  have hw1 := lst_keeps hw (by assumption)
  have hw2 := lst_keeps hw1 (by assumption)
  have hw3 := lst_keeps hw2 (by assumption)
  have hT1 := hT.mono (by assumption)
  have hT2 := hT1.mono (by assumption)
  have hT3 := hT2.mono (by assumption)
  clear hw hw1 hw2 hT hT1 hT2
  have hsz := hT3.length
  rw [Array.length_toList] at hsz
  refine loopList C3.hand hw3 (fun i g m led => JT sa rw ts i g m led) S ⟨rfl, rfl, _, [], _, _, _, _, _, _, rfl, hs1, rfl, rfl, .nil, .start hlead', ?_, rfl⟩ ?_ ?_
  · have := (by decide +kernel : ∀ y ∈ (["", " "] : List Str), y.length ≤ 100) _ hlead'
    omega
  · intro I i v g2 m2 led2 o' s2 hi hg2 J hv S
    obtain ⟨hsource, hrows, text, rows, ahead, its, kk, led3, tt, ta, rfl, hsrc, htext, hahead, hR, hLd, hlen, hrl⟩ := J
    obtain ⟨⟨k, x⟩, hxi, wd, t1, t2, rfl, hT⟩ := Toks.at (i := i) hT3 (by rw [Array.getElem?_toList]; exact hv)
    have hT' := tup_keeps hT hg2
    have hxl : x.length ≤ 100 := hx _ (List.mem_of_getElem? hxi)
    have C4 := C3.mono hg2
    have S := S.perm (led' := led3 ++ [(I, o'), (rw, lstObj its kk)]) List.perm_append_comm
    repeat tb_rel
    rename St _ _ _ _ _ _ => S
    rename Heap.IsList _ _ _ => hgl
    refine r_drawR S (k294 (d := 0) (Cx.less (by assumption) (by omega)) S.hasSub hsrc hgl (strs_of (by rfl)) (by exact Nat.le_of_ble_eq_true rfl) (by exact Nat.le_of_ble_eq_true rfl)) fun val g3 led4 s3 hg3 hP hs3 S => ?_
    obtain ⟨gap, tkg, rfl, hgap⟩ := hP
    have hgap' : gap ∈ GAPS := hgap
    clear hgap hgl
    have C5 := Cx.mono (by assumption) hg3
    have hT5 : g3.IsTuple wd #[.str k t1, .str x t2] := tup_up hg3 (tup_up (by assumption) hT')
    have hg23 : g2.StaysIn g3 := fun b o q => hg3 b o ((by assumption : Heap.StaysIn g2 _) b o q)
    tb_rel
    rename St _ _ _ _ _ _ => S
    refine x_assign ?_ (by rfl)
    refine wpAny_mono (Q := fun v s₂ => ∃ b g4, v = .bool b ∧ (b = true → Bare ahead k x) ∧ g3.StaysIn g4 ∧ SameG S g4 s₂) ?_ ?_ (fun _ _ h => h)
    · have S2 := S
      repeat tb_rel
      refine ite_c (fun h1 => ?_) (fun h1 => ?_)
      · rename St _ _ _ _ _ _ => S
        exact ⟨_, _, rfl, fun _ => .inl (any_mem h1), by assumption, S⟩
      repeat tb_rel
      refine ite_c (fun h2 => ?_) (fun h2 => ?_)
      · repeat tb_rel
        rename St _ _ _ _ _ _ => S
        exact ⟨_, _, rfl, fun h3 => .inr ⟨any_mem h2, beq_iff_eq.mp h3⟩, fun b o q => (by assumption : Heap.StaysIn _ _) b o ((by assumption : Heap.StaysIn g3 _) b o q), S⟩
      · rename St _ _ _ _ _ _ => S
        exact ⟨_, _, rfl, fun h3 => absurd (h2.symm.trans h3) (by decide), fun b o q => (by assumption : Heap.StaysIn _ _) b o ((by assumption : Heap.StaysIn g3 _) b o q), S⟩
    rintro v s4 ⟨b, g4, rfl, hb, hg4, S'⟩
    have S := (show St _ _ _ _ _ _ from S')
    clear S'
    have C6 := C5.mono hg4
    tb_rel
    rename St _ _ _ _ _ _ => S
    refine x_if_join (fun s' => ∃ g5 m5 led5 gp tkp, g4.StaysIn g5 ∧ Src sa led5 ∧ m5 "gap" = some (.str gp tkp) ∧ GapOk ahead k x rows gp ∧ m5 "text" = some (.str text tt) ∧ m5 "rows" = some (.ref rw) ∧ m5 "word" = some (.ref wd) ∧ m5 "source" = some (.ref sa) ∧
      St ⟨g, led, s, []⟩ g5 L m5 (led5 ++ [(I, o'), (rw, lstObj its kk)]) s') ?_ ?_
    · repeat tb_rel
      refine ite_c (fun hb1 => ?_) (fun hb1 => ?_)
      · repeat tb_rel
        rename St _ _ _ _ _ _ => S
        refine r_drawR S (k287 (d := 0) (C6.less (by omega)) S.hasSub hs3 (by decide) (by decide)) fun v g5 led5 s5 hg5 hP hs5 S => ?_
        obtain ⟨n, tkn, rfl, _, _⟩ := hP
        have C7 := C6.mono hg5
        repeat tb_rel
        refine ite_c (fun h5 => ?_) (fun h5 => ?_)
        · repeat tb_rel
          rename St _ _ _ _ _ _ => S
          refine' ⟨rfl, _, _, _, _, _, ?a1, ?a2, ?a3, ?a4, ?a5, ?a6, ?a7, ?a8, S⟩
          case a3 => rfl
          case a1 => exact hg5
          case a2 => exact hs5
          case a4 => exact .inr ⟨rfl, .inl (hb hb1)⟩
          case a5 => exact htext
          case a6 => exact hrows
          case a7 => rfl
          case a8 => exact hsource
        · skip
          repeat tb_rel
          rename St _ _ _ _ _ _ => S
          rename Heap.IsList _ _ _ => hnil
          refine r_isNil (Cx.less (d' := 0) (by assumption) (by omega)) (isList_led (items := its) (k := kk) S (by simp)) (let ⟨o, ho, r⟩ := hnil; ⟨o, S.keep _ _ ho, r⟩) ?_
          clear hnil
          repeat tb_rel
          refine ite_c (fun h7 => ?_) (fun h7 => ?_)
          · have hr0 : rows = [] := by
              have := of_decide_eq_true h7
              have h8 := hR.length
              rw [Array.length_toList] at h8
              exact List.length_eq_zero_iff.mp (by omega)
            repeat tb_rel
            rename St _ _ _ _ _ _ => S
            refine' ⟨rfl, _, _, _, _, _, ?a1, ?a2, ?a3, ?a4, ?a5, ?a6, ?a7, ?a8, S⟩
            case a3 => rfl
            case a1 => exact fun b o q => (by assumption : Heap.StaysIn _ _) b o (hg5 b o q)
            case a2 => exact hs5
            case a4 => exact .inr ⟨rfl, .inr hr0⟩
            case a5 => exact htext
            case a6 => exact hrows
            case a7 => rfl
            case a8 => exact hsource
          · repeat tb_rel
            rename St _ _ _ _ _ _ => S
            refine' ⟨rfl, _, _, _, _, _, ?a1, ?a2, ?a3, ?a4, ?a5, ?a6, ?a7, ?a8, S⟩
            case a3 => rfl
            case a1 => exact fun b o q => (by assumption : Heap.StaysIn _ _) b o (hg5 b o q)
            case a2 => exact hs5
            case a4 => exact .inl hgap'
            case a5 => exact htext
            case a6 => exact hrows
            case a7 => rfl
            case a8 => exact hsource
      · skip
        repeat tb_rel
        rename St _ _ _ _ _ _ => S
        rename Heap.IsList _ _ _ => hnil
        refine r_isNil (Cx.less (d' := 0) (by assumption) (by omega)) (isList_led (items := its) (k := kk) S (by simp)) (let ⟨o, ho, r⟩ := hnil; ⟨o, S.keep _ _ ho, r⟩) ?_
        clear hnil
        repeat tb_rel
        refine ite_c (fun h7 => ?_) (fun h7 => ?_)
        · have hr0 : rows = [] := by
            have := of_decide_eq_true h7
            have h8 := hR.length
            rw [Array.length_toList] at h8
            exact List.length_eq_zero_iff.mp (by omega)
          repeat tb_rel
          rename St _ _ _ _ _ _ => S
          refine' ⟨rfl, _, _, _, _, _, ?a1, ?a2, ?a3, ?a4, ?a5, ?a6, ?a7, ?a8, S⟩
          case a3 => rfl
          case a1 => exact fun b o q => (by assumption : Heap.StaysIn _ _) b o ((fun b o q => q : Heap.StaysIn g4 g4) b o q)
          case a2 => exact hs3
          case a4 => exact .inr ⟨rfl, .inr hr0⟩
          case a5 => exact htext
          case a6 => exact hrows
          case a7 => rfl
          case a8 => exact hsource
        · repeat tb_rel
          rename St _ _ _ _ _ _ => S
          refine' ⟨rfl, _, _, _, _, _, ?a1, ?a2, ?a3, ?a4, ?a5, ?a6, ?a7, ?a8, S⟩
          case a3 => rfl
          case a1 => exact fun b o q => (by assumption : Heap.StaysIn _ _) b o ((fun b o q => q : Heap.StaysIn g4 g4) b o q)
          case a2 => exact hs3
          case a4 => exact .inl hgap'
          case a5 => exact htext
          case a6 => exact hrows
          case a7 => rfl
          case a8 => exact hsource
    · rintro s6 ⟨g5, m5, led5, gp, tkp, hg5, hs5, hgp, hgok, htext5, hrows5, hword5, hsource5, S⟩
      have hil : i < ts.length := by omega
      have hgl : gp.length ≤ 10 := by
        rcases hgok with h | ⟨h, _⟩
        · exact (by decide +kernel : ∀ y ∈ GAPS, y.length ≤ 10) _ h
        · rw [h]; decide +kernel
      have hT6 : g5.IsTuple wd #[.str k t1, .str x t2] := tup_up hg5 (tup_up hg4 hT5)
      have C7 := C6.mono hg5
      have hcat : (text ++ gp).length = text.length + gp.length := Str.length_append ..
      have hzz : (text ++ gp).length ≤ sizeLine := by rw [sizeLine_eq]; omega
      repeat tb_rel
      rename St _ _ _ _ _ _ => S
      refine r_cat S (cat_ok (by omega) (by omega)) fun tk7 s7 S => ?_
      repeat tb_rel
      rename St _ _ _ _ _ _ => S
      refine r_appendM (items := its) (k := kk) S (by simp) ?_
      repeat tb_rel
      rename St _ _ _ _ _ _ => S
      rename St _ _ _ _ _ _ => S
      rename Heap.IsTuple _ _ _ => hra
      have hg7 := (by assumption : Heap.StaysIn g5 _)
      have hT7 := tup_up hg7 hT6
      have C8 := C7.mono hg7
      have S := S.perm (led' := (rw, lstObj its kk) :: (I, o') :: led5) (perm3 _ _ _)
      have hrz := hR.length
      rw [Array.length_toList] at hrz
      refine r_append S (by rw [sizeLine_eq]; omega) fun k' s9 S => ?_
      repeat tb_rel
      rename St _ _ _ _ _ _ => S
      have S := S.perm (led' := led5 ++ [(I, o'), (rw, lstObj (its.push (.ref _)) k')]) (perm3 _ _ _).symm
      refine r_drawR S (k329 (d := 0) (Cx.less C8 (by omega)) S.hasSub hs5 hT7 hxl) fun val g8 led6 s8 hg8 hP hs6 S => ?_
      obtain ⟨y, tky, rfl, hy⟩ := hP
      have C9 := C8.mono hg8
      have hyl := hy.len
      have hT8 := tup_up hg8 hT7
      refine r_cat S (cat_ok (by omega) (by omega)) fun tk8 s8' S => ?_
      repeat tb_rel
      refine ite_c (fun hk => ?_) (fun hk => ?_)
      · repeat tb_rel
        rename St _ _ _ _ _ _ => S
        have S := S.perm (led' := (I, o') :: (rw, lstObj (its.push (.ref _)) k') :: led6) (perm2 _ _ _)
        have hg9 := (by assumption : Heap.StaysIn g8 _)
        have hgAll := fun b o q => hg9 b o (hg8 b o (hg7 b o (hg5 b o (hg4 b o (hg23 b o q)))))
        refine ⟨_, _, _, hgAll, ?_, S⟩
        refine' ⟨hsource5, hrows5, _, rows ++ [(k, x, (((text ++ gp).length : Nat) : Int))], if k = sSign then x else Str.ofString "", its.push _, k', led6, _, t2, rfl, hs6, rfl, ?b1, ?b2, ?b3, ?b4, ?b5⟩
        case b1 => exact (congrArg (fun z => some (Value.str z t2)) (if_pos (show k = sSign from beq_iff_eq.mp hk))).symm
        case b2 =>
          rw [Array.toList_push]
          exact (hR.mono hgAll).snoc ⟨_, _, _, _, rfl, tup_up hg9 (tup_up hg8 hra)⟩
        case b3 =>
          rw [List.take_add_one, hxi]
          exact Laid.word hLd hgok hy
        case b4 => rw [Str.length_append]; omega
        case b5 => rw [List.length_append, hrl]; rfl
      · repeat tb_rel
        rename St _ _ _ _ _ _ => S
        have S := S.perm (led' := (I, o') :: (rw, lstObj (its.push (.ref _)) k') :: led6) (perm2 _ _ _)
        have hg9 := (by assumption : Heap.StaysIn g8 _)
        have hgAll := fun b o q => hg9 b o (hg8 b o (hg7 b o (hg5 b o (hg4 b o (hg23 b o q)))))
        refine ⟨_, _, _, hgAll, ?_, S⟩
        have hks : ¬ k = sSign := fun e => by rw [e] at hk; exact absurd hk (by decide +kernel)
        refine' ⟨hsource5, hrows5, _, rows ++ [(k, x, (((text ++ gp).length : Nat) : Int))], if k = sSign then x else Str.ofString "", its.push _, k', led6, _, _, rfl, hs6, rfl, ite_val (if_neg hks).symm rfl, ?d2, ?d3, ?d4, ?d5⟩
        case d2 =>
          rw [Array.toList_push]
          exact (hR.mono hgAll).snoc ⟨_, _, _, _, rfl, tup_up hg9 (tup_up hg8 hra)⟩
        case d3 =>
          rw [List.take_add_one, hxi]
          exact Laid.word hLd hgok hy
        case d4 => rw [Str.length_append]; omega
        case d5 => rw [List.length_append, hrl]; rfl
  · intro g2 m2 led2 s2 hg2 J S
    obtain ⟨hsource, hrows, text, rows, ahead, its, kk, led3, tt, ta, rfl, hsrc, htext, hahead, hR, hLd, hlen, hrl⟩ := J
    obtain ⟨g3, hg3, S, hrw⟩ := S.freeze0
    have C4 := (C3.mono hg2).mono hg3
    have hrw : g3.IsList rw its := ⟨_, hrw, rfl, _, rfl⟩
    have hR := hR.mono hg3
    repeat tb_rel
    rename St _ _ _ _ _ _ => S
    rename _ ∈ strsOf _ => htr
    have htr' : _ ∈ (["", " ", "\n"] : List Str) := htr
    clear htr
    have htl := (by decide +kernel : ∀ y ∈ (["", " ", "\n"] : List Str), y.length ≤ 10) _ htr'
    refine r_cat S (cat_ok (by omega) (by omega)) fun tk8 s8' S => ?_
    have hzz := cat_ok (a := text) (b := _) (by omega) (Nat.le_trans htl (by decide))
    rw [← Str.length_append] at hzz
    repeat tb_rel
    rename St _ _ _ _ _ _ => S
    rename Heap.IsList _ _ _ => hl1
    rename Heap.IsTuple _ _ _ => ht1
    have hrl2 := hR.length
    rw [Array.length_toList] at hrl2
    have q1 := lst_keeps hrw (by assumption)
    have q2 := lst_keeps q1 (by assumption)
    have q3 := lst_keeps q2 (by assumption)
    have q4 := lst_keeps q3 (by assumption)
    have r1 := hR.mono (by assumption)
    have r2 := r1.mono (by assumption)
    have r3 := r2.mono (by assumption)
    have r4 := r3.mono (by assumption)
    have ht2 := tup_up (by assumption) ht1
    refine r_addL (Cx.less (d' := d) (by assumption) (by omega)) S q4 hl1 (by rw [sizeLine_eq]; simp; omega) fun g7 dl s7 hg7 C7 S hdl => ?_
    have r5 := r4.mono hg7
    have ht3 := tup_up hg7 ht2
    repeat tb_rel
    rename St _ _ _ _ _ _ => S
    rename Heap.IsTuple _ _ _ => hans
    refine S.draw (by assumption) ⟨_, text, _, dl, _, _, rows, ahead, rfl, hans, lst_keeps hdl (by assumption), ?_, ?_, htr', ?_⟩
    · have r6 := r5.mono (by assumption)
      have ht4 := tup_up (by assumption) ht3
      rw [Array.toList_append]
      exact r6.snoc ⟨_, _, _, _, rfl, ht4⟩
    · rw [hsz, List.take_length] at hLd
      exact hLd
    · rw [hsz] at hlen
      exact hlen
end
/- M33 -/
open PySem PySem.W PySem.Calls PyProof.Rows
set_option maxHeartbeats 200000
section
variable {w : World} {A : Around} {E : Value → Shared → Prop} {s s0 : Shared} {e : Ent} {g g₀ : Heap} {L x dx l f sa th wl : Addr} {m : Str → Option Value} {led led₀ led₁ rest : Led} {d i i' : Nat} {v : Value} {y : Wd} {z : Str} {tk : Tok}
def GivesF (fs : List Addr) (g : Heap) (s : Shared) (P : Heap → Value → Prop) (r : Result) (s' : Shared) : Prop := ∃ v g', r = .ok (.ret v) ∧ P g' v ∧ RanF fs g [] s g' [] s'
theorem r_givesF {f : Value} {args : List Value} {P : Heap → Value → Prop} {Q : Value → Shared → Prop} (S : St e g L m led s) (hc : codeAny (model PR w) A (.call f ⟨args, []⟩) (GivesF [] g s P) s)
    (h : ∀ val g' s', g.StaysIn g' → P g' val → St e g' L m led s' → Q val s') : wpAny (model PR w) A (call f args []) Q E s :=
  r_call hc fun _ s' ⟨val, g', hr, hP, R⟩ => ⟨val, hr, h val g' s' R.le hP (St.ret (led₁ := []) S R)⟩
theorem St.givesF {P : Heap → Value → Prop} {val : Value} {fs : List Addr} {g0 : Heap} (S : St ⟨g0, [], s0, fs⟩ g L m [] s) (h : P g val) : GivesF fs g0 s0 P (.ok (.ret val)) s := ⟨val, g, rfl, h, S.ran⟩
theorem k125 (C : Cx w g A (d + 1)) (H : Has g [] s.heap) (Iw : IsWord w g v y) :
    codeAny (model PR w) A (.call (.ref 125) ⟨[v, .str z tk], []⟩) (Pure g s fun r => r = .bool (y.1 == sSign && y.2.1 == z)) s := by
  refine' enter (binds := [("self", v), ("text", .str z tk)]) ?C ?H ?ho ?hcd ?hb ?hl ?_ ?c1 ?c2 ?c3 ?c4; tb_start
  intro L s1 S C1
  repeat tb_rel
  rename St _ _ _ _ _ _ => S
  refine r_kind C1 S Iw fun tk s' S => ?_
  repeat tb_rel
  refine ite_c (fun h1 => ?_) (fun h1 => ?_)
  · repeat tb_rel
    rename St _ _ _ _ _ _ => S
    refine r_wtext C1 S Iw fun tk s' S => ?_
    repeat tb_rel
    rename St _ _ _ _ _ _ => S
    refine S.pure ?_
    rw [show (y.1 == sSign) = true from h1]; rfl
  · repeat tb_rel
    rename St _ _ _ _ _ _ => S
    refine S.pure ?_
    rw [show (y.1 == Str.ofString "sign") = false from h1, show (y.1 == sSign) = false from h1]; rfl
theorem k132 (C : Cx w g A (d + 1)) (H : Has g [] s.heap) (Iw : IsWord w g v y) :
    codeAny (model PR w) A (.call (.ref 132) ⟨[v, .str z tk], []⟩) (Pure g s fun r => r = .bool (y.1 == sOp && y.2.1 == z)) s := by
  refine' enter (binds := [("self", v), ("text", .str z tk)]) ?C ?H ?ho ?hcd ?hb ?hl ?_ ?c1 ?c2 ?c3 ?c4; tb_start
  intro L s1 S C1
  repeat tb_rel
  rename St _ _ _ _ _ _ => S
  refine r_kind C1 S Iw fun tk s' S => ?_
  repeat tb_rel
  refine ite_c (fun h1 => ?_) (fun h1 => ?_)
  · repeat tb_rel
    rename St _ _ _ _ _ _ => S
    refine r_wtext C1 S Iw fun tk s' S => ?_
    repeat tb_rel
    rename St _ _ _ _ _ _ => S
    refine S.pure ?_
    rw [show (y.1 == sOp) = true from h1]; rfl
  · repeat tb_rel
    rename St _ _ _ _ _ _ => S
    refine S.pure ?_
    rw [show (y.1 == Str.ofString "operator") = false from h1, show (y.1 == sOp) = false from h1]; rfl
theorem k139 (C : Cx w g A (d + 1)) (H : Has g [] s.heap) (Iw : IsWord w g v y) :
    codeAny (model PR w) A (.call (.ref 139) ⟨[v], []⟩) (GivesF [] g s fun g' r => IsTok g' r (y.1, y.2.1)) s := by
  refine' enter (binds := [("self", v)]) ?C ?H ?ho ?hcd ?hb ?hl ?_ ?c1 ?c2 ?c3 ?c4; tb_start
  intro L s1 S C1
  repeat tb_rel
  rename St _ _ _ _ _ _ => S
  refine r_kind C1 S Iw fun tk s' S => ?_
  repeat tb_rel
  rename St _ _ _ _ _ _ => S
  refine r_wtext C1 S Iw fun tk s' S => ?_
  repeat tb_rel
  rename St _ _ _ _ _ _ => S
  exact S.givesF ⟨_, _, _, rfl, by assumption⟩
end
/- M34 -/
open PySem PySem.W PySem.Calls PyProof.Rows
set_option maxHeartbeats 200000
section
variable {w : World} {A A₀ : Around} {E : Value → Shared → Prop} {s s' s0 : Shared} {e : Ent} {g g₀ : Heap} {L x dx l f sa th wl : Addr} {m : Str → Option Value} {led led₀ led₁ rest : Led} {d i i' : Nat} {v cd cls a0 : Value} {y : Wd} {t : Str} {tk : Tok} {outer : List Env} {qn : Str} {sc : Scope}
theorem St.widen {fs : List Addr} (S : St ⟨g₀, led₀, s0, []⟩ g L m led s) : St ⟨g₀, led₀, s0, fs⟩ g L m led s :=
  ⟨S.ran.mono (fun _ h => by cases h), S.ns, S.gL, S.lL, S.eL⟩
theorem caught_ran {B h2 : Heap} {ev : Value} (K : Stk A outer g [] s.heap) (hk : g.StaysIn s.heap) (F : Flies outer [] s ev s') (fl : Heap.FlyingW B outer x cls a0 h2)
    (hB : ∀ a o, s.heap.get? a = some o → a ∉ ([] : Led).map (·.1) → a ∉ frs outer → B.get? a = some o) (sm : s'.heap.UpToSlots h2) : RanF (frs outer) g [] s g [] { s' with heap := h2 } := by
  refine ⟨⟨fun a o q => ?_, fun p hp => (by cases hp), List.nodup_nil⟩, fun _ _ q => q, fun a o q _ => ?_, fun _ _ q => .inl q, fun _ q => (by cases q), F.shape.trans (.slots sm), F.gens, F.os⟩
  · refine fl.1 a o (hB a o (hk a o q) (by simp) fun z => ?_)
    obtain ⟨_, _, _, h, _⟩ := K.mem z
    rw [q] at h; cases h
  · by_cases z : a ∈ frs outer
    · obtain ⟨o', h1, h2', _⟩ := K.mem z
      rw [q] at h1; cases h1
      obtain ⟨sl, hs⟩ := F.slots a z o q
      obtain ⟨sl', hs'⟩ := sm a _ hs h2'
      exact ⟨_, hs', ⟨sl', rfl⟩, fun y => absurd z y⟩
    · exact ⟨o, fl.1 a o (hB a o q (by simp) z), .refl o⟩
theorem stk_of {ev : Value} (S : St e g L m led s) (K : Stk A outer e.g e.led e.s.heap) (_ : Flies (envOf qn sc L f cd :: outer) led₁ s ev s') (hk : sc.kind = .function) : Stk (A.deeper (envOf qn sc L f cd)) (envOf qn sc L f cd :: outer) g led s.heap := S.stk K hk
theorem fs_of {a : Addr} (ha : a ∈ frs (envOf qn sc L f cd :: outer)) : (a = L ∨ a ∈ frs outer) ∧ ¬a ∈ List.map (fun x => x.fst) ([] : Led) := by
  rcases List.mem_cons.mp (show a ∈ L :: frs outer from ha) with h | h
  · exact ⟨.inl h, by simp⟩
  · exact ⟨.inr h, by simp⟩
theorem r_globM {x : Str} {pos : Pos} {v : Value} {Q : Value → Shared → Prop} (C : Cx w g A₀ d) (S : St e g L m led s) (hv : nsIn (heap w.params) mainGlobals x = some (some v)) (h : Q v s)
    (hk : sc.kind = .function) (hl : (envOf qn sc L f cd).kindOf x = some .globalImplicit) (hd : (x == ("__debug__" : Str)) = false) :
    wpAny (model PR w) A (eval (.Name x pos) (envOf qn sc L f cd)) Q E s :=
  let ⟨_, _, _, T⟩ := C.T
  Name_function_global hk hl (loadGlobal_global (env := envOf qn sc L f cd) (T.g.keeps S.keep) (mg_of C.X T.g hv) h) hd
set_option maxHeartbeats 1000000 in
theorem k343 (C : Cx w g A (d + 10)) (H : Has g [] s.heap) (K : Stk A outer g [] s.heap) (ht : t.length ≤ sizeLine) (h6 : t.length ≤ 1000000) (hok : ∀ c ∈ t.cps.toList, okc c) :
    codeAny (model PR w) A (.call (.ref 343) ⟨[.str t tk], []⟩) (GivesF (frs outer) g s fun _ r => r = .bool (words t).isNone) s := by
  refine' enterE (binds := [("text", .str t tk)]) ?C ?H ?ho ?hcd ?hb ?hl ?_ ?c1 ?c2 ?c3 ?c4; tb_start
  intro L s1 S C1
  have S : St ⟨g, [], s, frs outer⟩ _ _ _ _ _ := S.widen
  refine x_cons (wpAny_Try_except ?_)
  repeat tb_rel
  rename St _ _ _ _ _ _ => S
  refine wpAny_call (codeAny_mono (k273 (d := 0) (C1.less (by omega)) S.hasL (S.stk K rfl) ht h6 hok) fun r s' q => ?_)
  unfold PathOr at q
  cases hw : words t with
  | some ws =>
    rw [hw] at q
    obtain ⟨l, items, k, g', rfl, hl, W, R⟩ := q
    have S3 := St.ret (led₁ := []) (led₁' := []) (rest := []) S R
    refine x_nil ?_
    refine x_nil ?_
    repeat tb_rel
    rename St _ _ _ _ _ _ => S
    exact S.givesF rfl
  | none =>
    rw [hw] at q
    obtain ⟨e', rfl, F⟩ := q
    obtain ⟨x, a0, B, rfl, fl, hB⟩ := F.ex
    have K1 := stk_of S K F rfl
    refine wpAny_looks_onW K1.stack rfl fl fun h1 hh1 sm1 => ?_
    refine wpAny_landsW hh1 fun h2 fl2 sm2 => ?_
    have S2 : St _ g L _ [] _ := S.retF (led₁ := []) (led₁' := []) (rest := []) (caught_ran K1 S.keep F fl2 hB (sm1.trans sm2)) (fun a ha => fs_of ha)
    obtain ⟨oe, he, hcls⟩ := fl2.there
    refine wpAny_handleBy_cons (codeAny_handlers_test ?_) (by intro q; cases q)
    refine r_globM C1 S2 (v := .ref 96) (by k_is) ?_ rfl rfl (by decide)
    refine wpAny_excMatches_sub_self (((C.X.keeps S2.keep) 96 cls96 (by k_is))) he hcls (by decide +kernel) ?_
    refine codeAny_handlers_suite ?_
    refine lands_againW fl2 fun h3 fl3 sm3 => ?_
    have S3 : St _ g L _ [] _ := S.retF (led₁ := []) (led₁' := []) (rest := []) (caught_ran K1 S.keep F fl3 hB ((sm1.trans sm2).trans sm3)) (fun a ha => fs_of ha)
    repeat tb_rel
    exact S3.givesF rfl
end
/- M35 -/
open PySem PySem.W PySem.Calls PyProof.Rows
set_option maxHeartbeats 200000
section
variable {w : World} {A A₀ : Around} {E : Value → Shared → Prop} {s s' s0 : Shared} {e : Ent} {g g₀ : Heap} {C L x dx l f sa th wl : Addr} {m : Str → Option Value} {led led₀ led₁ rest : Led} {d i i' : Nat} {v cd cls a0 : Value} {outer : List Env} {qn : Str} {sc sp : Scope} {env : Env}
theorem St.stkC (S : St e g L m led s) (K : Stk A outer e.g e.led e.s.heap) : Stk A outer g led s.heap := by
  refine ⟨K.stack, fun env he => ?_⟩
  obtain ⟨a, L', o, h1, h2, h3, h4, h5⟩ := K.there env he
  obtain ⟨o', ho', x⟩ := S.ran.frame _ _ h2 h5
  refine ⟨a, L', o', h1, ho', fun vs q => h3 vs (x.data.symm.trans q), ?_, fun q => ?_⟩
  · cases q : g.get? L' with
    | none => rfl
    | some y =>
      rcases S.ran.freshG _ _ q with z | z | z
      · rw [h4] at z; cases z
      · exact absurd z h5
      · rw [h2] at z; cases z
  · rcases S.ran.freshL _ q with z | z
    · exact h5 z
    · rw [h2] at z; cases z
theorem RanF.but {fs : List Addr} (R : RanF fs g₀ led₀ s0 g led s) (hg : g.get? C = none) (hl : C ∉ led.map (·.1)) (h0 : s0.heap.get? C = none) {h' : Heap} (hs : Heap.SameBut C s.heap h') :
    RanF fs g₀ led₀ s0 g led { s with heap := h' } := by
  refine ⟨⟨fun b o q => (hs.2 b fun z => ?_).trans (R.has.keep b o q), fun p hp => ⟨(hs.2 _ fun z => hl (z ▸ mem_map_fst hp)).trans (R.has.at_ p hp).1, (R.has.at_ p hp).2⟩, R.has.nd⟩, R.le, fun a o q n => ?_, R.freshG, R.freshL, fun b o q n => ?_, R.gens, R.os⟩
  · rw [z, hg] at q; cases q
  · obtain ⟨o', ho', x⟩ := R.frame a o q n
    refine ⟨o', (hs.2 a fun z => ?_).trans ho', x⟩
    rw [z, h0] at q; cases q
  · obtain ⟨o', ho', x⟩ := R.shape b o q n
    refine ⟨o', (hs.2 b fun z => ?_).trans ho', x⟩
    rw [z, h0] at q; cases q
theorem r_localC {x : Str} {pos : Pos} {v : Value} {Q : Value → Shared → Prop} (S : St e g C m led s) (hv : m x = some v) (h : Q v s)
    (hk : sp.kind = .function) (hl : (compEnv sp C env).kindOf x = some .local) (hd : (x == ("__debug__" : Str)) = false) :
    wpAny (model PR w) A (eval (.Name x pos) (compEnv sp C env)) Q E s := wpAny_Name (wpAny_loadName_local (env := compEnv sp C env) hk hl S.ns hv h) hd
theorem r_globC {x : Str} {pos : Pos} {v : Value} {Q : Value → Shared → Prop} (Cc : Cx w g A₀ d) (S : St e g C m led s) (hv : nsIn (heap w.params) mainGlobals x = some (some v)) (h : Q v s)
    (hk : sp.kind = .function) (hl : (compEnv sp C (envOf qn sc L f cd)).kindOf x = some .globalImplicit) (hd : (x == ("__debug__" : Str)) = false) :
    wpAny (model PR w) A (eval (.Name x pos) (compEnv sp C (envOf qn sc L f cd))) Q E s :=
  let ⟨_, _, _, T⟩ := Cc.T
  Name_function_global hk hl (loadGlobal_global (env := compEnv sp C (envOf qn sc L f cd)) (T.g.keeps S.keep) (mg_of Cc.X T.g hv) h) hd
set_option maxHeartbeats 1000000 in
theorem r_comp {elt iter : PySem.Expr} {x : Str} {px : Pos} {ifs : List PySem.Expr} {scope : Scope} {pos : Pos} {items : Array Value} {Q : Value → Shared → Prop} {fs : List Addr}
    (hh : A.handled = none) (S : St e g L m led s) (hl : g.IsList l items) (hsz : items.size ≤ sizeLine)
    (hcell : ∀ y ∈ scope.names, y.2 ≠ .cell) (hkind : scope.kind = .function) (hx : scope.names.lookup x = some .local) (hfs : ∀ a ∈ fs, a = L ∨ a ∈ e.fs)
    (J : Nat → Heap → List Value → Prop) (h0 : J 0 g [])
    (turn : ∀ C led3 s₃ i v g' m' led' s' ys, St e g L m led3 s₃ → i < items.size → items[i]? = some v → g.StaysIn g' → m' x = some v → St ⟨g, led3, s₃, fs⟩ g' C m' led' s' → J i g' ys →
      wpAny (model PR w) A (forIn ifs true fun c r => if r = true then do let ok ← isTrue c (compEnv scope C env) (eval c (compEnv scope C env)); pure (ForInStep.yield ok) else pure (ForInStep.yield r)) (fun ok s₄ =>
        if ok = true then wpAny (model PR w) A (eval elt (compEnv scope C env)) (fun y s₅ => ∃ g'', g'.StaysIn g'' ∧ J (i + 1) g'' (ys ++ [y]) ∧ St ⟨g, led3, s₃, fs⟩ g'' C m' led' s₅) noE s₄
        else ∃ g'', g'.StaysIn g'' ∧ J (i + 1) g'' ys ∧ St ⟨g, led3, s₃, fs⟩ g'' C m' led' s₄) noE s')
    (fin : ∀ D g' ys k s', g.StaysIn g' → J items.size g' ys → ys.length ≤ items.size → St e g' L m ((D, lstObj ys.toArray k) :: led) s' → Q (.ref D) s') :
    wpAny (model PR w) A (pyIter (.ref l)) (fun it s₂ => wpAny (model PR w) A (newList []) (fun acc s₃ =>
      wpAny (model PR w) A (newFunctionEnv scope env.globals [] [] env.qual none .none (some env)) (fun cenv s₄ =>
        codeAny (model PR w) A (.compStart (.ListComp elt [⟨.Name x px, iter, ifs, 0⟩] scope pos) 0 it acc { cenv with scope := scope })
          (fun r s' => ∃ m, s'.heap.Ns cenv.locals m ∧ ∀ h', Heap.SameBut cenv.locals s'.heap h' →
            match r with | .ok _ => Q acc { s' with heap := h' } | .error x => wpAny (model PR w) A (passOn "comprehension.variables-let-go" x { cenv with scope := scope }) Q E { s' with heap := h' }) s₄) E s₃) E s₂) E s := by
  have hls : s.heap.IsList l items := lst_keeps hl S.keep
  refine wpAny_pyIter_list hls ?_
  have S2 := S.push (o := { cls := .type "list_iterator", data := .fields #[.ref l, .int 0 0] }) rfl (tk := s.toks)
  have hlI : l ≠ s.heap.objs.size := by
    obtain ⟨o, ho, _⟩ := hls
    exact Nat.ne_of_lt (Heap.lt_size ho)
  generalize hI : s.heap.objs.size = I at S2 hlI ⊢
  generalize hs2 : ({ s with heap := s.heap.push { cls := .type "list_iterator", data := .fields #[.ref l, .int 0 0] } } : Shared) = s2 at S2 ⊢
  refine r_newList S2 (by decide) fun D s₃ S3 => ?_
  refine wpAny_newFunctionEnv hcell (by intro y hy; simp at hy) (fun h₁ hns hsb => ?_) hkind
  have k₁ : ∀ b o, s₃.heap.get? b = some o → h₁.get? b = some o := fun b o q => (hsb.2 b (Nat.ne_of_lt (Heap.lt_size q))).trans (Heap.get?_push_of_some _ q)
  have S4 : St ⟨g, (D, lstObj [].toArray 0) :: (I, { cls := .type "list_iterator", data := .fields #[.ref l, .int 0 0] }) :: led, s₃, fs⟩ g s₃.heap.objs.size (fun x => ([] : List (Str × Value)).reverse.lookup x)
      ((D, lstObj [].toArray 0) :: (I, { cls := .type "list_iterator", data := .fields #[.ref l, .int 0 0] }) :: led) { s₃ with heap := h₁, toks := s₃.toks + ([] : List (Str × Value)).length } := by
    refine ⟨⟨⟨fun b o q => k₁ b o (S3.keep b o q), fun p hp => ⟨k₁ _ _ (S3.get hp), (S3.ran.has.at_ p hp).2⟩, S3.ran.has.nd⟩, fun _ _ q => q, fun a o q _ => ⟨o, k₁ a o q, .refl o⟩, fun _ _ q => .inl q, fun _ q => .inl q, .keeps k₁, rfl, rfl⟩, hns, fresh_size S3.keep, fun q => ?_, fresh_size fun _ _ q => q⟩
    obtain ⟨p, hp, e'⟩ := List.mem_map.mp q
    have := Heap.lt_size (S3.get hp)
    rw [e'] at this; exact Nat.lt_irrefl _ this
  generalize hC : s₃.heap.objs.size = C at S4 ⊢
  generalize ({ s₃ with heap := h₁, toks := s₃.toks + ([] : List (Str × Value)).length } : Shared) = s4 at S4 ⊢
  clear hns hsb k₁
  have loop : codeAny (model PR w) A (.compLoop (.ListComp elt [⟨.Name x px, iter, ifs, 0⟩] scope pos) 0 (.ref I) (.ref D) (compEnv scope C env))
      (fun r s' => ∃ m, s'.heap.Ns C m ∧ ∀ h', Heap.SameBut C s'.heap h' →
            match r with | .ok _ => Q (.ref D) { s' with heap := h' } | .error x => wpAny (model PR w) A (passOn "comprehension.variables-let-go" x (compEnv scope C env)) Q E { s' with heap := h' }) s4 := by
    refine codeAny_compLoop_tests (fun n s' => ∃ i g' m' ys k o', i ≤ items.size ∧ n = items.size - i ∧ g.StaysIn g' ∧ J i g' ys ∧ ys.length ≤ i ∧ o'.cls = .type "list_iterator" ∧ o'.data = .fields #[.ref l, .int i 0] ∧
      St ⟨g, (D, lstObj [].toArray 0) :: (I, { cls := .type "list_iterator", data := .fields #[.ref l, .int 0 0] }) :: led, s₃, fs⟩ g' C m' ((D, lstObj ys.toArray k) :: (I, o') :: led) s') ?_ items.size
      ⟨0, g, _, [], 0, _, Nat.zero_le _, rfl, fun _ _ q => q, h0, Nat.le_refl _, rfl, rfl, S4⟩
    rintro n s' ⟨i, g', m', ys, k, o', hi, rfl, hg, hJ, hy, hc, hd', S'⟩
    have hit : s'.heap.IsListIter I l i := ⟨o', S'.get (.tail _ (.head _)), hc, hd'⟩
    have hl' : s'.heap.IsList l items := lst_keeps (lst_keeps hl hg) S'.keep
    cases hv : items[i]? with
    | none =>
      refine wpAny_pyNext_list_end hh hit hl' hv fun h₂ hs₂ => ?_
      have hin : i = items.size := by
        have := Array.getElem?_eq_none_iff.mp hv
        omega
      subst hin
      have S5 := (S'.perm (led' := (I, o') :: (D, lstObj ys.toArray k) :: led) (.swap _ _ _)).lose (h' := h₂) (tk := s'.toks) (fun b o nb q => hs₂ b o nb q) ⟨_, hd'⟩
      refine ⟨m', S5.ns, fun h₃ hs₃ => ?_⟩
      have R := S5.ran.but S5.gL S5.lL S5.eL hs₃
      have S6 := St.retF (rest := []) (by rw [List.append_nil]; exact S3) R (fun a ha => ⟨hfs a ha, by simp⟩)
      rw [List.append_nil] at S6
      exact fin D g' ys k _ hg hJ hy S6
    | some v =>
      have hlt : i < items.size := (Array.getElem?_eq_some_iff.mp hv).1
      refine wpAny_pyNext_list_item hit hl' hv fun h₂ hit₂ hs₂ => ?_
      obtain ⟨o₂, ho₂, hc₂, hd₂⟩ := hit₂
      have S5 := (S'.perm (led' := (I, o') :: (D, lstObj ys.toArray k) :: led) (.swap _ _ _)).upd (tk := s'.toks) hs₂ ho₂ (fun n => absurd hd' (n _))
      have S5 := S5.perm (led' := (D, lstObj ys.toArray k) :: (I, o₂) :: led) (.swap _ _ _)
      refine wpAny_assign_Name (wpAny_storeName_local (env := compEnv scope C env) hx S5.ns (fun h₃ hn₃ hs₃ => ?_) (by show (scope.kind == .class || (scope.kind == .module && _)) = false; rw [hkind]; rfl))
      have S6 := S5.set (tk := s'.toks + 1) hn₃ hs₃
      refine wpAny_mono (turn C _ _ i v g' _ _ _ ys S3 hlt hv hg (by simp) S6 hJ) (fun ok s₄ h₄ => ?_) fun _ _ f => f.elim
      cases ok with
      | true =>
        rw [if_pos rfl] at h₄ ⊢
        refine wpAny_mono h₄ (fun y s₅ h₅ => ?_) fun _ _ f => f.elim
        obtain ⟨g'', hg', hJ', S7⟩ := h₅
        refine r_append S7 (by rw [List.size_toArray]; omega) fun k' s₆ S8 => ?_
        exact ⟨items.size - (i + 1), by omega, i + 1, g'', _, ys ++ [y], k', o₂, hlt, rfl, fun b o q => hg' b o (hg b o q), hJ', by rw [List.length_append]; simp; omega, hc₂, hd₂, by rw [List.push_toArray] at S8; exact S8⟩
      | false =>
        rw [if_neg (by decide)] at h₄ ⊢
        obtain ⟨g'', hg', hJ', S7⟩ := h₄
        exact ⟨items.size - (i + 1), by omega, i + 1, g'', _, ys, k, o₂, hlt, rfl, fun b o q => hg' b o (hg b o q), hJ', by omega, hc₂, hd₂, S7⟩
  exact codeAny_compStart_list loop (wpAny_pyIter_listiter ⟨_, S4.get (.tail _ (.head _)), rfl, rfl⟩ loop)
end
/- M36 -/
open PySem PySem.W PySem.Calls PyProof.Rows
set_option maxHeartbeats 200000
section
variable {w : World} {A : Around} {E : Value → Shared → Prop} {s : Shared} {d : Nat} {g : Heap}
theorem eqT2 {a b : Addr} {x y : Str} {t1 t2 u1 u2 : Tok} (ha : s.heap.IsTuple a #[.str x t1, .str y t2]) (hb : s.heap.IsTuple b #[.str x u1, .str y u2]) (hu : A.units < cLine) : SeqAt.EqAt A s (.ref a) (.ref b) true := by
  by_cases q : a = b
  · subst q; exact SeqAt.EqAt.same _
  · refine SeqAt.EqAt.of_refs q ?_
    have := SeqAt.RcAt.tuples (e := fun _ => true) ha hb hu (fun j h1 h2 => ?_)
    · exact this
    · match j, h1 with
      | 0, _ => simpa using SeqAt.EqAt.str_str (A := A.in1) (s := s) x t1 x u1
      | 1, _ => simpa using SeqAt.EqAt.str_str (A := A.in1) (s := s) y t2 y u2
theorem eqT3 {a b : Addr} {x y : Str} {i : Int} {t1 t2 t3 u1 u2 u3 : Tok} (ha : s.heap.IsTuple a #[.str x t1, .str y t2, .int i t3]) (hb : s.heap.IsTuple b #[.str x u1, .str y u2, .int i u3]) (hu : A.units < cLine) : SeqAt.EqAt A s (.ref a) (.ref b) true := by
  by_cases q : a = b
  · subst q; exact SeqAt.EqAt.same _
  · refine SeqAt.EqAt.of_refs q ?_
    have := SeqAt.RcAt.tuples (e := fun _ => true) ha hb hu (fun j h1 h2 => ?_)
    · exact this
    · match j, h1 with
      | 0, _ => simpa using SeqAt.EqAt.str_str (A := A.in1) (s := s) x t1 x u1
      | 1, _ => simpa using SeqAt.EqAt.str_str (A := A.in1) (s := s) y t2 y u2
      | 2, _ => simpa using SeqAt.EqAt.int_int (A := A.in1) (s := s) i t3 i u3
theorem Rows.get {vs : List Value} {xs : List Wd} (h : Rows g vs xs) : ∀ {j : Nat} {v : Value}, vs[j]? = some v → ∃ x, xs[j]? = some x ∧ IsRow g v x := by
  induction h with
  | nil => intro j v e; cases e
  | cons a _ ih =>
    intro j v e
    cases j with
    | zero => cases e; exact ⟨_, rfl, a⟩
    | succ j => exact ih (by simpa using e)
theorem rowsEq {vs us : List Value} {xs : List Wd} (hv : Rows s.heap vs xs) (hw : Rows s.heap us xs) (hu : A.units < cLine) : ∀ j (h1 : j < vs.toArray.size) (h2 : j < us.toArray.size), SeqAt.EqAt A s vs.toArray[j] us.toArray[j] true := by
  intro j h1 h2
  obtain ⟨x, e1, a1, t1, t2, t3, q1, T1⟩ := hv.get (j := j) (v := vs.toArray[j]) (by simp)
  obtain ⟨x', e2, a2, u1, u2, u3, q2, T2⟩ := hw.get (j := j) (v := us.toArray[j]) (by simp)
  rw [e1] at e2; cases e2
  rw [q1, q2]
  exact eqT3 T1 T2 hu
theorem toksEq {vs us : List Value} {xs : List Tk} (hv : Toks s.heap vs xs) (hw : Toks s.heap us xs) (hu : A.units < cLine) : ∀ j (h1 : j < vs.toArray.size) (h2 : j < us.toArray.size), SeqAt.EqAt A s vs.toArray[j] us.toArray[j] true := by
  intro j h1 h2
  obtain ⟨x, e1, a1, t1, t2, q1, T1⟩ := hv.at (i := j) (v := vs.toArray[j]) (by simp)
  obtain ⟨x', e2, a2, u1, u2, q2, T2⟩ := hw.at (i := j) (v := us.toArray[j]) (by simp)
  rw [e1] at e2; cases e2
  rw [q1, q2]
  exact eqT2 T1 T2 hu
theorem all_true (n : Nat) : (List.range n).all (fun _ => true) = true := by simp
theorem r_neRows {l b : Addr} {vs us : List Value} {xs : List Wd} {Q : Value → Shared → Prop} (C : Cx w g A d) (hl : s.heap.IsList l vs.toArray) (hb : s.heap.IsList b us.toArray) (hv : Rows s.heap vs xs) (hw : Rows s.heap us xs) (h : Q (.bool false) s) :
    wpAny (model PR w) A (compareOp .NotEq (.ref l) (.ref b)) Q E s := by
  have hu : A.units < cLine := by have := C.units; show A.units < 9900; omega
  have hu1 : A.in1.units < cLine := by have := C.units; show A.units + 1 < 9900; omega
  have := SeqAt.RcNeAt.lists (e := fun _ => true) hl hb (by rw [List.size_toArray, List.size_toArray, hv.length, hw.length]) hu (rowsEq (A := A.in1) hv hw hu1)
  rw [all_true] at this
  exact this PR w E Q h
theorem r_neToks {l b : Addr} {vs us : List Value} {xs : List Tk} {Q : Value → Shared → Prop} (C : Cx w g A d) (hl : s.heap.IsList l vs.toArray) (hb : s.heap.IsList b us.toArray) (hv : Toks s.heap vs xs) (hw : Toks s.heap us xs) (h : Q (.bool false) s) :
    wpAny (model PR w) A (compareOp .NotEq (.ref l) (.ref b)) Q E s := by
  have hu : A.units < cLine := by have := C.units; show A.units < 9900; omega
  have hu1 : A.in1.units < cLine := by have := C.units; show A.units + 1 < 9900; omega
  have := SeqAt.RcNeAt.lists (e := fun _ => true) hl hb (by rw [List.size_toArray, List.size_toArray, hv.length, hw.length]) hu (toksEq (A := A.in1) hv hw hu1)
  rw [all_true] at this
  exact this PR w E Q h
theorem r_neTup {a b : Addr} {x y : Str} {t1 t2 u1 u2 : Tok} {Q : Value → Shared → Prop} (C : Cx w g A d) (ha : s.heap.IsTuple a #[.str x t1, .str y t2]) (hb : s.heap.IsTuple b #[.str x u1, .str y u2]) (h : Q (.bool false) s) :
    wpAny (model PR w) A (compareOp .NotEq (.ref a) (.ref b)) Q E s := by
  have hu : A.units < cLine := by have := C.units; show A.units < 9900; omega
  have := SeqAt.RcNeAt.tuples (e := fun _ => true) ha hb hu (fun j h1 h2 => by
    match j, h1 with
    | 0, _ => simpa using SeqAt.EqAt.str_str (A := A.in1) (s := s) x t1 x u1
    | 1, _ => simpa using SeqAt.EqAt.str_str (A := A.in1) (s := s) y t2 y u2)
  exact this PR w E Q h
end
/- M37 -/
open PySem PySem.W PySem.Calls PyProof.Rows
set_option maxHeartbeats 200000
section
variable {w : World} {A A₀ : Around} {E : Value → Shared → Prop} {s s' s0 : Shared} {e : Ent} {g g₀ : Heap} {L x dx l f sa th wl : Addr} {m : Str → Option Value} {led led₀ led₁ rest : Led} {d i i' : Nat} {v cd cls a0 : Value} {y : Wd} {t : Str} {tk : Tok} {outer : List Env} {qn : Str} {sc : Scope} {env : Env}
theorem tests1 {c : PySem.Expr} {Q : Bool → Shared → Prop} (h : wpAny (model PR w) A (isTrue c env (eval c env)) Q E s) :
    wpAny (model PR w) A (forIn [c] true fun c r => if r = true then do let ok ← isTrue c env (eval c env); pure (ForInStep.yield ok) else pure (ForInStep.yield r)) Q E s := by
  rw [List.forIn_cons]
  rw [if_pos rfl]
  refine wpAny_bind (wpAny_bind (wpAny_mono h (fun b s₁ h₁ => wpAny_pure ?_) fun _ _ q => q))
  dsimp only
  rw [List.forIn_nil]
  exact wpAny_pure h₁
theorem tests0 {env : Env} {Q : Bool → Shared → Prop} (h : Q true s) :
    wpAny (model PR w) A (forIn ([] : List PySem.Expr) true fun c r => if r = true then do let ok ← isTrue c env (eval c env); pure (ForInStep.yield ok) else pure (ForInStep.yield r)) Q E s := by
  rw [List.forIn_nil]
  exact wpAny_pure h
theorem Toks.snoc {g : Heap} {vs : List Value} {xs : List Tk} {v : Value} {x : Tk} (h : Toks g vs xs) (a : IsTok g v x) : Toks g (vs ++ [v]) (xs ++ [x]) := by
  induction h with
  | nil => exact .cons a .nil
  | cons b _ ih => exact .cons b ih
theorem stays_trans {g g1 g2 : Heap} (a : g.StaysIn g1) (b : g1.StaysIn g2) : g.StaysIn g2 := fun x o q => b x o (a x o q)
theorem strs_of_list {g : Heap} {l : Addr} {vs : List Value} {xs : List Str} (_ : g.IsList l vs.toArray) (h : allStr vs = true) (e : strsOf vs = xs) : StrsAre vs xs := e ▸ strs_of h
theorem str_at {xs : List Str} : ∀ {vs : List Value} {i : Nat} {v : Value}, StrsAre vs xs → vs[i]? = some v → ∃ x t, v = .str x t ∧ x ∈ xs := by
  intro vs i v h
  induction h generalizing i with
  | nil => intro e; cases e
  | cons y t _ ih =>
    intro e
    cases i with
    | zero => cases e; exact ⟨y, t, rfl, .head _⟩
    | succ i =>
      obtain ⟨x, t', e', hx⟩ := ih (i := i) (by simpa using e)
      exact ⟨x, t', e', .tail _ hx⟩
theorem r_refused {f : Value} {args : List Value} {P : Heap → Value → Prop} {Q : Value → Shared → Prop} (S : St e g L m led s) (K : Stk A outer g led s.heap) (hf : ∀ a ∈ frs outer, a ∈ e.fs)
    (hc : codeAny (model PR w) A (.call f ⟨args, []⟩) (GivesF (frs outer) g s P) s) (h : ∀ v g' s', g.StaysIn g' → P g' v → St e g' L m led s' → Q v s') : wpAny (model PR w) A (call f args []) Q E s :=
  r_call hc fun _ s' ⟨val, g', hr, hP, R⟩ => ⟨val, hr, h val g' s' R.le hP (S.retF (led₁ := []) R (fun a ha => ⟨.inr (hf a ha), let ⟨_, _, _, _, n⟩ := K.mem ha; n⟩))⟩
theorem r_path {ws : List Wd} {a : Tok} {Q : Value → Shared → Prop} (S : St e g L m led s) (hc : codeAny (model PR w) A (.call (.ref 273) ⟨[.str t a], []⟩) (PathOr w g [] s outer t) s) (hw : words t = some ws)
    (h : ∀ l items g' s', g.StaysIn g' → g'.IsList l items → Words w g' items.toList ws → St e g' L m led s' → Q (.ref l) s') : wpAny (model PR w) A (call (.ref 273) [.str t a] []) Q E s := by
  refine wpAny_call (codeAny_mono hc fun r s' q => ?_)
  unfold PathOr at q
  rw [hw] at q
  obtain ⟨l, items, k, g', rfl, hl, W, R⟩ := q
  exact h l items g' s' R.le ⟨_, hl, rfl, _, rfl⟩ W (St.ret (led₁ := []) S R)
theorem r_wdm {a : Value} {name : Str} {pl : Sem Bool} {Q : Value × List Value → Shared → Prop} (C : Cx w g A d) (S : St e g L m led s) (Iw : IsWord w g a y) (hg : plainGet (heap w.params) 142 name = true)
    (hf : findIn (heap w.params) (.ref 142) name = some (some (.ref f))) (ht : isFn (heap w.params) (.ref f) = true) (hl : ∀ t1 t2 t3 t4 t5 t6, getL name (woD w y.1 y.2.1 y.2.2 t1 t2 t3 t4 t5 t6) = some none) (h : Q (.ref f, [a]) s) :
    wpAny (model PR w) A (getMethod a name pl) Q E s := by
  obtain ⟨a, da, t1, t2, t3, t4, t5, t6, rfl, I⟩ := Iw
  exact r_meth C S (I.keeps S.keep) hg hf ht (hl _ _ _ _ _ _) h
theorem Words.at : ∀ {vs : List Value} {xs : List Wd} {i : Nat} {v : Value}, Words w g vs xs → vs[i]? = some v → ∃ x, xs[i]? = some x ∧ IsWord w g v x
  | _, _, 0, _, .cons a _, h => by cases h; exact ⟨_, rfl, a⟩
  | _, _, i + 1, _, .cons _ r, h => by
    obtain ⟨x, e, hx⟩ := Words.at (i := i) r (by simpa using h)
    exact ⟨x, by simpa using e, hx⟩
def SOME : List Tk := [("f(a,*)", "name"), ("a[*]", "name"), ("@*", "name"), ("a::*", "name"), (")*", "operator"), (". *", "operator")]
def WRONG : List Str := ["'a", "a '", "$", "$ a", "$p:*", "$p:", "p:", "a b", "3 a", "'x' y", "#", "a ! b", "a : b", "* a", "%", "a $"]
def stars (ws : List Wd) : List Tk := (ws.filter fun y => y.2.1 == Str.ofString "*").map fun y => (y.1, y.2.1)
theorem some_right : ∀ x ∈ SOME, (words x.1).map stars = some [(x.2, Str.ofString "*")] := by decide +kernel
theorem some_len : ∀ x ∈ SOME, (words x.1).map (fun ws => decide (ws.length ≤ 50)) = some true := by decide +kernel
theorem some_ok : ∀ x ∈ SOME, x.1.length ≤ 100 ∧ ∀ c ∈ x.1.cps.toList, c < 128 := by decide +kernel
theorem wrong_none : ∀ x ∈ WRONG, (words x).isNone = true := by decide +kernel
theorem wrong_ok : ∀ x ∈ WRONG, x.length ≤ 100 ∧ ∀ c ∈ x.cps.toList, c < 128 := by decide +kernel
local macro_rules | `(tactic| tb_rel) => `(tactic| first
  | ((rename St _ _ _ _ _ _ => S0); (with_reducible refine' r_localC S0 ?hv ?_ ?hk ?hl ?hd); (case hv => first | rfl | assumption); (case hk => rfl); (case hl => rfl); (case hd => decide))
  | ((rename St _ _ _ _ _ _ => S0); (with_reducible refine' r_globC (by assumption) S0 ?hv ?_ ?hk ?hl ?hd); (case hv => k_is); (case hk => rfl); (case hl => rfl); (case hd => decide))
  | (with_reducible refine tests1 ?_)
  | (with_reducible refine wpAny_ListComp ?hfree ?hkind ?hnames ?_ ?hset; (case hfree => decide); (case hkind => rfl); (case hnames => decide); (case hset => exact fun _ => rfl)))
theorem lst_up {g g' : Heap} {a : Addr} {items : Array Value} (k : g.StaysIn g') (h : g.IsList a items) : g'.IsList a items := lst_keeps h k
theorem toks_of {g : Heap} {l : Addr} {vs : List Value} {xs : List Tk} (_ : g.IsList l vs.toArray) (T : Toks g vs xs) : Toks g vs xs := T
set_option maxHeartbeats 1000000 in
theorem k348 (C : Cx w g A (d + 12)) (H : Has g [] s.heap) (K : Stk A outer g [] s.heap) :
    codeAny (model PR w) A (.call (.ref 348) ⟨[], []⟩) (GivesF (frs outer) g s fun _ r => r = .bool true) s := by
  refine' enter (binds := []) ?C ?H ?ho ?hcd ?hb ?hl ?_ ?c1 ?c2 ?c3 ?c4; tb_start
  intro L s1 S C1
  have S : St ⟨g, [], s, frs outer⟩ _ _ _ _ _ := S.widen
  repeat tb_rel
  refine x_for ?_ (fun _ => rfl)
  rename Heap.IsList _ _ _ => hsome
  repeat tb_rel
  rename St _ _ _ _ _ _ => S
  rename Cx _ _ _ _ => C2
  rename Heap.IsList _ _ _ => hl1
  have hsome1 := lst_keeps hsome (by assumption)
  have hsome2 := lst_keeps hsome1 (by assumption)
  refine r_addL C2 S hsome2 hl1 (by rw [sizeLine_eq]; exact Nat.le_of_ble_eq_true rfl) fun g3 l3 s3 hg3 C3 S hl3 => ?_
  simp only [List.append_toArray, List.cons_append, List.nil_append] at hl3
  have hT := toks_of (xs := SOME) hl3 (.cons ⟨_, _, _, rfl, by iterate 40 (first | done | assumption | refine' tup_up (by assumption) ?_)⟩ (.cons ⟨_, _, _, rfl, by iterate 40 (first | done | assumption | refine' tup_up (by assumption) ?_)⟩ (.cons ⟨_, _, _, rfl, by iterate 40 (first | done | assumption | refine' tup_up (by assumption) ?_)⟩ (.cons ⟨_, _, _, rfl, by iterate 40 (first | done | assumption | refine' tup_up (by assumption) ?_)⟩ (.cons ⟨_, _, _, rfl, by iterate 40 (first | done | assumption | refine' tup_up (by assumption) ?_)⟩ (.cons ⟨_, _, _, rfl, by iterate 40 (first | done | assumption | refine' tup_up (by assumption) ?_)⟩ .nil))))))
  refine loopList C3.hand hl3 (fun i g m led => led = []) S rfl ?_ ?_
  · intro I i v g2 m2 led2 o' s2 hi hg2 J hv S
    subst J
    obtain ⟨⟨t, due⟩, hxi, wd, t1, t2, rfl, hT1⟩ := Toks.at (i := i) hT (by rw [← List.getElem?_toArray]; exact hv)
    have hmem := List.mem_of_getElem? hxi
    have hT2 := tup_keeps hT1 hg2
    have C4 := C3.mono hg2
    repeat tb_rel
    refine wpAny_ListComp (by decide) rfl (by decide) ?_ (fun _ => rfl)
    repeat tb_rel
    rename St _ _ _ _ _ _ => S
    obtain ⟨ws, hws, hst, hwl⟩ : ∃ ws, words t = some ws ∧ stars ws = [(due, Str.ofString "*")] ∧ ws.length ≤ 50 := by
      have h1 := some_right _ hmem
      have h2 := some_len _ hmem
      dsimp only at h1 h2
      cases h : words t with
      | none => rw [h] at h1; cases h1
      | some ws => rw [h] at h1 h2; exact ⟨ws, rfl, Option.some.inj h1, of_decide_eq_true (Option.some.inj h2)⟩
    have hok := some_ok _ hmem
    dsimp only at hok
    refine r_path S (k273 (d := 0) (C4.less (by omega)) S.has0 ((S.stk K rfl).sub (fun p hp => by cases hp)) (by rw [sizeLine_eq]; exact Nat.le_trans hok.1 (by decide)) (Nat.le_trans hok.1 (by decide)) (fun c hc => .inl (hok.2 c hc))) hws fun l items g5 s5 hg5 hl5 W5 S => ?_
    have hlen := W5.length
    have C5 := C4.mono hg5
    refine r_comp C5.hand S hl5 ?_ (by decide) rfl (by decide) (fs := []) (fun a ha => by cases ha) (fun i g ys => Toks g ys (stars (ws.take i))) .nil ?_ ?_
    · rw [sizeLine_eq]; rw [Array.length_toList] at hlen; omega
    · intro C6 led6 s6 i6 v6 g6 m6 led7 s7 ys6 S6 hi6 hv6 hg6 hm6 S J6
      obtain ⟨y, hy, Iw⟩ := (W5.mono hg6).at (i := i6) (by rw [Array.getElem?_toList]; exact hv6)
      have C7 := C5.mono hg6
      have hstep : stars (ws.take (i6 + 1)) = stars (ws.take i6) ++ stars [y] := by
        rw [List.take_add_one, hy]
        unfold stars
        rw [List.filter_append, List.map_append]; rfl
      refine tests1 ?_
      repeat tb_rel
      rename St _ _ _ _ _ _ => S
      refine r_wtext C7 S Iw fun tk s' S => ?_
      repeat tb_rel
      refine ite_c (fun h1 => ?_) (fun h1 => ?_)
      · repeat tb_rel
        rename St _ _ _ _ _ _ => S
        refine r_wdm (f := 139) C7 S Iw (by k_is) (by k_is) (by k_is) (fun _ _ _ _ _ _ => rfl) ?_
        repeat tb_rel
        rename St _ _ _ _ _ _ => S
        refine r_givesF S (k139 (d := 0) (Cx.less (by assumption) (by omega)) S.has0 Iw) fun v8 g8 s8 hg8 hP8 S => ?_
        have : stars [y] = [(y.1, y.2.1)] := by unfold stars; rw [List.filter_cons_of_pos (p := fun y : Wd => y.2.1 == Str.ofString "*") h1]; rfl
        exact ⟨g8, hg8, by rw [hstep, this]; exact (J6.mono hg8).snoc hP8, S⟩
      · rename St _ _ _ _ _ _ => S
        refine ⟨_, fun _ _ q => q, ?_, S⟩
        have : stars [y] = [] := by unfold stars; rw [List.filter_cons_of_neg (by rw [h1]; decide)]; rfl
        rw [hstep, this, List.append_nil]
        exact J6
    · intro D g6 ys k s6 hg6 J6 hy6 S
      obtain ⟨g7, hg7, S, hD⟩ := S.freeze0
      have C6 := (C5.mono hg6).mono hg7
      have J7 := J6.mono hg7
      have hD1 : g7.IsList D ys.toArray := ⟨_, hD, rfl, _, rfl⟩
      have htk : ws.take items.size = ws := List.take_of_length_le (by rw [← hlen, Array.length_toList]; exact Nat.le_refl _)
      rw [htk, hst] at J7
      repeat tb_rel
      rename St _ _ _ _ _ _ => S
      rename Heap.IsList _ _ _ => hdl
      rename Heap.IsTuple _ _ _ => hdt
      have hD2 := lst_keeps hD1 (by assumption)
      have hD3 := lst_keeps hD2 (by assumption)
      have J8 := J7.mono (by assumption)
      have J9 := J8.mono (by assumption)
      have hdt2 := tup_up (by assumption) hdt
      refine r_neToks (Cx.less (d' := 0) (by assumption) (by omega)) (lst_keeps hD3 S.keep) (lst_keeps hdl S.keep) (J9.mono S.keep) (.cons ⟨_, _, _, rfl, tup_up S.keep hdt2⟩ .nil) ?_
      repeat tb_rel
      rename St _ _ _ _ _ _ => S
      have z7 := stays_trans (stays_trans hg5 hg6) hg7
      have z8 := stays_trans z7 (by assumption)
      have z9 := stays_trans z8 (by assumption)
      exact ⟨_, _, [], z9, rfl, S⟩
  · intro g2 m2 led2 s2 hg2 J S
    subst J
    have C4 := C3.mono hg2
    repeat tb_rel
    refine wpAny_ListComp (by decide) rfl (by decide) ?_ (fun _ => rfl)
    rename Heap.IsList _ _ _ => hwr
    repeat tb_rel
    rename St _ _ _ _ _ _ => S
    rename Heap.IsList _ _ _ => hl2
    rename Cx _ _ _ _ => C5
    have hwr1 := lst_keeps hwr (by assumption)
    refine r_addL C5 S hwr1 hl2 (by rw [sizeLine_eq]; exact Nat.le_of_ble_eq_true rfl) fun g5 l5 s5 hg5 C6 S hl5 => ?_
    simp only [List.append_toArray, List.cons_append, List.nil_append] at hl5
    have hstr := strs_of_list (xs := WRONG) hl5 rfl rfl
    refine r_comp C6.hand S hl5 (by rw [sizeLine_eq]; exact Nat.le_of_ble_eq_true rfl) (by decide) rfl (by decide) (fs := L :: frs outer) (fun a ha => List.mem_cons.mp ha) (fun i g ys => ys = []) rfl ?_ ?_
    · intro D6 led6 s6 i6 v6 g6 m6 led7 s7 ys6 S6 hi6 hv6 hg6 hm6 S J6
      subst J6
      obtain ⟨x, tx, rfl, hx⟩ := str_at (i := i6) hstr (by rw [← List.getElem?_toArray]; exact hv6)
      have C7 := C6.mono hg6
      refine tests1 ?_
      repeat tb_rel
      rename St _ _ _ _ _ _ => S
      have hok := wrong_ok _ hx
      refine r_refused S (S.stkC (S6.stk K rfl)) (fun a ha => ha) (k343 (d := 0) (Cx.less C7 (by omega)) S.has0 ((S.stkC (S6.stk K rfl)).sub (fun p hp => by cases hp)) (by rw [sizeLine_eq]; exact Nat.le_trans hok.1 (by decide)) (Nat.le_trans hok.1 (by decide)) (fun c hc => .inl (hok.2 c hc))) fun v g8 s8 hg8 hP8 S => ?_
      have hP8 := hP8
      rw [wrong_none _ hx] at hP8
      subst hP8
      repeat tb_rel
      rename St _ _ _ _ _ _ => S
      exact ⟨g8, hg8, rfl, S⟩
    · intro D g6 ys k s6 hg6 J6 hy6 S
      subst J6
      obtain ⟨g7, hg7, S, hD⟩ := S.freeze0
      have C7 := (C6.mono hg6).mono hg7
      have hD1 : g7.IsList D #[] := ⟨_, hD, rfl, _, rfl⟩
      repeat tb_rel
      rename St _ _ _ _ _ _ => S
      rename Heap.IsList _ _ _ => hdl
      refine r_isNil (Cx.less (d' := 0) (by assumption) (by omega)) (lst_keeps (lst_keeps hD1 (by assumption)) S.keep) (lst_keeps hdl S.keep) ?_
      repeat tb_rel
      exact S.givesF rfl
end
/- M38 -/
open PySem PySem.W PySem.Calls PyProof.Rows
set_option maxHeartbeats 8000000
local macro_rules | `(tactic| tb_rel) => `(tactic| first
  | ((rename St _ _ _ _ _ _ => S0); (with_reducible refine' r_localC S0 ?hv ?_ ?hk ?hl ?hd); (case hv => first | rfl | assumption); (case hk => rfl); (case hl => rfl); (case hd => decide))
  | ((rename St _ _ _ _ _ _ => S0); (with_reducible refine' r_globC (by assumption) S0 ?hv ?_ ?hk ?hl ?hd); (case hv => k_is); (case hk => rfl); (case hl => rfl); (case hd => decide))
  | (with_reducible refine tests1 ?_)
  | (with_reducible refine wpAny_ListComp ?hfree ?hkind ?hnames ?_ ?hset; (case hfree => decide); (case hkind => rfl); (case hnames => decide); (case hset => exact fun _ => rfl)))
local macro_rules | `(tactic| k_qdec) => `(tactic| decide +kernel)
section
variable {w : World} {A A₀ : Around} {E : Value → Shared → Prop} {s s' s0 : Shared} {e : Ent} {g g₀ : Heap} {L x dx l f sa th wl : Addr} {m : Str → Option Value} {led led₀ led₁ rest : Led} {d i i' : Nat} {v cd cls a0 : Value} {y : Wd} {t : Str} {tk : Tok} {outer : List Env} {qn : Str} {sc : Scope} {env : Env}
theorem St.start {h : Heap} {tk : Nat} (F : Fr s.heap L h m) (hL : s.heap.get? L = none) : St ⟨s.heap, [], s, []⟩ s.heap L m [] { s with heap := h, toks := tk } := by
  refine ⟨⟨⟨F.keep, fun p hp => (by cases hp), List.nodup_nil⟩, fun _ _ q => q, fun a o q _ => ⟨o, F.keep a o q, .refl o⟩, fun _ _ q => .inl q, fun _ q => (by cases q), .keeps F.keep, rfl, rfl⟩, F.ns, hL, (fun q => by cases q), hL⟩
theorem r_widen {f : Value} {args : List Value} {P : Heap → Value → Prop} {Q : Value → Shared → Prop} (S : St e g L m led s) (K : Stk A outer g led s.heap) (hf : ∀ a ∈ frs outer, a = L ∨ a ∈ e.fs)
    (hc : codeAny (model PR w) A (.call f ⟨args, []⟩) (GivesF (frs outer) g s P) s) (h : ∀ v g' s', g.StaysIn g' → P g' v → St e g' L m led s' → Q v s') : wpAny (model PR w) A (call f args []) Q E s :=
  r_call hc fun _ s' ⟨val, g', hr, hP, R⟩ => ⟨val, hr, h val g' s' R.le hP (S.retF (led₁ := []) R (fun a ha => ⟨hf a ha, let ⟨_, _, _, _, n⟩ := K.mem ha; n⟩))⟩
theorem r_poolTo {f : Value} {args : List Value} {Q : Value → Shared → Prop} (S : St e g L m [] s) (hc : codeAny (model PR w) A (.call f ⟨args, []⟩) (PoolTo g s) s)
    (h : ∀ sa led' s', Src sa led' → St e g L m led' s' → Q (.ref sa) s') : wpAny (model PR w) A (call f args []) Q E s :=
  r_call hc fun _ s' ⟨sa, led', hr, hs, R⟩ => ⟨_, hr, h sa led' s' hs (by have := St.ret (led₁ := []) (rest := []) S R; rwa [List.append_nil] at this)⟩
theorem r_neB {a b : Bool} {Q : Value → Shared → Prop} (h : a = b) (q : Q (.bool false) s) : wpAny (model PR w) A (compareOp .NotEq (.bool a) (.bool b)) Q E s :=
  SeqAt.RcNeAt.bool_bool a b PR w E Q (by rw [h]; simpa using q)
theorem ne_cat (x : Str) : x ≠ x ++ Str.ofString "x" := fun h => by
  have := congrArg Str.length h
  rw [Str.length_append, show (Str.ofString "x").length = 1 by decide +kernel] at this
  omega
theorem law_enter {α : Type} {x : Sem α} {Q : α → Shared → Prop} (C : Cx w g callerA 40) (S : St e g L m led s) (h : Cx w g (callerA.deeper env) 39 → St e g L m led s → wpAny (model PR w) (callerA.deeper env) x Q E s) : wpAny (model PR w) (callerA.deeper env) x Q E s := h (C.deeper env) S
end
theorem fin : PySem.Challenge.rw_on0185_01.Holds := by
  refine top (by rfl) (by rfl) (by rfl) ?_
  k_go0
  rename Shared => s1
  rename Fr _ _ _ _ => F
  rename Top _ _ _ _ _ _ => T
  rename Frag.In _ _ => X
  rename IntsAre _ _ => hI
  rename Heap.IsList _ _ _ => hL
  rename (_ : Shared).gens = #[] => hgens
  rename ¬ _ < _ => hlen
  refine wpAny_mono (Q := fun f s' => f = .ret (.bool true) ∧ ∃ g', RanF [] s1.heap [] s1 g' [] s') (E := fun _ _ => False) ?_ ?_ ?_
  · have S := fun tk => St.start (tk := tk) F (fresh_size (fun _ _ q => q))
    have C := Cx.mk X ⟨_, _, _, T⟩ (A := callerA) (d := 40) (by decide) (by decide) rfl
    have K : Stk callerA [] s1.heap [] s1.heap := ⟨rfl, fun env he => by cases he⟩
    dsimp only
    refine law_enter C (S _) fun C1 S => ?_
    repeat tb_rel
    rename St _ _ _ _ _ _ => S
    refine r_poolTo S (k280 (d := 0) (C1.less (by omega)) S.has0 hL (by exact hI) (by rw [List.size_toArray, hI.length]; omega)) fun sa led2 s2 hs2 S => ?_
    repeat tb_rel
    rename St _ _ _ _ _ _ => S
    refine r_draw S (k322 (d := 0) (C1.less (by omega)) S.hasL hs2) fun v3 g3 led3 s3 hg3 hP3 hs3 S => ?_
    obtain ⟨l3, items3, ts, b, rfl, hl3, hT3, hch, htl⟩ := hP3
    have C3 := C1.mono hg3
    repeat tb_rel
    rename St _ _ _ _ _ _ => S
    refine r_draw S (k336 (d := 0) (C3.less (by omega)) S.hasL hs3 hl3 hT3 (chain_len hch) (by omega)) fun v4 g4 led4 s4 hg4 hP4 hs4 S => ?_
    obtain ⟨a4, text, trail, dl, tk4, items4, rows, ahead, rfl, ht4, hdl, hrw, hlaid, htr, hsz⟩ := hP4
    have C4 := C3.mono hg4
    have hwords := law_pure hch hlaid htr
    have hok := law_ok hch hlaid htr
    have htl := (by decide +kernel : ∀ y ∈ (["", " ", "\n"] : List Str), y.length ≤ 10) _ htr
    have hbig : (text ++ trail).length ≤ 10000 := by rw [Str.length_append]; omega
    have hrow := law_row (trail := trail) hch hlaid
    have hwl : (rows ++ [(sEnd, Str.ofString "", (((text ++ trail).length : Nat) : Int))]).length ≤ 40 := by rw [List.length_append, hlaid.length, List.length_singleton]; omega
    generalize text ++ trail = t at *
    generalize rows ++ [(sEnd, Str.ofString "", ((t.length : Nat) : Int))] = ws at *
    clear hlaid htr hsz htl hch hT3 hl3 hs3 hs2
    repeat tb_rel
    rename St _ _ _ _ _ _ => S
    refine r_path S (k273 (d := 0) (C4.less (by omega)) S.has0 ((S.stk K rfl).sub (fun p hp => by cases hp)) (by rw [sizeLine_eq]; omega) (by omega) hok) hwords fun l5 items5 g5 s5 hg5 hl5 W5 S => ?_
    have hlen5 := W5.length
    rw [Array.length_toList] at hlen5
    have C5 := C4.mono hg5
    have hrw5 := hrw.mono hg5
    have hdl5 := lst_keeps hdl hg5
    repeat tb_rel
    refine wpAny_ListComp (by decide) rfl (by decide) ?_ (fun _ => rfl)
    repeat tb_rel
    rename St _ _ _ _ _ _ => S
    refine r_comp C5.hand S hl5 (by rw [sizeLine_eq]; omega) (by decide) rfl (by decide) (fs := []) (fun a ha => by cases ha) (fun i g ys => Rows g ys (ws.take i)) .nil ?_ ?_
    · intro D6 led6 s6 i6 v6 g6 m6 led7 s7 ys6 S6 hi6 hv6 hg6 hm6 S J6
      obtain ⟨y, hy, Iw⟩ := (W5.mono hg6).at (i := i6) (by rw [Array.getElem?_toList]; exact hv6)
      have C7 := C5.mono hg6
      refine tests0 ?_
      repeat tb_rel
      rename St _ _ _ _ _ _ => S
      refine r_kind C7 S Iw fun tk s' S => ?_
      repeat tb_rel
      rename St _ _ _ _ _ _ => S
      refine r_wtext C7 S Iw fun tk s' S => ?_
      repeat tb_rel
      rename St _ _ _ _ _ _ => S
      refine r_place C7 S Iw fun tk s' S => ?_
      repeat tb_rel
      rename St _ _ _ _ _ _ => S
      rename Heap.IsTuple _ _ _ => hrt
      refine ⟨_, by assumption, ?_, S⟩
      rw [List.take_add_one, hy]
      exact (J6.mono (by assumption)).snoc ⟨_, _, _, _, rfl, hrt⟩
    · intro D g6 ys k s6 hg6 J6 hy6 S
      obtain ⟨g7, hg7, S, hD⟩ := S.freeze0
      have C7 := (C5.mono hg6).mono hg7
      have hD1 : g7.IsList D ys.toArray := ⟨_, hD, rfl, _, rfl⟩
      have htk : ws.take items5.size = ws := List.take_of_length_le (by omega)
      rw [htk] at J6
      have hdl7 : g7.IsList dl items4.toList.toArray := by rw [Array.toArray_toList]; exact lst_keeps (lst_keeps hdl5 hg6) hg7
      repeat tb_rel
      rename St _ _ _ _ _ _ => S
      refine r_neRows C7 (lst_keeps hD1 S.keep) (lst_keeps hdl7 S.keep) ((J6.mono hg7).mono S.keep) (((hrw5.mono hg6).mono hg7).mono S.keep) ?_
      have W7 := (W5.mono hg6).mono hg7
      have hl7 := lst_keeps (lst_keeps hl5 hg6) hg7
      clear hD1 hdl7 hdl5 hdl hrw hrw5
      repeat tb_rel
      refine x_for ?_ (fun _ => rfl)
      repeat tb_rel
      rename St _ _ _ _ _ _ => S
      refine loopList C7.hand hl7 (fun i g m led => True) S trivial ?_ ?_
      · intro I i v g8 m8 led8 o' s8 hi hg8 _ hv S
        obtain ⟨y, hy, Iw⟩ := (W7.mono hg8).at (i := i) (by rw [Array.getElem?_toList]; exact hv)
        have C8 := C7.mono hg8
        repeat tb_rel
        rename St _ _ _ _ _ _ => S
        refine r_wdm (f := 125) C8 S Iw (by k_is) (by k_is) (by k_is) (fun _ _ _ _ _ _ => rfl) ?_
        repeat tb_rel
        rename St _ _ _ _ _ _ => S
        refine r_wtext C8 S Iw fun tk s' S => ?_
        repeat tb_rel
        rename St _ _ _ _ _ _ => S
        refine r_pure S (k125 (d := 0) (Cx.less C8 (by omega)) S.has0 Iw) fun v9 s9 hv9 S => ?_
        subst hv9
        repeat tb_rel
        rename St _ _ _ _ _ _ => S
        refine r_kind C8 S Iw fun tk s' S => ?_
        repeat tb_rel
        refine r_neB (by rw [beq_self_eq_true, Bool.and_true]; rfl) ?_
        repeat tb_rel
        rename St _ _ _ _ _ _ => S
        refine r_wdm (f := 132) C8 S Iw (by k_is) (by k_is) (by k_is) (fun _ _ _ _ _ _ => rfl) ?_
        repeat tb_rel
        rename St _ _ _ _ _ _ => S
        refine r_wtext C8 S Iw fun tk s' S => ?_
        repeat tb_rel
        rename St _ _ _ _ _ _ => S
        refine r_pure S (k132 (d := 0) (Cx.less C8 (by omega)) S.has0 Iw) fun v9 s9 hv9 S => ?_
        subst hv9
        repeat tb_rel
        rename St _ _ _ _ _ _ => S
        refine r_kind C8 S Iw fun tk s' S => ?_
        repeat tb_rel
        refine r_neB (by rw [beq_self_eq_true, Bool.and_true]; rfl) ?_
        repeat tb_rel
        have hr := hrow y (List.mem_of_getElem? hy)
        rename St _ _ _ _ _ _ => S
        refine r_wdm (f := 125) C8 S Iw (by k_is) (by k_is) (by k_is) (fun _ _ _ _ _ _ => rfl) ?_
        repeat tb_rel
        rename St _ _ _ _ _ _ => S
        refine r_wtext C8 S Iw fun tk s' S => ?_
        repeat tb_rel
        rename St _ _ _ _ _ _ => S
        refine r_cat S (cat_ok (by omega) (by decide +kernel)) fun tk s' S => ?_
        repeat tb_rel
        rename St _ _ _ _ _ _ => S
        refine r_pure S (k125 (d := 0) (Cx.less C8 (by omega)) S.has0 Iw) fun v9 s9 hv9 S => ?_
        subst hv9
        repeat tb_rel
        refine ite_f (by rw [beq_eq_false_iff_ne.mpr (ne_cat y.2.1), Bool.and_false]) ?_
        repeat tb_rel
        rename St _ _ _ _ _ _ => S
        refine r_wdm (f := 132) C8 S Iw (by k_is) (by k_is) (by k_is) (fun _ _ _ _ _ _ => rfl) ?_
        repeat tb_rel
        rename St _ _ _ _ _ _ => S
        refine r_pure S (k132 (d := 0) (Cx.less C8 (by omega)) S.has0 Iw) fun v9 s9 hv9 S => ?_
        subst hv9
        repeat tb_rel
        refine ite_f hr.2 ?_
        repeat tb_rel
        rename St _ _ _ _ _ _ => S
        refine r_wdm (f := 139) C8 S Iw (by k_is) (by k_is) (by k_is) (fun _ _ _ _ _ _ => rfl) ?_
        repeat tb_rel
        rename St _ _ _ _ _ _ => S
        refine r_givesF S (k139 (d := 0) (Cx.less C8 (by omega)) S.has0 Iw) fun v9 g9 s9 hg9 hP9 S => ?_
        have C9 := C8.mono hg9
        have Iw9 := Iw.mono hg9
        repeat tb_rel
        rename St _ _ _ _ _ _ => S
        refine r_kind C9 S Iw9 fun tk s' S => ?_
        repeat tb_rel
        rename St _ _ _ _ _ _ => S
        refine r_wtext C9 S Iw9 fun tk s' S => ?_
        repeat tb_rel
        rename St _ _ _ _ _ _ => S
        rename Heap.IsTuple _ _ _ => hkt
        obtain ⟨a9, u1, u2, rfl, T9⟩ := hP9
        refine r_neTup C9 (tup_up S.keep (tup_up (by assumption) T9)) (tup_up S.keep hkt) ?_
        repeat tb_rel
        rename St _ _ _ _ _ _ => S
        have z1 := stays_trans hg9 (by assumption)
        exact ⟨_, _, _, z1, trivial, S⟩
      · intro g8 m8 led8 s8 hg8 _ S
        have C8 := C7.mono hg8
        repeat tb_rel
        rename St _ _ _ _ _ _ => S
        refine r_widen S (S.stk K rfl) (fun a ha => .inl (List.mem_singleton.mp ha)) (k348 (d := 0) (C8.less (by omega)) S.has0 ((S.stk K rfl).sub (fun p hp => by cases hp))) fun v9 g9 s9 hg9 hv S => ?_
        exact ⟨by rw [hv], g9, (St.drop (led₁ := led8) (rest := []) (by rw [List.append_nil]; exact S)).ran⟩
  · rintro f s' ⟨rfl, g', R⟩
    have hk : ∀ b o, s1.heap.get? b = some o → s'.heap.get? b = some o := fun b o q => by
      obtain ⟨o', ho', x⟩ := R.frame b o q (by simp)
      rw [x.eq] at ho'; exact ho'
    refine ⟨.inl ⟨.bool true, .bool true, [], rfl, fun _ => rfl, .bool true, ?_, fun _ => ⟨List.nodup_nil, fun a ha => by cases ha⟩⟩, hk, R.os, R.gens.trans hgens⟩
    wrow_post
  · exact fun _ _ h => h.elim
end Mine
theorem PySem.Challenge.cw_on0185_01_holds : PySem.Challenge.rw_on0185_01.Holds := by
  exact Mine.fin
