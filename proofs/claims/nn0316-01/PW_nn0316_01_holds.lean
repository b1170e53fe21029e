import PyProof.Rows.All
import Wide.All
import OpenK.AllK
import Wide.FinOn
import KE.KLcTest
import KE.KTryDeep
import PyProof.ExcArgsOwn
import Lean
import PySem.Challenge.RW_nn0316_01
set_option Elab.async false
set_option maxRecDepth 100000
set_option maxHeartbeats 8000000
set_option linter.all false
set_option compiler.extract_closed false
set_option genSizeOfSpec false
set_option genInjectivity false
-- NnHead
section
open PySem PySem.W PyProof.Rows
set_option maxRecDepth 100000
set_option maxHeartbeats 8000000
namespace Nn
/-! ## The head: the top's run, checked by the kernel at once; the part of the heap that the law comes to -/
def top (i : Nat) : Stmt := PySem.Challenge.pw_nn0316_01.main.body.getD i (.Pass default)
def meth (i j : Nat) : Stmt := match top i with
  | .ClassDef _ _ _ b .. => b.getD j (.Pass default)
  | _ => .Pass default
def fnO (st : Stmt) (qual : Str) (dV pm : Value) (cd : Addr) : Obj := match st with
  | .FunctionDef name params body _ _ _ scope _ _ _ => ⟨.type "function", none, .func (fnOf name qual params body scope dV .none .none pm none (.ref cd) .none), #[]⟩
  | _ => default
def K : Params → Frag := fun P =>
  (nat_lit 2, ⟨.none, none, .dict #[⟨PyData.keyHash P (.ofString "type.__subclasses__.Exception.0"), .str (.ofString "type.__subclasses__.Exception.0") 221, .int (32) 0⟩,
    ⟨PyData.keyHash P (.ofString "type.__subclasses__.Exception.n"), .str (.ofString "type.__subclasses__.Exception.n") 222, .int (1) 0⟩] 2, #[]⟩) ::
  (nat_lit 3, ⟨.type "dict", none, .dict #[⟨PyData.keyHash P (.ofString "__name__"), .str (.ofString "__name__") 165, .str (.ofString "law_nn0316_01") 596⟩,
    ⟨PyData.keyHash P (.ofString "__doc__"), .str (.ofString "__doc__") 166, .none⟩,
    ⟨PyData.keyHash P (.ofString "__package__"), .str (.ofString "__package__") 167, .none⟩,
    ⟨PyData.keyHash P (.ofString "__loader__"), .str (.ofString "__loader__") 168, .builtin "__main__.__loader__#opaque"⟩,
    ⟨PyData.keyHash P (.ofString "__spec__"), .str (.ofString "__spec__") 169, .none⟩,
    ⟨PyData.keyHash P (.ofString "__annotations__"), .str (.ofString "__annotations__") 170, .ref 6⟩,
    ⟨PyData.keyHash P (.ofString "__builtins__"), .str (.ofString "__builtins__") 171, .ref 4⟩,
    ⟨PyData.keyHash P (.ofString "__file__"), .str (.ofString "__file__") 173, .str (.ofString "/claim/cut.py") 172⟩,
    ⟨PyData.keyHash P (.ofString "__cached__"), .str (.ofString "__cached__") 174, .none⟩,
    ⟨PyData.keyHash P (.ofString "GateloomError"), .str (.ofString "GateloomError") 224, .ref 32⟩,
    ⟨PyData.keyHash P (.ofString "FormatError"), .str (.ofString "FormatError") 240, .ref 45⟩,
    ⟨PyData.keyHash P (.ofString "code"), .str (.ofString "code") 250, .ref 54⟩,
    ⟨PyData.keyHash P (.ofString "from_codes"), .str (.ofString "from_codes") 260, .ref 61⟩,
    ⟨PyData.keyHash P (.ofString "bits_text"), .str (.ofString "bits_text") 270, .ref 68⟩,
    ⟨PyData.keyHash P (.ofString "from_text"), .str (.ofString "from_text") 280, .ref 75⟩,
    ⟨PyData.keyHash P (.ofString "FIRST_SIGN"), .str (.ofString "FIRST_SIGN") 284, .int (33) 283⟩,
    ⟨PyData.keyHash P (.ofString "SIGNS"), .str (.ofString "SIGNS") 286, .int (94) 285⟩,
    ⟨PyData.keyHash P (.ofString "id_text"), .str (.ofString "id_text") 295, .ref 82⟩,
    ⟨PyData.keyHash P (.ofString "extension"), .str (.ofString "extension") 302, .ref 89⟩,
    ⟨PyData.keyHash P (.ofString "shortened"), .str (.ofString "shortened") 310, .ref 96⟩,
    ⟨PyData.keyHash P (.ofString "lengthened"), .str (.ofString "lengthened") 318, .ref 103⟩,
    ⟨PyData.keyHash P (.ofString "is_layout"), .str (.ofString "is_layout") 325, .ref 110⟩,
    ⟨PyData.keyHash P (.ofString "check_word"), .str (.ofString "check_word") 334, .ref 117⟩,
    ⟨PyData.keyHash P (.ofString "change_row"), .str (.ofString "change_row") 344, .ref 124⟩,
    ⟨PyData.keyHash P (.ofString "DumpWriter"), .str (.ofString "DumpWriter") 412, .ref 162⟩,
    ⟨PyData.keyHash P (.ofString "common_length"), .str (.ofString "common_length") 421, .ref 173⟩,
    ⟨PyData.keyHash P (.ofString "declaration_rows"), .str (.ofString "declaration_rows") 440, .ref 180⟩,
    ⟨PyData.keyHash P (.ofString "WordRow"), .str (.ofString "WordRow") 489, .ref 211⟩,
    ⟨PyData.keyHash P (.ofString "whole_number"), .str (.ofString "whole_number") 498, .ref 222⟩,
    ⟨PyData.keyHash P (.ofString "DumpReader"), .str (.ofString "DumpReader") 587, .ref 274⟩,
    ⟨PyData.keyHash P (.ofString "read_dump"), .str (.ofString "read_dump") 595, .ref 285⟩,
    ⟨PyData.keyHash P (.ofString "_law_pool"), .str (.ofString "_law_pool") 610, .ref 292⟩,
    ⟨PyData.keyHash P (.ofString "_law_pick"), .str (.ofString "_law_pick") 619, .ref 299⟩,
    ⟨PyData.keyHash P (.ofString "_law_value"), .str (.ofString "_law_value") 631, .ref 306⟩,
    ⟨PyData.keyHash P (.ofString "_law_rows"), .str (.ofString "_law_rows") 638, .ref 313⟩,
    ⟨PyData.keyHash P (.ofString "_law_refused"), .str (.ofString "_law_refused") 649, .ref 320⟩,
    ⟨PyData.keyHash P (.ofString "law"), .str (.ofString "law") 655, .ref 325⟩] 37, #[]⟩) ::
  (nat_lit 22, ⟨.type "tuple", none, .seq #[.int (-1) 202, .str (.ofString "") 203] 0, #[]⟩) ::
  (nat_lit 28, ⟨.type "code", none, .fields #[.str (.ofString "__init__") 204, .str (.ofString "GateloomError.__init__") 205, .str (.ofString "/claim/cut.py") 206, .int (4) 0, .int (4) 0, .int (0) 0, .int (0) 0, .int (3) 0, .ref 23, .bool true, .int (181) 0, .ref 24, .none, .ref 25, .ref 26, .ref 27, .int (211) 0, .int (4) 0, .str (.ofString "/claim/cut.py") 212], #[]⟩) ::
  (nat_lit 29, fnO (meth 1 0) (.ofString "GateloomError.__init__") (.ref 22) (.str (.ofString "gateloom.errors") 187) 28) ::
  (nat_lit 31, ⟨.type "dict", none, .dict #[⟨PyData.keyHash P (.ofString "__module__"), .str (.ofString "__module__") 196, .str (.ofString "gateloom.errors") 187⟩,
    ⟨PyData.keyHash P (.ofString "__firstlineno__"), .str (.ofString "__firstlineno__") 200, .int (2) 199⟩,
    ⟨PyData.keyHash P (.ofString "__init__"), .str (.ofString "__init__") 213, .ref 29⟩,
    ⟨PyData.keyHash P (.ofString "__static_attributes__"), .str (.ofString "__static_attributes__") 217, .ref 30⟩,
    ⟨PyData.keyHash P (.ofString "__weakref__"), .str (.ofString "__weakref__") 219, .ref 33⟩,
    ⟨PyData.keyHash P (.ofString "__doc__"), .str (.ofString "__doc__") 220, .none⟩] 3, #[]⟩) ::
  (nat_lit 32, ⟨.type "type", none, .cls { name := (.ofString "GateloomError"), bases := [.type "Exception"], mro := [.ref 32, .type "Exception", .type "BaseException", .type "object"], ns := 31, qualname := (.ofString "GateloomError"), hasDict := true, slotNames := [], subclasses := [.ref 45], abstract := false, collection := none, hasDel := false }, #[some (.ref 15), none, some (.str (.ofString "GateloomError") 189), some (.str (.ofString "GateloomError") 197), some (.builtin "Exception.__new__"), some (.bool true)]⟩) ::
  (nat_lit 44, ⟨.type "dict", none, .dict #[⟨PyData.keyHash P (.ofString "__module__"), .str (.ofString "__module__") 232, .str (.ofString "gateloom.errors") 187⟩,
    ⟨PyData.keyHash P (.ofString "__firstlineno__"), .str (.ofString "__firstlineno__") 236, .int (8) 235⟩,
    ⟨PyData.keyHash P (.ofString "__static_attributes__"), .str (.ofString "__static_attributes__") 237, .ref 43⟩,
    ⟨PyData.keyHash P (.ofString "__doc__"), .str (.ofString "__doc__") 238, .none⟩] 2, #[]⟩) ::
  (nat_lit 45, ⟨.type "type", none, .cls { name := (.ofString "FormatError"), bases := [.ref 32], mro := [.ref 45, .ref 32, .type "Exception", .type "BaseException", .type "object"], ns := 44, qualname := (.ofString "FormatError"), hasDict := true, slotNames := [], subclasses := [], abstract := false, collection := none, hasDel := false }, #[some (.ref 36), none, some (.str (.ofString "FormatError") 225), some (.str (.ofString "FormatError") 233), some (.builtin "Exception.__new__"), some (.bool true)]⟩) ::
  (nat_lit 53, ⟨.type "code", none, .fields #[.str (.ofString "code") 243, .str (.ofString "code") 244, .str (.ofString "/claim/cut.py") 245, .int (11) 0, .int (2) 0, .int (0) 0, .int (0) 0, .int (3) 0, .ref 48, .bool true, .int (181) 0, .ref 49, .none, .ref 50, .ref 51, .ref 52, .int (248) 0, .int (11) 0, .str (.ofString "/claim/cut.py") 249], #[]⟩) ::
  (nat_lit 54, fnO (top 4) (.ofString "code") (.none) (.str (.ofString "gateloom.vec") 241) 53) ::
  (nat_lit 60, ⟨.type "code", none, .fields #[.str (.ofString "from_codes") 251, .str (.ofString "from_codes") 252, .str (.ofString "/claim/cut.py") 253, .int (13) 0, .int (1) 0, .int (0) 0, .int (0) 0, .int (3) 0, .ref 55, .bool true, .int (181) 0, .ref 56, .none, .ref 57, .ref 58, .ref 59, .int (258) 0, .int (13) 0, .str (.ofString "/claim/cut.py") 259], #[]⟩) ::
  (nat_lit 61, fnO (top 5) (.ofString "from_codes") (.none) (.str (.ofString "gateloom.vec") 241) 60) ::
  (nat_lit 67, ⟨.type "code", none, .fields #[.str (.ofString "bits_text") 261, .str (.ofString "bits_text") 262, .str (.ofString "/claim/cut.py") 263, .int (20) 0, .int (1) 0, .int (0) 0, .int (0) 0, .int (3) 0, .ref 62, .bool true, .int (181) 0, .ref 63, .none, .ref 64, .ref 65, .ref 66, .int (268) 0, .int (20) 0, .str (.ofString "/claim/cut.py") 269], #[]⟩) ::
  (nat_lit 68, fnO (top 6) (.ofString "bits_text") (.none) (.str (.ofString "gateloom.vec") 241) 67) ::
  (nat_lit 74, ⟨.type "code", none, .fields #[.str (.ofString "from_text") 271, .str (.ofString "from_text") 272, .str (.ofString "/claim/cut.py") 273, .int (26) 0, .int (1) 0, .int (0) 0, .int (0) 0, .int (3) 0, .ref 69, .bool true, .int (181) 0, .ref 70, .none, .ref 71, .ref 72, .ref 73, .int (278) 0, .int (26) 0, .str (.ofString "/claim/cut.py") 279], #[]⟩) ::
  (nat_lit 75, fnO (top 7) (.ofString "from_text") (.none) (.str (.ofString "gateloom.vec") 241) 74) ::
  (nat_lit 81, ⟨.type "code", none, .fields #[.str (.ofString "id_text") 287, .str (.ofString "id_text") 288, .str (.ofString "/claim/cut.py") 289, .int (37) 0, .int (1) 0, .int (0) 0, .int (0) 0, .int (3) 0, .ref 76, .bool true, .int (181) 0, .ref 77, .none, .ref 78, .ref 79, .ref 80, .int (293) 0, .int (37) 0, .str (.ofString "/claim/cut.py") 294], #[]⟩) ::
  (nat_lit 82, fnO (top 11) (.ofString "id_text") (.none) (.str (.ofString "gateloom.dump") 281) 81) ::
  (nat_lit 88, ⟨.type "code", none, .fields #[.str (.ofString "extension") 296, .str (.ofString "extension") 297, .str (.ofString "/claim/cut.py") 298, .int (45) 0, .int (1) 0, .int (0) 0, .int (0) 0, .int (3) 0, .ref 83, .bool true, .int (181) 0, .ref 84, .none, .ref 85, .ref 86, .ref 87, .int (300) 0, .int (45) 0, .str (.ofString "/claim/cut.py") 301], #[]⟩) ::
  (nat_lit 89, fnO (top 12) (.ofString "extension") (.none) (.str (.ofString "gateloom.dump") 281) 88) ::
  (nat_lit 95, ⟨.type "code", none, .fields #[.str (.ofString "shortened") 303, .str (.ofString "shortened") 304, .str (.ofString "/claim/cut.py") 305, .int (49) 0, .int (1) 0, .int (0) 0, .int (0) 0, .int (3) 0, .ref 90, .bool true, .int (181) 0, .ref 91, .none, .ref 92, .ref 93, .ref 94, .int (308) 0, .int (49) 0, .str (.ofString "/claim/cut.py") 309], #[]⟩) ::
  (nat_lit 96, fnO (top 13) (.ofString "shortened") (.none) (.str (.ofString "gateloom.dump") 281) 95) ::
  (nat_lit 102, ⟨.type "code", none, .fields #[.str (.ofString "lengthened") 311, .str (.ofString "lengthened") 312, .str (.ofString "/claim/cut.py") 313, .int (54) 0, .int (2) 0, .int (0) 0, .int (0) 0, .int (3) 0, .ref 97, .bool true, .int (181) 0, .ref 98, .none, .ref 99, .ref 100, .ref 101, .int (316) 0, .int (54) 0, .str (.ofString "/claim/cut.py") 317], #[]⟩) ::
  (nat_lit 103, fnO (top 14) (.ofString "lengthened") (.none) (.str (.ofString "gateloom.dump") 281) 102) ::
  (nat_lit 109, ⟨.type "code", none, .fields #[.str (.ofString "is_layout") 319, .str (.ofString "is_layout") 320, .str (.ofString "/claim/cut.py") 321, .int (56) 0, .int (1) 0, .int (0) 0, .int (0) 0, .int (3) 0, .ref 104, .bool true, .int (181) 0, .ref 105, .none, .ref 106, .ref 107, .ref 108, .int (323) 0, .int (56) 0, .str (.ofString "/claim/cut.py") 324], #[]⟩) ::
  (nat_lit 110, fnO (top 15) (.ofString "is_layout") (.none) (.str (.ofString "gateloom.dump") 281) 109) ::
  (nat_lit 116, ⟨.type "code", none, .fields #[.str (.ofString "check_word") 326, .str (.ofString "check_word") 327, .str (.ofString "/claim/cut.py") 328, .int (58) 0, .int (2) 0, .int (0) 0, .int (0) 0, .int (3) 0, .ref 111, .bool true, .int (181) 0, .ref 112, .none, .ref 113, .ref 114, .ref 115, .int (332) 0, .int (58) 0, .str (.ofString "/claim/cut.py") 333], #[]⟩) ::
  (nat_lit 117, fnO (top 16) (.ofString "check_word") (.none) (.str (.ofString "gateloom.dump") 281) 116) ::
  (nat_lit 123, ⟨.type "code", none, .fields #[.str (.ofString "change_row") 335, .str (.ofString "change_row") 336, .str (.ofString "/claim/cut.py") 337, .int (64) 0, .int (3) 0, .int (0) 0, .int (0) 0, .int (3) 0, .ref 118, .bool true, .int (181) 0, .ref 119, .none, .ref 120, .ref 121, .ref 122, .int (342) 0, .int (64) 0, .str (.ofString "/claim/cut.py") 343], #[]⟩) ::
  (nat_lit 124, fnO (top 17) (.ofString "change_row") (.none) (.str (.ofString "gateloom.dump") 281) 123) ::
  (nat_lit 137, ⟨.type "code", none, .fields #[.str (.ofString "__init__") 357, .str (.ofString "DumpWriter.__init__") 358, .str (.ofString "/claim/cut.py") 359, .int (71) 0, .int (2) 0, .int (0) 0, .int (0) 0, .int (3) 0, .ref 132, .bool true, .int (181) 0, .ref 133, .none, .ref 134, .ref 135, .ref 136, .int (362) 0, .int (71) 0, .str (.ofString "/claim/cut.py") 363], #[]⟩) ::
  (nat_lit 138, fnO (meth 18 0) (.ofString "DumpWriter.__init__") (.none) (.str (.ofString "gateloom.dump") 281) 137) ::
  (nat_lit 144, ⟨.type "code", none, .fields #[.str (.ofString "declare") 365, .str (.ofString "DumpWriter.declare") 366, .str (.ofString "/claim/cut.py") 367, .int (79) 0, .int (4) 0, .int (0) 0, .int (0) 0, .int (3) 0, .ref 139, .bool true, .int (181) 0, .ref 140, .none, .ref 141, .ref 142, .ref 143, .int (374) 0, .int (79) 0, .str (.ofString "/claim/cut.py") 375], #[]⟩) ::
  (nat_lit 145, fnO (meth 18 1) (.ofString "DumpWriter.declare") (.none) (.str (.ofString "gateloom.dump") 281) 144) ::
  (nat_lit 151, ⟨.type "code", none, .fields #[.str (.ofString "change") 377, .str (.ofString "DumpWriter.change") 378, .str (.ofString "/claim/cut.py") 379, .int (90) 0, .int (4) 0, .int (0) 0, .int (0) 0, .int (3) 0, .ref 146, .bool true, .int (181) 0, .ref 147, .none, .ref 148, .ref 149, .ref 150, .int (384) 0, .int (90) 0, .str (.ofString "/claim/cut.py") 385], #[]⟩) ::
  (nat_lit 152, fnO (meth 18 2) (.ofString "DumpWriter.change") (.none) (.str (.ofString "gateloom.dump") 281) 151) ::
  (nat_lit 158, ⟨.type "code", none, .fields #[.str (.ofString "text") 387, .str (.ofString "DumpWriter.text") 388, .str (.ofString "/claim/cut.py") 389, .int (100) 0, .int (1) 0, .int (0) 0, .int (0) 0, .int (3) 0, .ref 153, .bool true, .int (181) 0, .ref 154, .none, .ref 155, .ref 156, .ref 157, .int (397) 0, .int (100) 0, .str (.ofString "/claim/cut.py") 398], #[]⟩) ::
  (nat_lit 159, fnO (meth 18 3) (.ofString "DumpWriter.text") (.none) (.str (.ofString "gateloom.dump") 281) 158) ::
  (nat_lit 161, ⟨.type "dict", none, .dict #[⟨PyData.keyHash P (.ofString "__module__"), .str (.ofString "__module__") 352, .str (.ofString "gateloom.dump") 281⟩,
    ⟨PyData.keyHash P (.ofString "__firstlineno__"), .str (.ofString "__firstlineno__") 356, .int (69) 355⟩,
    ⟨PyData.keyHash P (.ofString "__init__"), .str (.ofString "__init__") 364, .ref 138⟩,
    ⟨PyData.keyHash P (.ofString "declare"), .str (.ofString "declare") 376, .ref 145⟩,
    ⟨PyData.keyHash P (.ofString "change"), .str (.ofString "change") 386, .ref 152⟩,
    ⟨PyData.keyHash P (.ofString "text"), .str (.ofString "text") 399, .ref 159⟩,
    ⟨PyData.keyHash P (.ofString "__static_attributes__"), .str (.ofString "__static_attributes__") 405, .ref 160⟩,
    ⟨PyData.keyHash P (.ofString "__dict__"), .str (.ofString "__dict__") 407, .ref 163⟩,
    ⟨PyData.keyHash P (.ofString "__weakref__"), .str (.ofString "__weakref__") 409, .ref 164⟩,
    ⟨PyData.keyHash P (.ofString "__doc__"), .str (.ofString "__doc__") 410, .none⟩] 4, #[]⟩) ::
  (nat_lit 162, ⟨.type "type", none, .cls { name := (.ofString "DumpWriter"), bases := [.type "object"], mro := [.ref 162, .type "object"], ns := 161, qualname := (.ofString "DumpWriter"), hasDict := true, slotNames := [], subclasses := [], abstract := false, collection := none, hasDel := false }, #[none, none, some (.str (.ofString "DumpWriter") 345), some (.str (.ofString "DumpWriter") 353), some (.builtin "object.__new__"), some (.bool true)]⟩) ::
  (nat_lit 172, ⟨.type "code", none, .fields #[.str (.ofString "common_length") 413, .str (.ofString "common_length") 414, .str (.ofString "/claim/cut.py") 415, .int (112) 0, .int (2) 0, .int (0) 0, .int (0) 0, .int (3) 0, .ref 167, .bool true, .int (181) 0, .ref 168, .none, .ref 169, .ref 170, .ref 171, .int (419) 0, .int (112) 0, .str (.ofString "/claim/cut.py") 420], #[]⟩) ::
  (nat_lit 173, fnO (top 19) (.ofString "common_length") (.none) (.str (.ofString "gateloom.dump") 281) 172) ::
  (nat_lit 179, ⟨.type "code", none, .fields #[.str (.ofString "declaration_rows") 422, .str (.ofString "declaration_rows") 423, .str (.ofString "/claim/cut.py") 424, .int (117) 0, .int (1) 0, .int (0) 0, .int (0) 0, .int (3) 0, .ref 174, .bool true, .int (181) 0, .ref 175, .none, .ref 176, .ref 177, .ref 178, .int (438) 0, .int (117) 0, .str (.ofString "/claim/cut.py") 439], #[]⟩) ::
  (nat_lit 180, fnO (top 20) (.ofString "declaration_rows") (.none) (.str (.ofString "gateloom.dump") 281) 179) ::
  (nat_lit 193, ⟨.type "code", none, .fields #[.str (.ofString "__init__") 453, .str (.ofString "WordRow.__init__") 454, .str (.ofString "/claim/cut.py") 455, .int (138) 0, .int (2) 0, .int (0) 0, .int (0) 0, .int (3) 0, .ref 188, .bool true, .int (181) 0, .ref 189, .none, .ref 190, .ref 191, .ref 192, .int (458) 0, .int (138) 0, .str (.ofString "/claim/cut.py") 459], #[]⟩) ::
  (nat_lit 194, fnO (meth 21 0) (.ofString "WordRow.__init__") (.none) (.str (.ofString "gateloom.dump") 281) 193) ::
  (nat_lit 200, ⟨.type "code", none, .fields #[.str (.ofString "take") 461, .str (.ofString "WordRow.take") 462, .str (.ofString "/claim/cut.py") 463, .int (143) 0, .int (1) 0, .int (0) 0, .int (0) 0, .int (3) 0, .ref 195, .bool true, .int (181) 0, .ref 196, .none, .ref 197, .ref 198, .ref 199, .int (466) 0, .int (143) 0, .str (.ofString "/claim/cut.py") 467], #[]⟩) ::
  (nat_lit 201, fnO (meth 21 1) (.ofString "WordRow.take") (.none) (.str (.ofString "gateloom.dump") 281) 200) ::
  (nat_lit 207, ⟨.type "code", none, .fields #[.str (.ofString "until_end") 469, .str (.ofString "WordRow.until_end") 470, .str (.ofString "/claim/cut.py") 471, .int (152) 0, .int (1) 0, .int (0) 0, .int (0) 0, .int (3) 0, .ref 202, .bool true, .int (181) 0, .ref 203, .none, .ref 204, .ref 205, .ref 206, .int (476) 0, .int (152) 0, .str (.ofString "/claim/cut.py") 477], #[]⟩) ::
  (nat_lit 208, fnO (meth 21 2) (.ofString "WordRow.until_end") (.none) (.str (.ofString "gateloom.dump") 281) 207) ::
  (nat_lit 210, ⟨.type "dict", none, .dict #[⟨PyData.keyHash P (.ofString "__module__"), .str (.ofString "__module__") 448, .str (.ofString "gateloom.dump") 281⟩,
    ⟨PyData.keyHash P (.ofString "__firstlineno__"), .str (.ofString "__firstlineno__") 452, .int (136) 451⟩,
    ⟨PyData.keyHash P (.ofString "__init__"), .str (.ofString "__init__") 460, .ref 194⟩,
    ⟨PyData.keyHash P (.ofString "take"), .str (.ofString "take") 468, .ref 201⟩,
    ⟨PyData.keyHash P (.ofString "until_end"), .str (.ofString "until_end") 478, .ref 208⟩,
    ⟨PyData.keyHash P (.ofString "__static_attributes__"), .str (.ofString "__static_attributes__") 482, .ref 209⟩,
    ⟨PyData.keyHash P (.ofString "__dict__"), .str (.ofString "__dict__") 484, .ref 212⟩,
    ⟨PyData.keyHash P (.ofString "__weakref__"), .str (.ofString "__weakref__") 486, .ref 213⟩,
    ⟨PyData.keyHash P (.ofString "__doc__"), .str (.ofString "__doc__") 487, .none⟩] 4, #[]⟩) ::
  (nat_lit 211, ⟨.type "type", none, .cls { name := (.ofString "WordRow"), bases := [.type "object"], mro := [.ref 211, .type "object"], ns := 210, qualname := (.ofString "WordRow"), hasDict := true, slotNames := [], subclasses := [], abstract := false, collection := none, hasDel := false }, #[none, none, some (.str (.ofString "WordRow") 441), some (.str (.ofString "WordRow") 449), some (.builtin "object.__new__"), some (.bool true)]⟩) ::
  (nat_lit 221, ⟨.type "code", none, .fields #[.str (.ofString "whole_number") 490, .str (.ofString "whole_number") 491, .str (.ofString "/claim/cut.py") 492, .int (162) 0, .int (2) 0, .int (0) 0, .int (0) 0, .int (3) 0, .ref 216, .bool true, .int (181) 0, .ref 217, .none, .ref 218, .ref 219, .ref 220, .int (496) 0, .int (162) 0, .str (.ofString "/claim/cut.py") 497], #[]⟩) ::
  (nat_lit 222, fnO (top 22) (.ofString "whole_number") (.none) (.str (.ofString "gateloom.dump") 281) 221) ::
  (nat_lit 235, ⟨.type "code", none, .fields #[.str (.ofString "__init__") 511, .str (.ofString "DumpReader.__init__") 512, .str (.ofString "/claim/cut.py") 513, .int (171) 0, .int (2) 0, .int (0) 0, .int (0) 0, .int (3) 0, .ref 230, .bool true, .int (181) 0, .ref 231, .none, .ref 232, .ref 233, .ref 234, .int (516) 0, .int (171) 0, .str (.ofString "/claim/cut.py") 517], #[]⟩) ::
  (nat_lit 236, fnO (meth 23 0) (.ofString "DumpReader.__init__") (.none) (.str (.ofString "gateloom.dump") 281) 235) ::
  (nat_lit 242, ⟨.type "code", none, .fields #[.str (.ofString "declarations") 519, .str (.ofString "DumpReader.declarations") 520, .str (.ofString "/claim/cut.py") 521, .int (180) 0, .int (1) 0, .int (0) 0, .int (0) 0, .int (3) 0, .ref 237, .bool true, .int (181) 0, .ref 238, .none, .ref 239, .ref 240, .ref 241, .int (525) 0, .int (180) 0, .str (.ofString "/claim/cut.py") 526], #[]⟩) ::
  (nat_lit 243, fnO (meth 23 1) (.ofString "DumpReader.declarations") (.none) (.str (.ofString "gateloom.dump") 281) 242) ::
  (nat_lit 249, ⟨.type "code", none, .fields #[.str (.ofString "command") 528, .str (.ofString "DumpReader.command") 529, .str (.ofString "/claim/cut.py") 530, .int (192) 0, .int (4) 0, .int (0) 0, .int (0) 0, .int (3) 0, .ref 244, .bool true, .int (181) 0, .ref 245, .none, .ref 246, .ref 247, .ref 248, .int (535) 0, .int (192) 0, .str (.ofString "/claim/cut.py") 536], #[]⟩) ::
  (nat_lit 250, fnO (meth 23 2) (.ofString "DumpReader.command") (.none) (.str (.ofString "gateloom.dump") 281) 249) ::
  (nat_lit 256, ⟨.type "code", none, .fields #[.str (.ofString "variable") 538, .str (.ofString "DumpReader.variable") 539, .str (.ofString "/claim/cut.py") 540, .int (208) 0, .int (3) 0, .int (0) 0, .int (0) 0, .int (3) 0, .ref 251, .bool true, .int (181) 0, .ref 252, .none, .ref 253, .ref 254, .ref 255, .int (547) 0, .int (208) 0, .str (.ofString "/claim/cut.py") 548], #[]⟩) ::
  (nat_lit 257, fnO (meth 23 3) (.ofString "DumpReader.variable") (.none) (.str (.ofString "gateloom.dump") 281) 256) ::
  (nat_lit 263, ⟨.type "code", none, .fields #[.str (.ofString "value_changes") 550, .str (.ofString "DumpReader.value_changes") 551, .str (.ofString "/claim/cut.py") 552, .int (219) 0, .int (1) 0, .int (0) 0, .int (0) 0, .int (3) 0, .ref 258, .bool true, .int (181) 0, .ref 259, .none, .ref 260, .ref 261, .ref 262, .int (557) 0, .int (219) 0, .str (.ofString "/claim/cut.py") 558], #[]⟩) ::
  (nat_lit 264, fnO (meth 23 4) (.ofString "DumpReader.value_changes") (.none) (.str (.ofString "gateloom.dump") 281) 263) ::
  (nat_lit 270, ⟨.type "code", none, .fields #[.str (.ofString "change") 560, .str (.ofString "DumpReader.change") 561, .str (.ofString "/claim/cut.py") 562, .int (240) 0, .int (4) 0, .int (0) 0, .int (0) 0, .int (3) 0, .ref 265, .bool true, .int (181) 0, .ref 266, .none, .ref 267, .ref 268, .ref 269, .int (570) 0, .int (240) 0, .str (.ofString "/claim/cut.py") 571], #[]⟩) ::
  (nat_lit 271, fnO (meth 23 5) (.ofString "DumpReader.change") (.none) (.str (.ofString "gateloom.dump") 281) 270) ::
  (nat_lit 273, ⟨.type "dict", none, .dict #[⟨PyData.keyHash P (.ofString "__module__"), .str (.ofString "__module__") 506, .str (.ofString "gateloom.dump") 281⟩,
    ⟨PyData.keyHash P (.ofString "__firstlineno__"), .str (.ofString "__firstlineno__") 510, .int (169) 509⟩,
    ⟨PyData.keyHash P (.ofString "__init__"), .str (.ofString "__init__") 518, .ref 236⟩,
    ⟨PyData.keyHash P (.ofString "declarations"), .str (.ofString "declarations") 527, .ref 243⟩,
    ⟨PyData.keyHash P (.ofString "command"), .str (.ofString "command") 537, .ref 250⟩,
    ⟨PyData.keyHash P (.ofString "variable"), .str (.ofString "variable") 549, .ref 257⟩,
    ⟨PyData.keyHash P (.ofString "value_changes"), .str (.ofString "value_changes") 559, .ref 264⟩,
    ⟨PyData.keyHash P (.ofString "change"), .str (.ofString "change") 572, .ref 271⟩,
    ⟨PyData.keyHash P (.ofString "__static_attributes__"), .str (.ofString "__static_attributes__") 580, .ref 272⟩,
    ⟨PyData.keyHash P (.ofString "__dict__"), .str (.ofString "__dict__") 582, .ref 275⟩,
    ⟨PyData.keyHash P (.ofString "__weakref__"), .str (.ofString "__weakref__") 584, .ref 276⟩,
    ⟨PyData.keyHash P (.ofString "__doc__"), .str (.ofString "__doc__") 585, .none⟩] 4, #[]⟩) ::
  (nat_lit 274, ⟨.type "type", none, .cls { name := (.ofString "DumpReader"), bases := [.type "object"], mro := [.ref 274, .type "object"], ns := 273, qualname := (.ofString "DumpReader"), hasDict := true, slotNames := [], subclasses := [], abstract := false, collection := none, hasDel := false }, #[none, none, some (.str (.ofString "DumpReader") 499), some (.str (.ofString "DumpReader") 507), some (.builtin "object.__new__"), some (.bool true)]⟩) ::
  (nat_lit 284, ⟨.type "code", none, .fields #[.str (.ofString "read_dump") 588, .str (.ofString "read_dump") 589, .str (.ofString "/claim/cut.py") 590, .int (251) 0, .int (1) 0, .int (0) 0, .int (0) 0, .int (3) 0, .ref 279, .bool true, .int (181) 0, .ref 280, .none, .ref 281, .ref 282, .ref 283, .int (593) 0, .int (251) 0, .str (.ofString "/claim/cut.py") 594], #[]⟩) ::
  (nat_lit 285, fnO (top 24) (.ofString "read_dump") (.none) (.str (.ofString "gateloom.dump") 281) 284) ::
  (nat_lit 291, ⟨.type "code", none, .fields #[.str (.ofString "_law_pool") 598, .str (.ofString "_law_pool") 599, .str (.ofString "/claim/cut.py") 600, .int (257) 0, .int (1) 0, .int (0) 0, .int (0) 0, .int (3) 0, .ref 286, .bool true, .int (181) 0, .ref 287, .none, .ref 288, .ref 289, .ref 290, .int (608) 0, .int (257) 0, .str (.ofString "/claim/cut.py") 609], #[]⟩) ::
  (nat_lit 292, fnO (top 26) (.ofString "_law_pool") (.none) (.str (.ofString "law_nn0316_01") 596) 291) ::
  (nat_lit 298, ⟨.type "code", none, .fields #[.str (.ofString "_law_pick") 611, .str (.ofString "_law_pick") 612, .str (.ofString "/claim/cut.py") 613, .int (272) 0, .int (2) 0, .int (0) 0, .int (0) 0, .int (3) 0, .ref 293, .bool true, .int (181) 0, .ref 294, .none, .ref 295, .ref 296, .ref 297, .int (617) 0, .int (272) 0, .str (.ofString "/claim/cut.py") 618], #[]⟩) ::
  (nat_lit 299, fnO (top 27) (.ofString "_law_pick") (.none) (.str (.ofString "law_nn0316_01") 596) 298) ::
  (nat_lit 305, ⟨.type "code", none, .fields #[.str (.ofString "_law_value") 620, .str (.ofString "_law_value") 621, .str (.ofString "/claim/cut.py") 622, .int (282) 0, .int (2) 0, .int (0) 0, .int (0) 0, .int (3) 0, .ref 300, .bool true, .int (181) 0, .ref 301, .none, .ref 302, .ref 303, .ref 304, .int (629) 0, .int (282) 0, .str (.ofString "/claim/cut.py") 630], #[]⟩) ::
  (nat_lit 306, fnO (top 28) (.ofString "_law_value") (.none) (.str (.ofString "law_nn0316_01") 596) 305) ::
  (nat_lit 312, ⟨.type "code", none, .fields #[.str (.ofString "_law_rows") 632, .str (.ofString "_law_rows") 633, .str (.ofString "/claim/cut.py") 634, .int (291) 0, .int (1) 0, .int (0) 0, .int (0) 0, .int (3) 0, .ref 307, .bool true, .int (181) 0, .ref 308, .none, .ref 309, .ref 310, .ref 311, .int (636) 0, .int (291) 0, .str (.ofString "/claim/cut.py") 637], #[]⟩) ::
  (nat_lit 313, fnO (top 29) (.ofString "_law_rows") (.none) (.str (.ofString "law_nn0316_01") 596) 312) ::
  (nat_lit 319, ⟨.type "code", none, .fields #[.str (.ofString "_law_refused") 639, .str (.ofString "_law_refused") 640, .str (.ofString "/claim/cut.py") 641, .int (293) 0, .int (4) 0, .int (0) 0, .int (0) 0, .int (3) 0, .ref 314, .bool true, .int (181) 0, .ref 315, .none, .ref 316, .ref 317, .ref 318, .int (647) 0, .int (293) 0, .str (.ofString "/claim/cut.py") 648], #[]⟩) ::
  (nat_lit 320, fnO (top 30) (.ofString "_law_refused") (.none) (.str (.ofString "law_nn0316_01") 596) 319) ::
  (nat_lit 324, ⟨.type "code", none, .fields #[.str (.ofString "law") 650, .str (.ofString "law") 651, .str (.ofString "/claim/cut.py") 652, .int (310) 0, .int (1) 0, .int (0) 0, .int (0) 0, .int (3) 0, .ref 321, .bool true, .int (181) 0, .ref 322, .none, .none, .none, .ref 323, .int (653) 0, .int (310) 0, .str (.ofString "/claim/cut.py") 654], #[]⟩) ::
  (nat_lit 325, fnO (top 31) (.ofString "law") (.none) (.str (.ofString "law_nn0316_01") 596) 324) :: []
def Kas : List Addr := [2, 3, 22, 28, 29, 31, 32, 44, 45, 53, 54, 60, 61, 67, 68, 74, 75, 81, 82, 88, 89, 95, 96, 102, 103, 109, 110, 116, 117, 123, 124, 137, 138, 144, 145, 151, 152, 158, 159, 161, 162, 172, 173, 179, 180, 193, 194, 200, 201, 207, 208, 210, 211, 221, 222, 235, 236, 242, 243, 249, 250, 256, 257, 263, 264, 270, 271, 273, 274, 284, 285, 291, 292, 298, 299, 305, 306, 312, 313, 319, 320, 324, 325]
theorem Kas_eq (P : Params) : Kas = (K P).map (·.1) := by kernel_rfl!
noncomputable abbrev H : Hook := kHook K Kas Kas_eq
def lo : List Str := [Str.ofString "GateloomError", Str.ofString "FormatError", Str.ofString "code", Str.ofString "from_codes", Str.ofString "bits_text", Str.ofString "from_text", Str.ofString "FIRST_SIGN", Str.ofString "SIGNS", Str.ofString "id_text", Str.ofString "extension", Str.ofString "shortened", Str.ofString "lengthened", Str.ofString "is_layout", Str.ofString "check_word", Str.ofString "change_row", Str.ofString "DumpWriter", Str.ofString "common_length", Str.ofString "declaration_rows", Str.ofString "WordRow", Str.ofString "whole_number", Str.ofString "DumpReader", Str.ofString "read_dump", Str.ofString "_law_pool", Str.ofString "_law_pick", Str.ofString "_law_value", Str.ofString "_law_rows", Str.ofString "_law_refused"]
def q : Program := view PySem.Challenge.pw_nn0316_01 [31]
noncomputable abbrev Xt : Shared → Bool := fun s => xlAt q [] s && recOk [] s
theorem left_whole {p q : Program} {loose : List Str} {Xt : Shared → Bool} {α : Type} {Yf : Shared → α} {Ya : World → α} {N : Nat} {g0 : Bool} {H₀ : Params → Heap} {gs₀ : Array GenState} {d₀ : Drawn} {k₀ : Nat} {m₀ : Nat} {ann : Option Value}
    (open_ : ∀ w : World, (fencedOpening treeTable p w N).map (fun s => (s.heap, s.gens, s.drawn, s.toks)) = some (H₀ w.params, gs₀, d₀, k₀))
    (size : ∀ w : World, ((H₀ w.params).isNs mainGlobals && gs₀.size == 0, (H₀ w.params).objs.size, (H₀ w.params).nsMap mainGlobals "__annotations__") = (true, m₀, ann))
    (run : ∀ (w : World) (os : OsState), (topRun treeTable p w m₀ ann N ⟨H₀ w.params, gs₀, d₀, k₀, os⟩ (topStub p)).map (fun s => (staticsOk (importedModules p.main.body) (H₀ w.params) s.heap && namesBound p s.heap && gensDone s && laidKept (H₀ w.params) s.heap,
        openSeen q loose (importedModules p.main.body) Xt g0 s, Yf s)) = some (true, openGood q loose, Ya w)) : LeftO p q loose Xt Yf Ya N g0 := fun w => by
  obtain ⟨⟨h, gs, d, k, os⟩, e, e'⟩ := Option.map_eq_some_iff.mp (open_ w)
  obtain ⟨rfl, rfl, rfl, rfl⟩ : h = H₀ w.params ∧ gs = gs₀ ∧ d = d₀ ∧ k = k₀ := by simpa using e'
  obtain ⟨z1, z2, z3⟩ : _ ∧ _ ∧ _ := by simpa only [Prod.mk.injEq] using size w
  obtain ⟨s₁, r, l⟩ := Option.map_eq_some_iff.mp (run w os)
  obtain ⟨l1, l2, l3⟩ : _ ∧ _ ∧ _ := by simpa only [Prod.mk.injEq] using l
  have t : topFrom treeTable p w N ⟨H₀ w.params, gs, d, k, os⟩ = some s₁ := by
    unfold topFrom
    dsimp only
    rw [z1, z2, z3, r]
    show (match staticsOk (importedModules p.main.body) (H₀ w.params) s₁.heap && namesBound p s₁.heap && gensDone s₁ && laidKept (H₀ w.params) s₁.heap with | true => _ | false => _) = _
    rw [l1]
  unfold openEnds
  rw [e]
  show (topFrom treeTable p w N _).map _ = _
  rw [t]
  exact congrArg some (Prod.ext l2 l3)
theorem run_looks (w : World) (os : OsState) : (PySem.W.Fast.tw14082659384304107361 PySem.W.Fast.tw14364793385576792824 PySem.Challenge.pw_nn0316_01 w 11 (some (.ref 6)) 2600 ⟨boot_heap w.params, #[], boot_drawn, boot_toks, os⟩ (topStub PySem.Challenge.pw_nn0316_01)).map (fun s => (staticsOk (importedModules PySem.Challenge.pw_nn0316_01.main.body) (boot_heap w.params) s.heap && namesBound PySem.Challenge.pw_nn0316_01 s.heap && gensDone s && laidKept (boot_heap w.params) s.heap,
    PySem.W.Fast.tw4187177175401517315 q lo (importedModules PySem.Challenge.pw_nn0316_01.main.body) Xt true s, H.obs s)) = some (true, openGood q lo, H.val w) := by kernel_rfl
theorem left : LeftO PySem.Challenge.pw_nn0316_01 q lo Xt H.obs H.val 2600 := by
  refine left_whole (H₀ := boot_heap) (gs₀ := #[]) (d₀ := boot_drawn) (k₀ := boot_toks) (m₀ := 11) (ann := some (.ref 6)) (boot_open (by kernel_rfl!) (by decide +kernel) fun s => rfl) (fun w => by kernel_rfl!) fun w os => ?_
  rw [PySem.W.Fast.te14082659384304107361, PySem.W.Fast.te14364793385576792824, PySem.W.Fast.te4187177175401517315]
  exact run_looks w os
theorem said : PySem.Challenge.rw_nn0316_01.wellSaid = true := by decide +kernel
theorem rowSaid : PySem.Challenge.rw_nn0316_01.row.wellSaid = true := row_said said
theorem promised : PySem.Challenge.rw_nn0316_01.row.toRowW.promised := by w_witness2
noncomputable abbrev XLq : (Str → Option Value) → Heap → Prop := XL q []
def dR : DefRec := match top 31 with
  | .FunctionDef name params body _ _ _ scope _ _ pos => ⟨name, params, body, scope, pos⟩
  | _ => ⟨default, default, [], default, default⟩
theorem hdef : defOf q PySem.Challenge.rw_nn0316_01.row.name = some (dR, []) := by kernel_rfl!
theorem hp : PySem.Challenge.rw_nn0316_01.row.prog.theDef PySem.Challenge.rw_nn0316_01.row.name = some (dR.params, dR.body, dR.scope) := by kernel_rfl!
theorem hk : kwWritten? dR.params.kwonlyargs dR.params.kw_defaults = some [] := by kernel_rfl!
theorem ok4 : (chainsOk q && opensWell PySem.Challenge.rw_nn0316_01.row.prog && (frees PySem.Challenge.rw_nn0316_01.row.toRowW && PySem.Challenge.rw_nn0316_01.row.within.isEmpty)) = true := by decide +kernel
theorem bare : PySem.Challenge.rw_nn0316_01.row.prog.bare := ⟨rfl, rfl, rfl, rfl, rfl, by decide +kernel⟩
theorem head (call : WalkO q lo XLq H.says PySem.Challenge.rw_nn0316_01.row.toRowW dR [] fun f vs => PySem.call f vs) : PySem.Challenge.rw_nn0316_01.Holds :=
  ⟨said, holds_open (r := PySem.Challenge.rw_nn0316_01.row) (q := q) (loose := lo) (Xt := Xt) (XP := XLq) (Yf := H.obs) (Ya := H.val) (YP := H.says) (N := 2600) left H.of H.keeps
    (fun s e => xl_of s (Bool.and_eq_true_iff.mp e).1) XL.keeps hdef hp hk (fun s e => recFacts_of (Bool.and_eq_true_iff.mp e).2) rfl rowSaid ok4 bare promised call⟩
end Nn
end
-- NnQl
section
namespace Nn
/-! ## Small facts on numbers, each proved once -/
theorem qa1 (k : Nat) : (-(1 : Int)) + ((k + 1 : Nat) : Int) = (k : Int) := (congrArg (-(1:Int) + ·) (Int.add_comm (k : Int) 1)).trans (Int.neg_add_cancel_left 1 k)
theorem qa2 (n k : Nat) : (((n + k + 1 : Nat) : Int) - 1) + (n : Int) * (-1) = (k : Int) := by omega
theorem qa3 {a b : Nat} (h : a < b) : ∃ k, b = a + k + 1 := ⟨b - a - 1, by omega⟩
theorem qa4 {z : Int} {n : Nat} (h : z ≤ n) : z.toNat ≤ n := Int.toNat_le.2 h
theorem qa5 {z : Int} {n : Nat} (h0 : 0 ≤ z) (h : z < n) : z.toNat < n := (Int.toNat_lt h0).2 h
theorem qa6 {a b : Int} (h0 : 0 ≤ a) : ∃ m : Nat, a = m := Int.eq_ofNat_of_zero_le h0
theorem qa7 : ∀ n : Nat, n < 58 → 48 ≤ n → n = 48 ∨ n = 49 ∨ n = 50 ∨ n = 51 ∨ n = 52 ∨ n = 53 ∨ n = 54 ∨ n = 55 ∨ n = 56 ∨ n = 57 := by decide
theorem qa8 : ∀ n : Nat, n < 58 → 48 ≤ n → ¬ (n = 32 ∨ n = 9 ∨ n = 13 ∨ n = 10 ∨ n = 11 ∨ n = 12) := by decide
theorem qb1 {x p : Int} (h : 0 ≤ x ∧ x < p) : 0 ≤ 2 * x + 1 ∧ 2 * x + 1 < p * 2 := by omega
theorem qb2 {x y p : Int} (h1 : 0 ≤ x ∧ x < 2) (h2 : 0 ≤ y ∧ y < p) : 0 ≤ x + 2 * y ∧ x + 2 * y < 2 * p := by omega
theorem qb3 {z x : Int} {n : Nat} (h0 : 0 ≤ z) (h1 : 0 ≤ x ∧ x ≤ 1000000000000) (h2 : z ≤ n * 1000000000000) (h3 : n ≤ 11) : 0 ≤ z + x ∧ z + x ≤ 12000000000000 := by omega
theorem q1 {n1 : Nat} (h1 : n1 ≤ (1000 : Nat)) : n1 ≤ ((16777216 : Nat) + (1 : Nat)) := by exact Nat.le_trans (by assumption) (by decide)
theorem q3 {n1 n2 : Nat} (h1 : (n1 + (6 : Nat)) < n2) : (n1 + (5 : Nat)) < n2 := by exact Nat.le_of_lt (by assumption)
theorem q4 {n1 : Nat}  : ((1 : Nat) + n1) = (n1 + (1 : Nat)) := by exact Nat.add_comm _ _
theorem q5 {n1 : Nat} {z1 : Int} (h1 : (0 : Int) ≤ z1) (h2 : z1 < (Nat.cast n1 : Int)) : (Int.toNat z1) < n1 := by exact (Int.toNat_lt (by assumption)).2 (by assumption)
theorem q6 {n1 : Nat} {z1 : Int} (h1 : (max (0 : Int) (min (Nat.cast n1 : Int) (Nat.cast n1 : Int))) = (Nat.cast n1 : Int)) (h2 : (Nat.cast n1 : Int) < (0 : Int)) (h3 : (max (0 : Int) (min z1 (Nat.cast n1 : Int))) = (Nat.cast n1 : Int)) : False := by lia
theorem q8 {n1 : Nat}  : (0 : Int) ≤ (Nat.cast n1 : Int) := by lia
theorem q9 {n1 : Nat} {z1 : Int} (h1 : (max (0 : Int) (min z1 (Nat.cast n1 : Int))) = (Nat.cast n1 : Int)) : (max (0 : Int) (min (Nat.cast n1 : Int) (Nat.cast n1 : Int))) = (Nat.cast n1 : Int) := by simp <;> omega
theorem q10 {z1 : Int} (h1 : (0 : Int) ≤ z1) (h2 : z1 < (0 : Int)) : False := by obtain ⟨m, rfl⟩ := Int.eq_ofNat_of_zero_le (by assumption); simp at *; lia
theorem q11 {n1 : Nat}  : (Nat.cast n1 : Int) ≤ (Nat.cast n1 : Int) := by simp <;> omega
theorem q13 {n1 : Nat} (h1 : n1 ≤ (1000000000 : Nat)) : (Nat.cast n1 : Int) < (9223372036854775808 : Int) := by exact Int.lt_of_le_of_lt (Int.ofNat_le.2 (by assumption)) (by decide)
theorem q14 {z1 : Int} (h1 : (0 : Int) ≤ z1) (h2 : z1 < (1 : Int)) : (Int.toNat z1) = (0 : Nat) := by obtain ⟨m, rfl⟩ := Int.eq_ofNat_of_zero_le (by assumption); simp at *; lia
theorem q15 {z1 : Int} : (((0 : Int) ≤ z1) ∧ (z1 ≤ (1000000 : Int))) → ((-((2 : Int) ^ (63 : Nat))) ≤ z1) := by intros; (rename_i h; exact Int.le_trans (by decide) h.1)
theorem q16 {z1 : Int} (h1 : ((0 : Int) ≤ z1) ∧ (z1 ≤ (1000000 : Int))) : z1 ≤ (Nat.cast (1000000 : Nat) : Int) := by simp_all; done
theorem q17 {n1 n2 : Nat}  : ((n1 + (1 : Nat)) + n2) = (n1 + (n2 + (1 : Nat))) := by exact Nat.add_right_comm _ _ _
theorem q20 {n1 n2 : Nat} {z1 : Int} (h1 : (0 : Int) ≤ z1) (h2 : n1 = n2) (h3 : n2 ≤ (1000000000 : Nat)) : (-(Nat.cast n1 : Int)) ≤ z1 := by subst_vars; lia
theorem q21 {n1 n2 : Nat} {z1 : Int} (h1 : z1 < (Nat.cast n2 : Int)) (h2 : n1 = n2) : z1 < (Nat.cast n1 : Int) := by subst_vars; omega
theorem q22 {z1 : Int} (h1 : (0 : Int) ≤ z1) : (-(9223372036854775808 : Int)) < z1 := by lia
theorem q23 {n1 n2 : Nat} {z1 : Int} (h1 : (0 : Int) ≤ z1) (h2 : z1 < (Nat.cast n1 : Int)) (h3 : n1 ≤ (1000000000 : Nat)) (h4 : n2 = n1) : (Int.toNat z1) < n1 := by exact (Int.toNat_lt (by assumption)).2 (by assumption)
theorem q24 {z1 : Int} (h1 : (0 : Int) ≤ z1) (h2 : z1 < (1000000000 : Int)) : z1 < ((2 : Int) ^ (63 : Nat)) := by exact Int.le_trans (by assumption) (by decide)
theorem q25 {n1 : Nat} {z1 : Int} (h1 : z1 < (Nat.cast n1 : Int)) (h2 : n1 ≤ (1000000000 : Nat)) : z1 < (1000000000 : Int) := by lia
theorem q26 {n1 : Nat} {z1 : Int} (h1 : (0 : Int) ≤ z1) (h2 : z1 < (Nat.cast n1 : Int)) (h3 : n1 ≤ (1000000000 : Nat)) : (Int.toNat z1) < n1 := by exact (Int.toNat_lt (by assumption)).2 (by assumption)
theorem q27 {n1 n2 n3 n4 n5 n6 : Nat} (h1 : n3 < n1) (h2 : n2 < n4) (h3 : n4 < n5) (h4 : n5 < n6) (h5 : n6 < n3) : n1 ≠ n2 := Nat.ne_of_gt (Nat.lt_trans h2 (Nat.lt_trans h3 (Nat.lt_trans h4 (Nat.lt_trans h5 h1))))
theorem q28 {n1 n2 : Nat} (h1 : n2 < n1) : n1 ≠ n2 := Nat.ne_of_gt h1
theorem q29 {n1 n2 n3 n4 : Nat} (h1 : n3 < n1) (h2 : n2 < n4) (h3 : n4 < n3) : n1 ≠ n2 := Nat.ne_of_gt (Nat.lt_trans h2 (Nat.lt_trans h3 h1))
theorem q30 {n1 n2 n3 : Nat} (h1 : n3 < n1) (h2 : n2 < n3) : n1 ≠ n2 := Nat.ne_of_gt (Nat.lt_trans h2 h1)
theorem q31 {n1 : Nat} (h1 : n1 ≤ (1000000 : Nat)) : (n1 + (2 : Nat)) ≤ (16777216 : Nat) := by exact Nat.le_trans (Nat.add_le_add_right (by assumption) _) (by decide)
theorem q32 {n1 : Nat} (h1 : n1 ≤ (1000 : Nat)) : n1 ≤ (16777216 : Nat) := by exact Nat.le_trans (by assumption) (by decide)
theorem q33 {n1 : Nat} (h1 : n1 ≤ (1000000 : Nat)) : n1 ≤ (16777216 : Nat) := by exact Nat.le_trans (by assumption) (by decide)
theorem q34 {n1 n2 : Nat} (h1 : n1 ≤ (1000000 : Nat)) (h2 : (0 : Nat) < n1) (h3 : n2 = n1) : (-(Nat.cast n1 : Int)) ≤ (-(1 : Int)) := by lia
theorem q37 {n1 : Nat} (h1 : (Nat.cast (n1 - (1 : Nat)) : Int) < (0 : Int)) : False := by lia
theorem q38 {n1 n2 : Nat} (h1 : n1 ≤ (((21 : Nat) * n2) + (10 : Nat))) : ((n1 + (1 : Nat)) + (1 : Nat)) ≤ (((21 : Nat) * n2) + (12 : Nat)) := by simp_all; done
theorem q39 {n1 : Nat} (h1 : n1 ≤ (1000 : Nat)) : (((11 : Nat) + n1) + (5 : Nat)) ≤ (1200 : Nat) := by simp_all <;> lia
theorem q40 {n1 : Nat} (h1 : n1 ≤ (400 : Nat)) : n1 ≤ (1200 : Nat) := by exact Nat.le_trans (by assumption) (by decide)
theorem q42 {z1 : Int} (h1 : z1 ≤ (1000 : Int)) : z1 < ((10 : Int) ^ (16 : Nat)) := by exact Int.lt_of_le_of_lt (by assumption) (by decide)
theorem q43 {z1 : Int} (h1 : (1 : Int) ≤ z1) : (0 : Int) ≤ (z1 - (1 : Int)) := by simp <;> omega
theorem q45 {n1 n2 n3 : Nat} (h1 : n1 ≤ (n3 + (2 : Nat))) : (n1 + ((2 : Nat) * n2)) ≤ (n3 + ((2 : Nat) * (n2 + (1 : Nat)))) := by lia
theorem q46 {n1 : Nat} (h1 : n1 ≤ (10 : Nat)) : (n1 - (1 : Nat)) ≤ (10 : Nat) := by exact Nat.le_trans (Nat.sub_le _ _) (Nat.le_trans (by assumption) (by decide))
theorem q47 {n1 n2 n3 : Nat} (h1 : n1 ≤ (n3 + (21 : Nat))) : (n1 + ((21 : Nat) * n2)) ≤ (n3 + ((21 : Nat) * (n2 + (1 : Nat)))) := by lia
theorem q48 {n1 : Nat} (h1 : (0 : Int) ≤ (Nat.cast n1 : Int)) (h2 : (Nat.cast n1 : Int) < ((10 : Int) ^ (16 : Nat))) : n1 < ((10 : Nat) ^ (16 : Nat)) := by norm_cast at *; done
theorem q50 {n1 n2 : Nat} (h1 : n2 ≤ (2 : Nat)) : (n1 + n2) ≤ (n1 + (2 : Nat)) := by simp <;> omega
theorem q52 {n1 n2 n3 : Nat} (h1 : (n1 ≤ n2) ∧ (n1 ≤ n3)) : ((n1 + (1 : Nat)) ≤ (n2 + (1 : Nat))) ∧ ((n1 + (1 : Nat)) ≤ (n3 + (1 : Nat))) := by simp <;> omega
theorem q53 {n1 n2 n3 n4 : Nat} (h1 : n2 ≤ n3) (h2 : n1 ≤ n4) : (n1 + n2) ≤ (n3 + n4) := by lia
theorem q54 {z1 : Int} (h1 : z1 ≤ ((10 : Int) ^ (15 : Nat))) : z1 < ((10 : Int) ^ (16 : Nat)) := by exact Int.lt_of_le_of_lt (by assumption) (by decide)
theorem q55 {n1 : Nat} (h1 : n1 ≤ (16 : Nat)) : (((2 : Nat) + n1) + (3 : Nat)) ≤ (21 : Nat) := by lia
theorem q56 {z1 : Int} (h1 : (1 : Int) ≤ z1) : (0 : Int) ≤ z1 := by exact Int.le_of_lt (by assumption)
theorem q57 {z1 : Int} (h1 : z1 ≤ (1000 : Int)) : (z1 - (1 : Int)) < ((10 : Int) ^ (16 : Nat)) := by lia
theorem q59 {n1 : Nat} (h1 : n1 ≤ (16 : Nat)) : ((1 : Nat) + n1) ≤ (1200 : Nat) := by lia
theorem q60 {n1 n2 : Nat}  : ((0 : Nat) ≤ (n1 + (1 : Nat))) ∧ ((0 : Nat) ≤ (n2 + (1 : Nat))) := by simp <;> omega
theorem q61 {n1 : Nat} (h1 : n1 ≤ (100 : Nat)) : (((14 : Nat) + n1) + (5 : Nat)) ≤ (400 : Nat) := by simp_all <;> lia
theorem q63 {n1 n2 : Nat} (h1 : (n1 - n2) > (0 : Nat)) : (1 : Nat) ≤ (n1 - n2) := by norm_cast; done
theorem q64 {n1 : Nat} (h1 : n1 ≤ (1000 : Nat)) : n1 ≤ (16777215 : Nat) := by exact Nat.le_trans (by assumption) (by decide)
theorem q65 {n1 : Nat} (h1 : (0 : Nat) < n1) : (0 : Nat) ≠ n1 := Nat.ne_of_lt h1
theorem q67 {n1 n2 : Nat} (h1 : (n1 + n2) ≤ (100000 : Nat)) : (n1 + n2) ≤ (16777216 : Nat) := by exact Nat.le_trans (by assumption) (by decide)
theorem q69 {n1 : Nat}  : (0 : Int) < (Nat.cast (n1 + (1 : Nat)) : Int) := by simp <;> omega
theorem q70 {n1 : Nat}  : (1 : Int) ≤ (Nat.cast (n1 + (1 : Nat)) : Int) := by simp_all <;> lia
theorem q71 {n1 n2 : Nat}  : ((n1 + n2) - n1) = n2 := by simp <;> omega
theorem q73 {n1 n2 : Nat} (h1 : (n2 + (1 : Nat)) ≤ n1) : ((n1 - (1 : Nat)) - n2) = (n1 - (n2 + (1 : Nat))) := by lia
theorem q74 {n1 : Nat} (h1 : n1 ≤ (100 : Nat)) : n1 ≤ (500 : Nat) := by exact Nat.le_trans (by assumption) (by decide)
theorem q76 {n1 n2 n3 : Nat} (h1 : (n3 + (1 : Nat)) ≤ n1) (h2 : n2 ≤ n3) : ((n1 - (1 : Nat)) - n2) = (n1 - (n2 + (1 : Nat))) := by lia
theorem q77 {z1 : Int} (h1 : (0 : Int) ≤ (z1 - (1 : Int))) (h2 : z1 ≤ (1000 : Int)) : z1 < ((10 : Int) ^ (16 : Nat)) := by exact Int.lt_of_le_of_lt (by assumption) (by decide)
theorem q78 {n1 : Nat} (h1 : n1 ≤ (16 : Nat)) : (((1 : Nat) + n1) + (3 : Nat)) ≤ (500 : Nat) := by simp_all <;> lia
theorem q79 {n1 : Nat} (h1 : n1 = (0 : Nat)) (h2 : (0 : Nat) < n1) : False := by simp_all; done
theorem q80 {z1 : Int} (h1 : (0 : Int) ≤ (z1 - (1 : Int))) (h2 : z1 ≤ (1000 : Int)) : (z1 - (1 : Int)) < ((10 : Int) ^ (16 : Nat)) := by lia
theorem q82 {n1 n2 n3 : Nat} (h1 : n3 = (n1 - (1 : Nat))) : ((n1 - (1 : Nat)) - n2) ≤ (n1 - (1 : Nat)) := by exact Nat.sub_le _ _
theorem q83 {n1 n2 : Nat} (h1 : n1 ≤ n2) : (n1 + (1 : Nat)) ≤ (n2 + (1 : Nat)) := by simp <;> omega
theorem q84 {n1 : Nat} (h1 : n1 ≤ (1 : Nat)) : ((((((0 : Nat) + (1 : Nat)) + (1 : Nat)) + (1 : Nat)) + (1 : Nat)) + n1) ≤ (100 : Nat) := by lia
theorem q85 {n1 n2 : Nat} (h1 : (n2 + (1 : Nat)) ≤ n1) : ((n1 - (1 : Nat)) - n2) ≤ (n1 - (1 : Nat)) := by exact Nat.sub_le _ _
theorem q86 {n1 : Nat} (h1 : ((48 : Nat) ≤ n1) ∧ (n1 ≤ (57 : Nat))) : n1 ≠ (36 : Nat) := by lia
theorem q87 {n1 : Nat} (h1 : n1 ≤ (16 : Nat)) : n1 ≤ (500 : Nat) := by exact Nat.le_trans (by assumption) (by decide)
theorem q88 {n1 : Nat} {z1 : Int} (h1 : (Nat.cast n1 : Int) = z1) (h2 : (0 : Int) ≤ (z1 - (1 : Int))) : (1 : Nat) ≤ n1 := by subst_vars; lia
theorem q90 {n1 n2 n3 : Nat} (h1 : (n1 + (n2 + (1 : Nat))) ≤ (100 : Nat)) (h2 : (n3 + (n2 + (1 : Nat))) ≤ (100 : Nat)) : n1 ≤ (100 : Nat) := by exact Nat.le_trans (Nat.le_add_right _ _) (by assumption)
theorem q91 {n1 n2 : Nat} (h1 : (n1 + (n2 + (1 : Nat))) ≤ (100 : Nat)) : ((n1 + (1 : Nat)) + n2) ≤ (100 : Nat) := by lia
theorem q92 {n1 : Nat} (h1 : n1 ≤ (100 : Nat)) : n1 ≤ (1000 : Nat) := by exact Nat.le_trans (by assumption) (by decide)
theorem q95 {n1 : Nat} (h1 : n1 ≤ (10 : Nat)) : n1 ≤ (100 : Nat) := by exact Nat.le_trans (by assumption) (by decide)
theorem q96 {n1 n2 : Nat} (h1 : (n1 + (n2 + (1 : Nat))) ≤ (100 : Nat)) : n1 ≤ (100 : Nat) := by exact Nat.le_trans (Nat.le_add_right _ _) (by assumption)
theorem q97 {n1 n2 : Nat} (h1 : n1 ≤ (10 : Nat)) : (min (n1 - n2) n1) ≤ (10 : Nat) := by exact Nat.le_trans (Nat.min_le_right _ _) (by assumption)
theorem q98 {n1 n2 n3 : Nat}  : (((Nat.cast (n1 / ((2 : Nat) ^ n2)) : Int) % (2 : Int)) + ((2 : Int) * ((Nat.cast (n3 / ((2 : Nat) ^ n2)) : Int) % (2 : Int)))) = (Nat.cast (((n1 / ((2 : Nat) ^ n2)) % (2 : Nat)) + ((2 : Nat) * ((n3 / ((2 : Nat) ^ n2)) % (2 : Nat)))) : Int) := by rfl
theorem q99 {n1 n2 n3 : Nat}  : ((Nat.cast (((n1 / ((2 : Nat) ^ n2)) % (2 : Nat)) + ((2 : Nat) * ((n3 / ((2 : Nat) ^ n2)) % (2 : Nat)))) : Int) % (2 : Int)) = (Nat.cast ((n1 / ((2 : Nat) ^ n2)) % (2 : Nat)) : Int) := by simp <;> omega
theorem q102 {n1 n2 n3 : Nat} (h1 : n1 = (n3 + n2)) : (n1 - n2) = n3 := by simp_all; done
theorem q103 {n1 n2 : Nat}  : (((Nat.cast (n1 + (1 : Nat)) : Int) - (1 : Int)) + ((Nat.cast (n2 + (1 : Nat)) : Int) * (-(1 : Int)))) = (((Nat.cast n1 : Int) - (1 : Int)) + ((Nat.cast n2 : Int) * (-(1 : Int)))) := by simp_all <;> lia
theorem q105 {n1 : Nat}  : (((Nat.cast (n1 + (1 : Nat)) : Int) - (1 : Int)) + ((Nat.cast (0 : Nat) : Int) * (-(1 : Int)))) = (Nat.cast n1 : Int) := by simp <;> omega
theorem q106 {n1 : Nat} (h1 : (1 : Nat) ≤ n1) : (0 : Nat) ≠ n1 := by exact Nat.ne_of_lt (by assumption)
theorem q107 {z1 z2 z3 : Int} (h1 : z1 ≤ z2) (h2 : (0 : Int) ≤ z2) (h3 : z2 ≤ ((10 : Int) ^ (15 : Nat))) (h4 : (z3 = z1) ∨ (z3 < (0 : Int))) (h5 : z2 = z3) : z1 = z2 := by simp_all <;> lia
theorem q108 {n1 : Nat} (h1 : n1 ≤ (16 : Nat)) : n1 ≤ (600 : Nat) := by exact Nat.le_trans (by assumption) (by decide)
theorem q109 {n1 : Nat} (h1 : (Nat.cast n1 : Int) = (1 : Int)) : n1 = (1 : Nat) := by norm_cast at *; done
theorem q110 {n1 : Nat} (h1 : (1 : Int) ≤ (Nat.cast n1 : Int)) (h2 : (Nat.cast n1 : Int) ≤ (1000 : Int)) : (1 : Nat) ≤ n1 := by exact Int.ofNat_lt.1 (by assumption)
theorem q111 {n1 n2 n3 : Nat} (h1 : n1 = n2) (h2 : n3 ≤ n1) (h3 : (Nat.cast n2 : Int) < (Nat.cast n3 : Int)) : False := by simp_all <;> lia
theorem q113 {n1 : Nat} (h1 : (1 : Int) ≤ (Nat.cast n1 : Int)) (h2 : (Nat.cast n1 : Int) ≤ (1000 : Int)) : (0 : Nat) ≠ n1 := by lia
theorem q114 {z1 : Int} (h1 : (1 : Int) ≤ z1) (h2 : z1 ≤ (1000 : Int)) : (0 : Int) ≤ z1 := by exact Int.le_of_lt (by assumption)
theorem q115 {n1 : Nat}  : (n1 + (1 : Nat)) ≤ (n1 + (2 : Nat)) := by simp <;> omega
theorem q116 {z1 : Int} (h1 : (0 : Int) ≤ z1) (h2 : z1 ≤ ((10 : Int) ^ (15 : Nat))) : z1 < ((10 : Int) ^ (16 : Nat)) := by exact Int.lt_of_le_of_lt (by assumption) (by decide)
theorem q118  : ((49 : Nat) = (48 : Nat)) ∨ (((49 : Nat) = (49 : Nat)) ∨ (((49 : Nat) = (122 : Nat)) ∨ ((49 : Nat) = (120 : Nat)))) := by norm_cast; done
theorem q119 {n1 : Nat}  : (Nat.cast n1 : Int) < (Nat.cast (n1 + (1 : Nat)) : Int) := by simp_all <;> lia
theorem q120 {n1 : Nat} (h1 : (1 : Nat) ≤ n1) (h2 : (Nat.cast n1 : Int) < (Nat.cast (1 : Nat) : Int)) : False := by simp at *; lia
theorem q121 {z1 : Int} (h1 : (0 : Int) ≤ z1) (h2 : z1 ≤ (1000000000 : Int)) : z1 < ((2 : Int) ^ (63 : Nat)) := by exact Int.lt_of_le_of_lt (by assumption) (by decide)
theorem q122 {n1 : Nat} {z1 : Int} (h1 : z1 < (Nat.cast n1 : Int)) (h2 : n1 ≤ (1000000000 : Nat)) : z1 < ((2 : Int) ^ (63 : Nat)) := by simp_all <;> lia
theorem q123  : (1 : Nat) ≠ (4 : Nat) := by simp <;> omega
theorem q125 {n1 n2 n3 : Nat} {P1 : Prop} (h1 : n1 ≤ n2) (h2 : n3 < n1) (h3 : (((33 : Nat) + n3) = ((33 : Nat) + n2)) ∧ P1) : False := by simp_all <;> lia
theorem q126 {z1 : Int} : (((1 : Int) ≤ z1) ∧ (z1 ≤ (40 : Int))) → (z1 ≤ (1000 : Int)) := by intros; (rename_i h; exact Int.le_trans h.2 (by decide))
theorem q127 {z1 : Int} (h1 : ((1 : Int) ≤ z1) ∧ (z1 ≤ (40 : Int))) (h2 : z1 < (1 : Int)) : False := by lia
theorem q128 {z1 : Int} : ((z1 = (1 : Int)) ∨ ((z1 = (4 : Int)) ∨ ((z1 = (9 : Int)) ∨ (z1 = (40 : Int))))) → (((1 : Int) ≤ z1) ∧ (z1 ≤ (40 : Int))) := by intros; (rename_i h; rcases h with h | h | h | h <;> subst h <;> decide)
theorem q129 {n1 : Nat}  : (Int.toNat ((0 : Int) + (Nat.cast n1 : Int))) = n1 := by exact Nat.add_comm _ _
theorem q132 {z1 : Int} : ((z1 = (0 : Int)) ∨ ((z1 = (1 : Int)) ∨ ((z1 = (7 : Int)) ∨ (z1 = ((10 : Int) ^ (12 : Nat)))))) → (((0 : Int) ≤ z1) ∧ (z1 ≤ ((10 : Int) ^ (12 : Nat)))) := by intros; (rename_i h; rcases h with h | h | h | h <;> subst h <;> decide)
theorem q133 {n1 n2 n3 : Nat} (h1 : n3 < n2) (h2 : n1 < n3) : n1 < n2 := (Nat.lt_trans h2 h1)
theorem q135 {n1 n2 : Nat} (h1 : n1 < n2) : ((33 : Nat) + n1) ≠ ((33 : Nat) + n2) := by lia
theorem q136 {n1 n2 : Nat} (h1 : n1 ≤ (1000000 : Nat)) (h2 : n2 = (n1 + (1 : Nat))) : (-(Nat.cast (n1 + (1 : Nat)) : Int)) ≤ (-(1 : Int)) := by subst_vars; lia
theorem q138 {n1 n2 n3 n4 : Nat} (h1 : n2 = (n3 + n4)) : ((n1 + (1 : Nat)) + n2) = ((n1 + (n3 + (1 : Nat))) + n4) := by subst_vars; lia
theorem q139 {n1 n2 : Nat} (h1 : n1 ≤ n2) : n1 = (min n1 n2) := by simp_all; done
theorem q140 (h1 : (1 : Nat) < (1 : Nat)) : False := by simp_all; done
theorem q141 {n1 n2 n3 : Nat} (h1 : (n1 + (n2 + n3)) < n2) : False := by lia
theorem q142 {n1 n2 n3 : Nat} (h1 : (1 : Nat) ≤ n1) (h2 : (n2 + n1) ≤ n3) (h3 : n3 = n2) : False := by simp_all <;> lia
theorem q143 {n1 n2 : Nat} (h1 : (min n1 n2) = n1) : n1 ≤ n2 := by lia
theorem q145 (h1 : (4 : Nat) < (1 : Nat)) : False := by norm_cast; done
theorem q146 (h1 : (2 : Nat) < (1 : Nat)) : False := by norm_cast; done
theorem q147 {n1 n2 : Nat} (h1 : n1 = (0 : Nat)) : n1 ≤ n2 := by simp_all; done
theorem q149 {n1 n2 n3 : Nat} (h1 : (n1 + (n3 + (1 : Nat))) = n2) : n1 < n2 := by subst_vars; lia
theorem q150 {n1 n2 n3 : Nat} (h1 : (n1 + (n2 + (1 : Nat))) = n3) : ((n1 + (1 : Nat)) + n2) = n3 := by subst_vars; lia
theorem q151 {n1 : Nat} : ((n1 = (48 : Nat)) ∨ ((n1 = (49 : Nat)) ∨ ((n1 = (122 : Nat)) ∨ (n1 = (120 : Nat))))) → (n1 ≠ (98 : Nat)) := by intros; (rename_i h; rcases h with h | h | h | h <;> subst h <;> decide)
theorem q153 (h1 : ((10 : Nat) = (48 : Nat)) ∨ (((10 : Nat) = (49 : Nat)) ∨ (((10 : Nat) = (122 : Nat)) ∨ ((10 : Nat) = (120 : Nat))))) : False := by norm_cast; done
theorem q154 {z1 : Int} (h1 : z1 > (1 : Int)) : (0 : Int) ≤ (z1 - (1 : Int)) := by lia
theorem q155 (h1 : ((48 : Nat) ≤ (10 : Nat)) ∧ ((10 : Nat) ≤ (57 : Nat))) : False := by norm_cast; done
theorem q156 (h1 : ((32 : Nat) = (48 : Nat)) ∨ (((32 : Nat) = (49 : Nat)) ∨ (((32 : Nat) = (122 : Nat)) ∨ ((32 : Nat) = (120 : Nat))))) : False := by norm_cast; done
theorem q157 {n1 : Nat} (h1 : n1 ≤ (16 : Nat)) : n1 ≤ (1199 : Nat) := by exact Nat.le_trans (by assumption) (by decide)
theorem q158 (h1 : ((48 : Nat) ≤ (100 : Nat)) ∧ ((100 : Nat) ≤ (57 : Nat))) : False := by norm_cast; done
theorem q159 {n1 : Nat} (h1 : n1 < (60 : Nat)) : ((33 : Nat) + n1) ≠ (100 : Nat) := by lia
theorem q160 {n1 n2 : Nat} {P1 P2 : Prop} (h1 : ((P1 ∧ (n1 ≤ (100 : Nat))) ∧ (n2 ≤ (10 : Nat))) ∧ P2) : n1 ≤ (1000 : Nat) := by lia
theorem q161 {n1 n2 : Nat} {P1 P2 : Prop} (h1 : ((P1 ∧ (n2 ≤ (100 : Nat))) ∧ (n1 ≤ (10 : Nat))) ∧ P2) : n1 ≤ (1000 : Nat) := by lia
theorem q162 {n1 : Nat} {P1 : Prop} (h1 : P1 ∧ (n1 ≤ (100 : Nat))) : n1 ≤ (1000 : Nat) := by lia
theorem q163 {n1 n2 : Nat}  : (((((11 : Nat) + n1) + (5 : Nat)) + (n2 + (1 : Nat))) + ((20 : Nat) + ((0 : Nat) + (1 : Nat)))) = ((n1 + (38 : Nat)) + n2) := by lia
theorem q165 {z1 : Int} (h1 : ((1 : Int) ≤ z1) ∧ (z1 ≤ (40 : Int))) : ((1 : Int) ≤ z1) ∧ (z1 ≤ (1000 : Int)) := by simp_all <;> lia
theorem q166 {n1 : Nat} {z1 : Int} (h1 : (Nat.cast n1 : Int) = z1) (h2 : ((1 : Int) ≤ z1) ∧ (z1 ≤ (40 : Int))) : (1 : Nat) ≤ n1 := by subst_vars; lia
theorem q167 {n1 : Nat} (h1 : n1 < (60 : Nat)) : ((33 : Nat) + n1) < (1114112 : Nat) := by lia
theorem q168  : ((max (0 : Nat) (max (0 : Nat) (0 : Nat))) + (1 : Nat)) ≤ (64 : Nat) := by norm_cast; done
theorem q169 {n1 n2 n3 n4 : Nat} (h1 : n1 ≤ n4) (h2 : n2 ≤ n3) : (n1 + (n2 + (1 : Nat))) ≤ (n3 + ((1 : Nat) * (n4 + (1 : Nat)))) := by simp_all <;> lia
theorem q170 {n1 : Nat} (h1 : n1 ≤ (1000000 : Nat)) (h2 : (Nat.cast n1 : Int) ≥ ((2 : Int) ^ (63 : Nat))) : False := by norm_cast at *; lia
theorem q172 {n1 : Nat} (h1 : (1 : Nat) ≤ n1) : (0 : Nat) < n1 := by norm_cast; done
theorem q173 {n1 : Nat} {P1 P2 P3 : Prop} (h1 : (P1 ∧ P2) ∧ (P3 ∧ (n1 ≤ (4 : Nat)))) : n1 ≤ (100 : Nat) := by lia
theorem q174 {n1 n2 : Nat} (h1 : n1 ≤ ((0 : Nat) + ((2 : Nat) * n2))) (h2 : n2 ≤ (12 : Nat)) : n1 ≤ (1000 : Nat) := by simp_all <;> lia
theorem q175 {n1 : Nat} (h1 : n1 ≤ (5 : Nat)) : n1 ≤ (10 : Nat) := by exact Nat.le_trans (by assumption) (by decide)
theorem q176 {n1 n2 : Nat} (h1 : n1 < n2) (h2 : n2 ≤ (5 : Nat)) : n1 < (60 : Nat) := by exact Nat.lt_of_lt_of_le (by assumption) (Nat.le_trans (by assumption) (by decide))
theorem q177 {z1 : Int} (h1 : ((0 : Int) ≤ z1) ∧ (z1 < (4 : Int))) : z1 < (Nat.cast (4 : Nat) : Int) := by simp_all; done
theorem q179 {z1 : Int} (h1 : ((1 : Int) ≤ z1) ∧ (z1 ≤ (1000 : Int))) : (-((2 : Int) ^ (62 : Nat))) ≤ (z1 - (1 : Int)) := by lia
theorem q180 {z1 : Int} (h1 : ((1 : Int) ≤ z1) ∧ (z1 ≤ (1000 : Int))) : (Nat.cast (Int.toNat ((z1 - (1 : Int)) - (-(1 : Int)))) : Int) = (Nat.cast (Int.toNat z1) : Int) := by simp <;> omega
theorem q183 {z1 : Int} (h1 : ((1 : Int) ≤ z1) ∧ (z1 ≤ (1000 : Int))) : (z1 - (1 : Int)) < ((2 : Int) ^ (62 : Nat)) := by lia
theorem q184 {z1 : Int} : (((0 : Int) ≤ z1) ∧ (z1 < (4 : Int))) → ((-(Nat.cast (4 : Nat) : Int)) ≤ z1) := by intros; (rename_i h; exact Int.le_trans (by decide) h.1)
theorem q186 {n1 : Nat} {z1 : Int} (h1 : ((1 : Int) ≤ z1) ∧ (z1 ≤ (1000 : Int))) (h2 : n1 < (Int.toNat z1)) : (0 : Int) ≤ ((z1 - (1 : Int)) + ((Nat.cast n1 : Int) * (-(1 : Int)))) := by simp_all <;> lia
theorem q188 {n1 : Nat}  : (-(9223372036854775808 : Int)) < (Nat.cast n1 : Int) := by lia
theorem q189 {n1 n2 : Nat} (h1 : ((Nat.cast n1 : Int) + (1 : Int)) < (Nat.cast n2 : Int)) : (Nat.cast n1 : Int) < (Nat.cast n2 : Int) := by exact Int.le_of_lt (by assumption)
theorem q190 {n1 : Nat}  : (-(9223372036854775808 : Int)) < ((Nat.cast n1 : Int) + (1 : Int)) := by lia
theorem q191 {n1 n2 : Nat} (h1 : ((Nat.cast n2 : Int) + (1 : Int)) < (Nat.cast n1 : Int)) : (-(Nat.cast n1 : Int)) ≤ (Nat.cast n2 : Int) := by simp <;> omega
theorem q194 {n1 n2 : Nat} (h1 : n1 ≤ (1000 : Nat)) (h2 : n2 = n1) (h3 : (Nat.cast n2 : Int) ≥ ((2 : Int) ^ (63 : Nat))) : False := by subst_vars; lia
theorem q195 {n1 n2 n3 : Nat} (h1 : n3 = n2) (h2 : ((Nat.cast n1 : Int) + (1 : Int)) < (Nat.cast n3 : Int)) : ((Nat.cast n1 : Int) + (1 : Int)) < (Nat.cast n2 : Int) := by subst_vars; omega
theorem q196 {n1 : Nat}  : (0 : Int) ≤ ((Nat.cast n1 : Int) + (1 : Int)) := by lia
theorem q197 {n1 n2 n3 : Nat} (h1 : n3 = n2) (h2 : ((Nat.cast n1 : Int) + (1 : Int)) < (Nat.cast n3 : Int)) : (Nat.cast n1 : Int) < (Nat.cast n2 : Int) := by simp at *; lia
theorem q199 {n1 n2 : Nat} (h1 : n1 = n2) (h2 : n2 ≤ (1000 : Nat)) : n1 ≤ (16777216 : Nat) := by subst_vars; lia
theorem q200 {n1 n2 n3 : Nat} (h1 : n3 = n2) (h2 : ((Nat.cast n1 : Int) + (1 : Int)) < (Nat.cast n3 : Int)) : (n1 + (1 : Nat)) < n2 := by subst_vars; lia
theorem q201 {n1 n2 : Nat} (h1 : ((Nat.cast n2 : Int) + (1 : Int)) < (Nat.cast n1 : Int)) : (-(Nat.cast n1 : Int)) ≤ ((Nat.cast n2 : Int) + (1 : Int)) := by lia
theorem q202 {n1 n2 n3 : Nat} (h1 : n3 = n2) (h2 : ((Nat.cast n1 : Int) + (1 : Int)) < (Nat.cast n3 : Int)) : (Nat.cast n1 : Int) ≤ (Nat.cast n2 : Int) := by simp_all <;> lia
theorem q203 {n1 n2 n3 : Nat} (h1 : n1 = n2) (h2 : ¬ (((Nat.cast n3 : Int) + (1 : Int)) < (Nat.cast n1 : Int))) (h3 : (n3 + (1 : Nat)) < n2) : False := by simp_all <;> lia
theorem q204 {n1 n2 n3 : Nat} (h1 : ((Nat.cast n1 : Int) + (1 : Int)) < (Nat.cast n2 : Int)) (h2 : n2 = n3) (h3 : n3 ≤ (1000 : Nat)) : ((Nat.cast n1 : Int) + (1 : Int)) < (9223372036854775808 : Int) := by subst_vars; lia
theorem q205 {n1 : Nat} (h1 : n1 ≤ (1 : Nat)) : (n1 + ((0 : Nat) + (1 : Nat))) ≤ (16777216 : Nat) := by exact Nat.lt_of_le_of_lt (by assumption) (by decide)
theorem q206 {n1 n2 : Nat} {z1 : Int} (h1 : n1 ≤ n2) (h2 : n2 ≤ (1000 : Nat)) (h3 : n2 = (Int.toNat z1)) : (((1 : Nat) + n1) + (1 : Nat)) ≤ (16777216 : Nat) := by lia
theorem q207 {n1 n2 n3 : Nat} (h1 : n1 ≤ (1000 : Nat)) (h2 : ((0 : Nat) < n2) ∧ (n2 ≤ n1)) (h3 : n3 = n2) (h4 : (Nat.cast n3 : Int) ≥ ((2 : Int) ^ (63 : Nat))) : False := by subst_vars; lia
theorem q208 {n1 n2 n3 : Nat} (h1 : ((0 : Nat) < n1) ∧ (n1 ≤ n2)) (h2 : n3 = n1) : (0 : Int) < (Nat.cast n1 : Int) := by simp_all; done
theorem q213 {n1 : Nat} {z1 : Int} (h1 : n1 = (Int.toNat z1)) (h2 : ((1 : Int) ≤ z1) ∧ (z1 ≤ (1000 : Int))) : n1 ≤ (1000 : Nat) := by simp_all; done
theorem q215 {n1 n2 : Nat} {z1 : Int} (h1 : n1 ≤ n2) (h2 : n2 ≤ (1000 : Nat)) (h3 : n2 = (Int.toNat z1)) : ((1 : Nat) + n1) ≤ (16777216 : Nat) := by lia
theorem q216 {z1 : Int}  : ((z1 + (1 : Int)) - (1 : Int)) = z1 := by simp <;> omega
theorem q218 {n1 n2 n3 : Nat} (h1 : n1 = n2) (h2 : ((0 : Nat) < n2) ∧ (n2 ≤ n3)) : (0 : Int) < (Nat.cast n1 : Int) := by simp_all; done
theorem q219 {n1 n2 n3 : Nat} (h1 : n1 = n2) (h2 : ((0 : Nat) < n2) ∧ (n2 ≤ n3)) : (-(Nat.cast n1 : Int)) ≤ (0 : Int) := by simp <;> omega
theorem q221 {n1 n2 n3 : Nat} (h1 : ((0 : Nat) < n3) ∧ (n3 ≤ n1)) (h2 : n1 ≤ (1000 : Nat)) (h3 : n2 = n3) : ((Int.toNat ((Nat.cast n1 : Int) - (Nat.cast n2 : Int))) + n3) ≤ (16777216 : Nat) := by simp_all <;> lia
theorem q224 {n1 n2 : Nat} {z1 : Int} (h1 : n2 ≤ (1000 : Nat)) (h2 : n1 ≤ (1000 : Nat)) (h3 : n1 = (Int.toNat z1)) : (n1 + n2) ≤ (16777216 : Nat) := by lia
theorem q226 {n1 : Nat} {z1 : Int} (h1 : z1 = ((0 : Int) + ((Nat.cast n1 : Int) * (1 : Int)))) : (Int.toNat z1) = n1 := by simp_all; done
theorem q227 {n1 n2 : Nat} (h1 : n1 ≤ (1000 : Nat)) (h2 : n2 = n1) : n1 ≤ (1000000000 : Nat) := by exact Nat.le_trans (by assumption) (by decide)
theorem q228 {n1 n2 n3 : Nat} (h1 : n1 < n2) (h2 : n3 = n2) : (Nat.cast n1 : Int) < (Nat.cast n2 : Int) := by simp <;> omega
theorem q229 {z1 z2 z3 : Int}  : (z1 + (((2 : Int) * z2) + z3)) = ((z1 + ((2 : Int) * z2)) + z3) := by lia
theorem q230 {n1 n2 : Nat}  : (Nat.cast (n1 + n2) : Int) = ((Nat.cast n2 : Int) + (Nat.cast n1 : Int)) := by simp_all <;> lia
theorem q231 {z1 : Int}  : (0 : Int) ≤ (z1 % (2 : Int)) := by exact Int.emod_nonneg _ (by decide)
theorem q232 {z1 : Int}  : ((0 : Int) ≤ (z1 % (2 : Int))) ∧ ((z1 % (2 : Int)) < (2 : Int)) := by exact ⟨Int.emod_nonneg _ (by decide), Int.emod_lt_of_pos _ (by decide)⟩
theorem q233 {n1 n2 n3 : Nat} {z1 : Int} (h1 : z1 = ((0 : Int) + ((Nat.cast n1 : Int) * (1 : Int)))) (h2 : (Int.toNat z1) = n1) (h3 : n1 < n2) (h4 : n2 ≤ (1000 : Nat)) (h5 : n3 = n2) : z1 < ((2 : Int) ^ (63 : Nat)) := by simp_all <;> lia
theorem q234 {n1 n2 n3 : Nat} {z1 : Int} (h1 : n2 = n1) (h2 : z1 = ((0 : Int) + ((Nat.cast n3 : Int) * (1 : Int)))) (h3 : n3 < n1) (h4 : (Int.toNat z1) = n3) : z1 < (Nat.cast n1 : Int) := by simp_all; done
theorem q235 {n1 n2 n3 : Nat} {z1 : Int} (h1 : n1 < n2) (h2 : n3 = n2) (h3 : (Int.toNat z1) = n1) : (min n1 n2) = n1 := by lia
theorem q236 {n1 : Nat} {z1 : Int} (h1 : z1 = ((0 : Int) + ((Nat.cast n1 : Int) * (1 : Int)))) (h2 : (Int.toNat z1) = n1) : (0 : Int) ≤ z1 := by simp_all; done
theorem q240 {n1 n2 : Nat} (h1 : (Nat.cast n1 : Int) < ((2 : Int) ^ n2)) (h2 : (Nat.cast ((2 : Nat) ^ n2) : Int) = ((2 : Int) ^ n2)) : n1 < ((2 : Nat) ^ n2) := by norm_cast at *; done
theorem q241 {z1 : Int}  : ((-((-z1) - (1 : Int))) - (1 : Int)) = z1 := by lia
theorem q242 {n1 n2 n3 : Nat} {z1 : Int} (h1 : n2 = n1) (h2 : z1 = ((0 : Int) + ((Nat.cast n3 : Int) * (1 : Int)))) (h3 : n3 < n1) : ((0 : Int) ≤ z1) ∧ (z1 < (Nat.cast n1 : Int)) := by simp_all; done
theorem q243 {n1 : Nat} {z1 : Int} (h1 : z1 = ((0 : Int) + ((Nat.cast n1 : Int) * (1 : Int)))) : z1 = (Nat.cast n1 : Int) := by simp at *; omega
theorem q244 {z1 : Int} : (((0 : Int) ≤ z1) ∧ (z1 < (4 : Int))) → ((0 : Int) ≤ (z1 / (2 : Int))) := by intros; (rename_i h; obtain ⟨h1, h2⟩ := h; obtain ⟨m, rfl⟩ := Int.eq_ofNat_of_zero_le h1; simp at *; lia)
theorem q245 {z1 : Int} (h1 : (0 : Int) ≤ z1) (h2 : (0 : Int) ≤ ((-z1) - (1 : Int))) : False := by lia
theorem q246 {n1 n2 n3 : Nat} {z1 : Int} (h1 : z1 = ((0 : Int) + ((Nat.cast n1 : Int) * (1 : Int)))) (h2 : (Int.toNat z1) = n1) (h3 : n1 < n2) (h4 : n2 ≤ (1000 : Nat)) (h5 : n3 = n2) : z1 ≤ (1000000 : Int) := by simp_all <;> lia
theorem q248 {n1 n2 n3 : Nat} {z1 z2 z3 : Int} (h1 : n1 ≤ (1000 : Nat)) (h2 : n2 = n1) (h3 : ((0 : Int) ≤ z1) ∧ (z1 < (Nat.cast n1 : Int))) (h4 : z1 = (((Nat.cast n2 : Int) - (1 : Int)) + ((Nat.cast n3 : Int) * (-(1 : Int))))) (h5 : ((0 : Int) ≤ z2) ∧ (z2 < (4 : Int))) (h6 : z3 = z2) (h7 : z3 < (0 : Int)) : False := by simp_all <;> lia
theorem q249 {n1 n2 : Nat} (h1 : n2 ≤ (1000 : Nat)) (h2 : n1 = n2) : (Nat.cast (Int.toNat (((Nat.cast n1 : Int) - (1 : Int)) - (-(1 : Int)))) : Int) = (Nat.cast n2 : Int) := by simp_all; done
theorem q251 {n1 n2 : Nat} (h1 : n1 ≤ (1000 : Nat)) (h2 : n2 = n1) : ((Nat.cast n1 : Int) - (1 : Int)) < ((2 : Int) ^ (62 : Nat)) := by lia
theorem q252 {n1 n2 n3 : Nat} {z1 z2 : Int} (h1 : ((0 : Int) ≤ z1) ∧ (z1 < (4 : Int))) (h2 : n1 ≤ (1000 : Nat)) (h3 : n2 = n1) (h4 : ((0 : Int) ≤ z2) ∧ (z2 < (Nat.cast n1 : Int))) (h5 : z2 = (((Nat.cast n2 : Int) - (1 : Int)) + ((Nat.cast n3 : Int) * (-(1 : Int))))) : (-((2 : Int) ^ (63 : Nat))) ≤ z1 := by lia
theorem q253 {n1 n2 n3 n4 : Nat} {z1 : Int} (h1 : n1 ≤ (1000 : Nat)) (h2 : n2 ≤ (1000 : Nat)) (h3 : n3 = n2) (h4 : ((0 : Int) ≤ z1) ∧ (z1 < (Nat.cast n2 : Int))) (h5 : z1 = (((Nat.cast n3 : Int) - (1 : Int)) + ((Nat.cast n4 : Int) * (-(1 : Int))))) : n1 ≤ (16777216 : Nat) := by exact Nat.le_trans (by assumption) (by decide)
theorem q254 {n1 n2 n3 : Nat} {z1 : Int} (h1 : n1 = n2) (h2 : n2 ≤ (1000 : Nat)) (h3 : ((0 : Int) ≤ z1) ∧ (z1 < (Nat.cast n2 : Int))) (h4 : z1 = (((Nat.cast n1 : Int) - (1 : Int)) + ((Nat.cast n3 : Int) * (-(1 : Int))))) : z1 < (Nat.cast n1 : Int) := by simp_all; done
theorem q255 {n1 n2 n3 : Nat} {z1 : Int} (h1 : ((0 : Int) ≤ z1) ∧ (z1 < (Nat.cast n1 : Int))) (h2 : n1 ≤ (1000 : Nat)) (h3 : n2 = n1) (h4 : z1 = (((Nat.cast n2 : Int) - (1 : Int)) + ((Nat.cast n3 : Int) * (-(1 : Int))))) (h5 : n3 < n1) : z1 < (9223372036854775808 : Int) := by lia
theorem q256 {n1 n2 : Nat} (h1 : n1 ≤ (1000 : Nat)) (h2 : n2 = n1) : (-((2 : Int) ^ (62 : Nat))) ≤ ((Nat.cast n1 : Int) - (1 : Int)) := by lia
theorem q257 {n1 n2 n3 : Nat} {z1 : Int} (h1 : n1 = n2) (h2 : n2 ≤ (1000 : Nat)) (h3 : ((0 : Int) ≤ z1) ∧ (z1 < (Nat.cast n2 : Int))) (h4 : z1 = (((Nat.cast n1 : Int) - (1 : Int)) + ((Nat.cast n3 : Int) * (-(1 : Int))))) (h5 : n3 < n2) : (-(Nat.cast n1 : Int)) ≤ z1 := by subst_vars; lia
theorem q258 {n1 n2 n3 : Nat} {z1 z2 : Int} (h1 : ((0 : Int) ≤ z1) ∧ (z1 < (4 : Int))) (h2 : n1 ≤ (1000 : Nat)) (h3 : n2 = n1) (h4 : ((0 : Int) ≤ z2) ∧ (z2 < (Nat.cast n1 : Int))) (h5 : z2 = (((Nat.cast n2 : Int) - (1 : Int)) + ((Nat.cast n3 : Int) * (-(1 : Int))))) : z1 < ((2 : Int) ^ (63 : Nat)) := by lia
theorem q259 {n1 n2 n3 : Nat} {z1 : Int} (h1 : ((0 : Int) ≤ z1) ∧ (z1 < (Nat.cast n1 : Int))) (h2 : n1 ≤ (1000 : Nat)) (h3 : n2 = n1) (h4 : z1 = (((Nat.cast n2 : Int) - (1 : Int)) + ((Nat.cast n3 : Int) * (-(1 : Int))))) : (-(9223372036854775808 : Int)) < z1 := by lia
theorem q260 {n1 n2 n3 : Nat} {z1 : Int} (h1 : n1 ≤ (1000 : Nat)) (h2 : ((0 : Int) ≤ z1) ∧ (z1 < (Nat.cast n1 : Int))) (h3 : n2 = n1) (h4 : z1 = (((Nat.cast n2 : Int) - (1 : Int)) + ((Nat.cast n3 : Int) * (-(1 : Int))))) : (Int.toNat z1) < n1 := by simp_all; done
theorem q263 {n1 n2 n3 n4 n5 : Nat} (h1 : n3 = n1) (h2 : ¬ ((Nat.cast n2 : Int) < (Nat.cast n3 : Int))) (h3 : (n2 ≤ n1) ∧ (n4 = n5)) : n1 ≤ n2 := by simp_all; done
theorem q264 {n1 n2 n3 : Nat} (h1 : n1 ≤ n2) (h2 : n3 = n2) : (Nat.cast n1 : Int) ≤ (Nat.cast n2 : Int) := by simp <;> omega
theorem q265 {n1 n2 n3 : Nat} (h1 : n3 = n2) (h2 : (Nat.cast n1 : Int) < (Nat.cast n3 : Int)) : n1 < n2 := by simp_all; done
theorem q266 {n1 n2 : Nat} (h1 : n1 ≤ (100000 : Nat)) (h2 : n2 = n1) : n1 ≤ (1000000000 : Nat) := by exact Nat.le_trans (by assumption) (by decide)
theorem q267 {n1 n2 : Nat} (h1 : n1 ≤ (100000 : Nat)) (h2 : n2 = n1) : n1 ≤ (16777216 : Nat) := by exact Nat.le_trans (by assumption) (by decide)
theorem q268 {n1 n2 : Nat} (h1 : n1 ≤ n2) : (Nat.cast n1 : Int) ≤ (Nat.cast n2 : Int) := by exact Int.ofNat_le.2 (by assumption)
theorem q269 {n1 n2 n3 : Nat} (h1 : n3 = n1) (h2 : (Nat.cast n2 : Int) < (Nat.cast n3 : Int)) : (n1 - (n2 + (1 : Nat))) < (n1 - n2) := by subst_vars; grind
theorem q270 {n1 n2 n3 : Nat} (h1 : n3 = n2) (h2 : (Nat.cast n1 : Int) < (Nat.cast n3 : Int)) : (Nat.cast n1 : Int) < (Nat.cast n2 : Int) := by subst_vars; omega
theorem q271 {n1 n2 : Nat} (h1 : n1 ≤ (100000 : Nat)) (h2 : n2 = n1) (h3 : (Nat.cast n2 : Int) ≥ ((2 : Int) ^ (63 : Nat))) : False := by subst_vars; lia
theorem q272 {n1 n2 : Nat} (h1 : n2 ≤ n1) : (Int.toNat ((Nat.cast n1 : Int) - (Nat.cast n2 : Int))) = (n1 - n2) := by simp <;> omega
theorem q273 {n1 : Nat} (h1 : n1 ≤ (100000 : Nat)) : n1 ≤ (16777216 : Nat) := by exact Nat.le_trans (by assumption) (by decide)
theorem q274 {n1 n2 n3 n4 : Nat} (h1 : n1 = n2) (h2 : (n2 + n3) = n4) (h3 : n4 ≤ (100000 : Nat)) : n1 ≤ (100000 : Nat) := by subst_vars; lia
theorem q275 {n1 n2 : Nat} (h1 : n1 = n2) (h2 : n2 ≤ (600 : Nat)) : n1 ≤ (4300 : Nat) := by subst_vars; lia
theorem q276 {n1 : Nat} : ((n1 = (48 : Nat)) ∨ ((n1 = (49 : Nat)) ∨ ((n1 = (50 : Nat)) ∨ ((n1 = (51 : Nat)) ∨ ((n1 = (52 : Nat)) ∨ ((n1 = (53 : Nat)) ∨ ((n1 = (54 : Nat)) ∨ ((n1 = (55 : Nat)) ∨ ((n1 = (56 : Nat)) ∨ (n1 = (57 : Nat))))))))))) → (((48 : Nat) ≤ n1) ∧ (n1 ≤ (57 : Nat))) := by intros; (rename_i h; rcases h with h | h | h | h | h | h | h | h | h | h <;> subst h <;> decide)
theorem q277 {n1 n2 : Nat} (h1 : n1 = n2) (h2 : n2 ≤ (600 : Nat)) : n1 ≤ (640 : Nat) := by subst_vars; lia
theorem q278 {n1 : Nat} (h1 : n1 ≤ (1000 : Nat)) : n1 ≤ (1000000000 : Nat) := by exact Nat.le_trans (by assumption) (by decide)
theorem q279 {n1 n2 : Nat} (h1 : (Nat.cast n1 : Int) < (Nat.cast n2 : Int)) : n1 < n2 := by norm_cast at *; done
theorem q280 {n1 n2 n3 n4 : Nat} (h1 : ¬ ((Nat.cast n2 : Int) < (Nat.cast n1 : Int))) (h2 : (n3 = (n4 + n2)) ∧ (n2 ≤ n1)) : n1 ≤ n2 := by simp at *; omega
theorem q281 {n1 : Nat}  : ((0 : Nat) + n1) = n1 := by exact Nat.add_comm _ _
theorem q282 {n1 n2 : Nat} (h1 : ¬ ((Nat.cast n2 : Int) < (Nat.cast n1 : Int))) : n1 ≤ n2 := by simp at *; omega
theorem q284 {n1 : Nat} (h1 : n1 ≤ (1000 : Nat)) : n1 ≤ (100000 : Nat) := by exact Nat.le_trans (by assumption) (by decide)
theorem q288 {n1 n2 n3 n4 n5 : Nat} (h1 : n1 < n3) (h2 : n3 < n4) (h3 : n4 < n5) (h4 : n5 < n2) : n1 ≠ n2 := Nat.ne_of_lt (Nat.lt_trans h1 (Nat.lt_trans h2 (Nat.lt_trans h3 h4)))
theorem q289 {z1 z2 : Int} (h1 : z1 = z2) (h2 : z1 ≠ z2) : False := by norm_cast; done
theorem q290 {z1 : Int} (h1 : ((-((10 : Int) ^ (15 : Nat))) ≤ z1) ∧ (z1 ≤ ((10 : Int) ^ (15 : Nat)))) (h2 : z1 < (0 : Int)) : (-((2 : Int) ^ (1920 : Nat))) < z1 := by lia
theorem q291 {z1 z2 : Int} (h1 : z1 < z2) : (z1 < (0 : Int)) ∨ (z1 < z2) := by simp_all; done
theorem q292 {n1 n2 n3 n4 n5 : Nat} (h1 : n2 < n3) (h2 : n3 < n4) (h3 : n4 < n5) (h4 : n5 < n1) : n1 ≠ n2 := Nat.ne_of_gt (Nat.lt_trans h1 (Nat.lt_trans h2 (Nat.lt_trans h3 h4)))
theorem q293 {z1 z2 : Int} (h1 : ((-((10 : Int) ^ (15 : Nat))) ≤ z1) ∧ (z1 ≤ ((10 : Int) ^ (15 : Nat)))) (h2 : z1 < (0 : Int)) : (z1 < (0 : Int)) ∨ (z1 < z2) := by simp_all; done
theorem q294 {z1 : Int} (h1 : ((-((10 : Int) ^ (15 : Nat))) ≤ z1) ∧ (z1 ≤ ((10 : Int) ^ (15 : Nat)))) (h2 : ¬ (z1 < (0 : Int))) : (-((2 : Int) ^ (1920 : Nat))) < z1 := by simp_all <;> lia
theorem q297 {n1 : Nat} (h1 : n1 ≤ (1000 : Nat)) : n1 ≤ (1000000 : Nat) := by exact Nat.le_trans (by assumption) (by decide)
theorem q298 {n1 n2 n3 : Nat} (h1 : n1 < n3) (h2 : n3 < n2) : n1 ≠ n2 := Nat.ne_of_lt (Nat.lt_trans h1 h2)
theorem q299 {n1 n2 n3 n4 : Nat} (h1 : n1 < n3) (h2 : n3 < n4) (h3 : n4 < n2) : n1 ≠ n2 := Nat.ne_of_lt (Nat.lt_trans h1 (Nat.lt_trans h2 h3))
theorem q300 {n1 : Nat} (h1 : n1 < (94 : Nat)) : n1 ≤ (16777216 : Nat) := by lia
theorem q301 {n1 : Nat} (h1 : n1 < (94 : Nat)) : n1 ≤ (1000000000 : Nat) := by lia
theorem q302 {n1 : Nat} (h1 : n1 ≤ (100 : Nat)) : n1 ≤ (16777216 : Nat) := by exact Nat.le_trans (by assumption) (by decide)
theorem q303 {n1 : Nat} (h1 : n1 ≤ (10 : Nat)) : n1 ≤ (1000 : Nat) := by exact Nat.le_trans (by assumption) (by decide)
theorem q305 {z1 : Int} (h1 : (1 : Int) ≤ z1) (h2 : z1 ≤ (1000 : Int)) : (z1 - (1 : Int)) < ((10 : Int) ^ (16 : Nat)) := by lia
theorem q307 {n1 : Nat} (h1 : n1 ≤ (10 : Nat)) : n1 ≤ (1000000 : Nat) := by exact Nat.le_trans (by assumption) (by decide)
theorem q308 {n1 n2 n3 : Nat} (h1 : (n2 ≤ n1) ∧ (n2 ≤ n3)) : (-((2 : Int) ^ (62 : Nat))) ≤ ((Nat.cast n1 : Int) - (Nat.cast n2 : Int)) := by lia
theorem q310 {n1 n2 n3 : Nat} (h1 : n1 ≤ (2100 : Nat)) (h2 : (n2 - n3) ≤ (1000 : Nat)) : (n1 + (n2 - n3)) ≤ (4100 : Nat) := by lia
theorem q311 {n1 : Nat} (h1 : n1 ≤ (4100 : Nat)) : n1 ≤ (16777216 : Nat) := by exact Nat.le_trans (by assumption) (by decide)
theorem q312 {n1 : Nat} (h1 : n1 ≤ (100 : Nat)) : (((14 : Nat) + n1) + (5 : Nat)) ≤ (16777216 : Nat) := by lia
theorem q313 {n1 n2 : Nat} (h1 : n1 ≤ ((0 : Nat) + ((21 : Nat) * n2))) (h2 : n2 ≤ (100 : Nat)) : n1 ≤ (2100 : Nat) := by simp_all <;> lia
theorem q314 {z1 : Int} (h1 : (1 : Int) ≤ z1) (h2 : z1 ≤ (1000 : Int)) (h3 : (1 : Int) < z1) : (-((2 : Int) ^ (1920 : Nat))) < (z1 - (1 : Int)) := by lia
theorem q315 {n1 n2 n3 : Nat} (h1 : n1 ≤ (2100 : Nat)) (h2 : n2 < n3) (h3 : n3 ≤ (10 : Nat)) : (n1 + n2) ≤ (4100 : Nat) := by lia
theorem q316 {n1 : Nat} (h1 : n1 ≤ (10 : Nat)) : n1 ≤ (1000000000 : Nat) := by exact Nat.le_trans (by assumption) (by decide)
theorem q317 {n1 : Nat} (h1 : n1 ≤ (5100 : Nat)) : n1 ≤ (16777216 : Nat) := by exact Nat.le_trans (by assumption) (by decide)
theorem q319 {n1 n2 n3 n4 : Nat} (h1 : n1 ≤ (10 : Nat)) (h2 : n3 = n2) (h3 : (n2 ≤ n1) ∧ (n2 ≤ n4)) (h4 : n4 ≤ (10 : Nat)) : (n1 - n2) ≤ (1000 : Nat) := by exact Nat.le_trans (Nat.sub_le _ _) (Nat.le_trans (by assumption) (by decide))
theorem q320 {z1 : Int} (h1 : (1 : Int) ≤ z1) (h2 : z1 ≤ (1000 : Int)) : (0 : Int) ≤ (z1 - (1 : Int)) := by simp <;> omega
theorem q321 {n1 n2 n3 : Nat} (h1 : (n1 - n2) ≤ (1000 : Nat)) (h2 : (n2 ≤ n1) ∧ (n2 ≤ n3)) : (Nat.cast (Int.toNat (((Nat.cast n1 : Int) - (Nat.cast n2 : Int)) - (0 : Int))) : Int) = (Nat.cast (n1 - n2) : Int) := by simp <;> omega
theorem q322 {z1 : Int} (h1 : (1 : Int) ≤ z1) (h2 : z1 ≤ (1000 : Int)) (h3 : (1 : Int) < z1) : (z1 - (1 : Int)) < ((2 : Int) ^ (1920 : Nat)) := by lia
theorem q323 {n1 : Nat} (h1 : n1 ≤ (100 : Nat)) : ((14 : Nat) + n1) ≤ (16777216 : Nat) := by lia
theorem q324 {n1 : Nat} (h1 : n1 ≤ (100 : Nat)) : n1 ≤ (1000000 : Nat) := by exact Nat.le_trans (by assumption) (by decide)
theorem q325 {n1 : Nat} (h1 : n1 ≤ (100 : Nat)) (h2 : (4 : Nat) ≤ n1) : (1 : Int) < (Nat.cast n1 : Int) := by norm_cast at *; lia
theorem q326 {n1 : Nat} (h1 : n1 ≤ (600 : Nat)) : n1 ≤ (1000 : Nat) := by exact Nat.le_trans (by assumption) (by decide)
theorem q327 {n1 : Nat} (h1 : n1 ≤ (100 : Nat)) (h2 : (4 : Nat) ≤ n1) : n1 ≤ (1000000000 : Nat) := by exact Nat.le_trans (by assumption) (by decide)
theorem q328 {n1 : Nat} (h1 : n1 ≤ (100 : Nat)) (h2 : (4 : Nat) ≤ n1) (h3 : (Nat.cast n1 : Int) < (4 : Int)) : False := by norm_cast at *; lia
theorem q329 {n1 : Nat} (h1 : n1 ≤ (100 : Nat)) (h2 : (4 : Nat) ≤ n1) : (2 : Int) < (Nat.cast n1 : Int) := by norm_cast at *; lia
theorem q330 {n1 : Nat} (h1 : (1 : Nat) ≤ n1) (h2 : (Nat.cast n1 : Int) < (1 : Int)) : False := by lia
theorem q331 {n1 : Nat} (h1 : n1 ≤ (100 : Nat)) : (n1 + (1 : Nat)) ≤ (101 : Nat) := by simp <;> omega
theorem q332 {n1 : Nat} (h1 : n1 ≤ (100 : Nat)) (h2 : (4 : Nat) ≤ n1) : (3 : Int) < (Nat.cast n1 : Int) := by exact Int.ofNat_lt.2 (by assumption)
theorem q333 {n1 : Nat} (h1 : n1 ≤ (100 : Nat)) : n1 ≤ (99999 : Nat) := by exact Nat.le_trans (by assumption) (by decide)
theorem q334 {n1 n2 : Nat} (h1 : (n1 + n2) ≤ (((101 : Nat) * (1000 : Nat)) + (101 : Nat))) : (n1 + n2) ≤ (1048576 : Nat) := by exact Nat.le_trans (by assumption) (by decide)
theorem q335 {n1 : Nat} (h1 : n1 ≤ (100 : Nat)) (h2 : (4 : Nat) ≤ n1) : (0 : Int) < (Nat.cast n1 : Int) := by lia
theorem q336 {n1 n2 n3 : Nat} (h1 : n1 = n2) (h2 : ¬ ((Nat.cast n3 : Int) < (Nat.cast n1 : Int))) (h3 : (Nat.cast n3 : Int) < (Nat.cast n2 : Int)) : False := by simp_all; done
theorem q337 {n1 : Nat} (h1 : n1 = (48 : Nat)) : (n1 = (48 : Nat)) ∨ ((n1 = (49 : Nat)) ∨ ((n1 = (122 : Nat)) ∨ (n1 = (120 : Nat)))) := by simp_all; done
theorem q338 {n1 n2 n3 n4 : Nat} (h1 : n1 ≤ (100000 : Nat)) (h2 : (0 : Nat) < n1) (h3 : n3 = n1) (h4 : ¬ ((Nat.cast n2 : Int) < (Nat.cast n3 : Int))) (h5 : n4 = n2) : ((0 : Nat) < n1) ∧ (n1 ≤ n2) := by simp_all; done
theorem q339 {n1 n2 n3 : Nat} (h1 : n3 = n2) (h2 : ¬ ((Nat.cast n1 : Int) < (Nat.cast n3 : Int))) : ((n1 - n2) + n2) = n1 := by simp_all; done
theorem q340 {n1 n2 : Nat} (h1 : n1 = n2) (h2 : (n2 = (48 : Nat)) ∨ ((n2 = (49 : Nat)) ∨ ((n2 = (122 : Nat)) ∨ (n2 = (120 : Nat))))) (h3 : ¬ (n2 = (49 : Nat))) : (n1 = (48 : Nat)) ∨ ((n1 = (49 : Nat)) ∨ ((n1 = (122 : Nat)) ∨ (n1 = (120 : Nat)))) := by subst_vars; omega
theorem q341 {n1 n2 : Nat} (h1 : n1 = n2) (h2 : (1 : Int) ≤ (Nat.cast n2 : Int)) (h3 : (Nat.cast n2 : Int) ≤ (1000 : Int)) : n1 ≤ (1000 : Nat) := by lia
theorem q342 {n1 n2 : Nat} (h1 : (1 : Int) ≤ (Nat.cast n1 : Int)) (h2 : (Nat.cast n1 : Int) ≤ (1000 : Int)) (h3 : n2 = n1) : n1 ≤ (1000 : Nat) := by exact Int.ofNat_le.1 (by assumption)
theorem q343 {n1 n2 : Nat} (h1 : n1 = n2) (h2 : n2 ≤ (100000 : Nat)) (h3 : (0 : Nat) < n2) : n1 ≤ (5592405 : Nat) := by subst_vars; lia
theorem q346 {n1 n2 : Nat} (h1 : (n1 + n2) ≤ (((100 : Nat) * (500 : Nat)) + (100 : Nat))) : (n1 + n2) ≤ (1048576 : Nat) := by exact Nat.le_trans (by assumption) (by decide)
theorem q347 {n1 : Nat} (h1 : n1 = (2 : Nat)) : n1 ≤ (1000000000 : Nat) := by simp_all; done
theorem q348 {n1 : Nat} (h1 : n1 = (2 : Nat)) (h2 : (Nat.cast n1 : Int) ≠ (2 : Int)) : False := by norm_cast at *; done
theorem q349 {n1 : Nat} (h1 : n1 = (2 : Nat)) : (1 : Int) < (Nat.cast n1 : Int) := by simp_all; done
theorem q350 {n1 : Nat} (h1 : n1 ≤ (100 : Nat)) (h2 : (0 : Nat) < n1) : (Nat.cast n1 : Int) ≠ (0 : Int) := by lia
theorem q351 {n1 n2 : Nat} (h1 : (n1 + n2) ≤ (100 : Nat)) : n1 ≤ (1000 : Nat) := by lia
theorem q352 {n1 : Nat} (h1 : n1 ≤ (100 : Nat)) (h2 : (0 : Nat) < n1) : n1 ≤ (1000000000 : Nat) := by exact Nat.le_trans (by assumption) (by decide)
theorem q353 {n1 : Nat} (h1 : (0 : Nat) < n1) (h2 : n1 ≤ (20 : Nat)) : (0 : Int) < (Nat.cast n1 : Int) := by simp <;> omega
theorem q354 {n1 n2 n3 n4 : Nat} (h1 : n2 < n3) (h2 : n3 < n4) (h3 : n4 < n1) : n1 ≠ n2 := Nat.ne_of_gt (Nat.lt_trans h1 (Nat.lt_trans h2 h3))
theorem q355 {n1 n2 n3 : Nat} (h1 : n2 < n3) (h2 : n3 < n1) : n1 ≠ n2 := Nat.ne_of_gt (Nat.lt_trans h1 h2)
theorem q356 {n1 : Nat} (h1 : n1 ≤ (100 : Nat)) : n1 ≤ (100000 : Nat) := by exact Nat.le_trans (by assumption) (by decide)
theorem q357 {n1 n2 n3 : Nat} (h1 : n1 < n3) (h2 : n3 < n2) : n1 ≤ n2 := Nat.le_of_lt (Nat.lt_trans h1 h2)
theorem q358 {n1 n2 n3 n4 n5 n6 : Nat} (h1 : n1 < n3) (h2 : n3 < n4) (h3 : n4 < n5) (h4 : n5 < n6) (h5 : n6 < n2) : n1 ≤ n2 := Nat.le_of_lt (Nat.lt_trans h1 (Nat.lt_trans h2 (Nat.lt_trans h3 (Nat.lt_trans h4 h5))))
theorem q359 {n1 n2 n3 n4 n5 n6 n7 n8 : Nat} (h1 : n1 < n3) (h2 : n3 < n4) (h3 : n4 < n5) (h4 : n5 < n6) (h5 : n6 < n7) (h6 : n7 < n8) (h7 : n8 < n2) : n1 ≤ n2 := Nat.le_of_lt (Nat.lt_trans h1 (Nat.lt_trans h2 (Nat.lt_trans h3 (Nat.lt_trans h4 (Nat.lt_trans h5 (Nat.lt_trans h6 h7))))))
theorem q360 {n1 n2 n3 n4 : Nat} (h1 : n1 < n3) (h2 : n3 < n4) (h3 : n4 < n2) : n1 ≤ n2 := Nat.le_of_lt (Nat.lt_trans h1 (Nat.lt_trans h2 h3))
theorem q361 {n1 : Nat}  : (-(Nat.cast n1 : Int)) ≤ (0 : Int) := by simp <;> omega
theorem q362 {n1 n2 n3 n4 : Nat} (h1 : n1 < n3) (h2 : n3 < n4) (h3 : n4 < n2) : n1 < n2 := (Nat.lt_trans h1 (Nat.lt_trans h2 h3))
theorem q363 {n1 n2 : Nat} (h1 : n1 ≤ n2) (h2 : n2 ≤ (100000 : Nat)) : n1 ≤ (100000 : Nat) := by exact Nat.le_trans (by assumption) (Nat.le_trans (by assumption) (by decide))
theorem q364 {n1 : Nat}  : n1 ≤ n1 := by simp <;> omega
theorem q365 {n1 n2 : Nat} (h1 : (n1 + n2) ≤ (1000 : Nat)) (h2 : n2 = (0 : Nat)) : (n1 + (0 : Nat)) ≤ (1000 : Nat) := by exact Nat.le_trans (Nat.le_add_right _ _) (by assumption)
theorem q366 {n1 n2 n3 : Nat} (h1 : (n1 + n3) ≤ (1000 : Nat)) (h2 : n3 = (n2 + (1 : Nat))) : (n1 + n2) ≤ (1000 : Nat) := by subst_vars; lia
theorem q367 {n1 n2 : Nat} (h1 : (n1 + (1 : Nat)) ≤ n2) (h2 : n2 ≤ (100000 : Nat)) : (n1 + (1 : Nat)) ≤ (1000000000 : Nat) := by exact Nat.lt_of_lt_of_le (by assumption) (Nat.le_trans (by assumption) (by decide))
theorem q368 {n1 n2 n3 n4 n5 n6 : Nat} (h1 : n2 < n3) (h2 : n3 < n4) (h3 : n4 < n5) (h4 : n5 < n6) (h5 : n6 < n1) : n1 ≠ n2 := Nat.ne_of_gt (Nat.lt_trans h1 (Nat.lt_trans h2 (Nat.lt_trans h3 (Nat.lt_trans h4 h5))))
theorem q369 {n1 n2 : Nat} (h1 : (n1 + (1 : Nat)) ≤ n2) (h2 : n2 ≤ (100000 : Nat)) : (n1 + (1 : Nat)) ≤ (16777216 : Nat) := by exact Nat.lt_of_lt_of_le (by assumption) (Nat.le_trans (by assumption) (by decide))
theorem q370 {n1 n2 : Nat} (h1 : (n1 + (1 : Nat)) ≤ n2) (h2 : n2 ≤ (100000 : Nat)) : n1 ≤ (100000 : Nat) := by lia
theorem q371 {n1 : Nat} {z1 : Int} (h1 : z1 ≤ (Nat.cast n1 : Int)) (h2 : (Nat.cast n1 : Int) < z1) : False := by lia
theorem q372 {n1 : Nat} (h1 : n1 ≤ (600 : Nat)) : (n1 + (1 : Nat)) ≤ (1000000000 : Nat) := by exact Nat.lt_of_le_of_lt (by assumption) (by decide)
theorem q373 {n1 n2 : Nat} (h1 : (n1 + n2) ≤ (1000 : Nat)) : n1 ≤ (1000 : Nat) := by exact Nat.le_trans (Nat.le_add_right _ _) (by assumption)
theorem q374 {n1 n2 n3 : Nat} (h1 : (n1 + n3) ≤ (1000 : Nat)) (h2 : n3 = (n2 + (1 : Nat))) : ((n1 + (1 : Nat)) + n2) ≤ (1000 : Nat) := by subst_vars; lia
theorem q375 {n1 : Nat} (h1 : n1 ≤ (600 : Nat)) : (n1 + (1 : Nat)) ≤ (16777216 : Nat) := by exact Nat.lt_of_le_of_lt (by assumption) (by decide)
theorem q377 {n1 : Nat} (h1 : n1 ≤ (1000 : Nat)) : ((11 : Nat) + n1) ≤ (16777216 : Nat) := by lia
theorem q378 {n1 : Nat} (h1 : n1 ≤ (1000 : Nat)) : (((11 : Nat) + n1) + (5 : Nat)) ≤ (16777216 : Nat) := by lia
theorem q379 {n1 n2 : Nat} (h1 : (n1 + n2) ≤ (((300 : Nat) * (1200 : Nat)) + (300 : Nat))) : (n1 + n2) ≤ (1048576 : Nat) := by exact Nat.le_trans (by assumption) (by decide)
theorem q381 {n1 n2 n3 n4 : Nat} (h1 : n1 ≤ (n2 + ((2 : Nat) * n3))) (h2 : n3 ≤ (20 : Nat)) (h3 : n2 ≤ (((21 : Nat) * n4) + (12 : Nat))) (h4 : n4 ≤ (10 : Nat)) : n1 ≤ (300 : Nat) := by lia
theorem q382 {n1 : Nat} (h1 : n1 ≤ (1000 : Nat)) : (n1 + (1 : Nat)) ≤ (16777216 : Nat) := by exact Nat.lt_of_le_of_lt (by assumption) (by decide)
theorem q383 {z1 z2 : Int} (h1 : (0 : Int) ≤ z1) (h2 : (0 : Int) ≤ z2) : ((0 : Int) ≤ z1) ∧ ((0 : Int) ≤ z2) := by norm_cast; done
theorem q384 {n1 n2 n3 : Nat} (h1 : n1 ≤ (((21 : Nat) * n2) + (10 : Nat))) (h2 : n2 ≤ (10 : Nat)) (h3 : n3 = n1) : (n1 + (1 : Nat)) ≤ (1000 : Nat) := by lia
theorem q385 {n1 n2 n3 n4 : Nat} (h1 : (n1 + n2) = (n3 + n4)) (h2 : (n3 + n4) ≤ (((300 : Nat) * (1200 : Nat)) + (300 : Nat))) : (n1 + n2) ≤ (16777216 : Nat) := by lia
theorem q386 {z1 : Int} (h1 : (1 : Int) ≤ z1) (h2 : z1 ≤ (1000 : Int)) : ((1 : Int) ≤ z1) ∧ (z1 ≤ (1000 : Int)) := by simp_all; done
theorem q387 {n1 n2 n3 : Nat}  : ((n1 + (1 : Nat)) + (n2 + n3)) = ((n1 + n2) + (n3 + (1 : Nat))) := by lia
theorem q388 {n1 n2 n3 n4 n5 n6 n7 n8 : Nat} (h1 : n2 < n3) (h2 : n3 < n4) (h3 : n4 < n5) (h4 : n5 < n6) (h5 : n6 < n7) (h6 : n7 < n8) (h7 : n8 < n1) : n1 ≠ n2 := Nat.ne_of_gt (Nat.lt_trans h1 (Nat.lt_trans h2 (Nat.lt_trans h3 (Nat.lt_trans h4 (Nat.lt_trans h5 (Nat.lt_trans h6 h7))))))
theorem q389 {n1 n2 n3 n4 n5 : Nat} (h1 : n1 < n3) (h2 : n3 < n4) (h3 : n4 < n5) (h4 : n5 < n2) : n1 ≤ n2 := Nat.le_of_lt (Nat.lt_trans h1 (Nat.lt_trans h2 (Nat.lt_trans h3 h4)))
theorem q390 {n1 n2 n3 n4 n5 n6 n7 : Nat} (h1 : n1 < n3) (h2 : n3 < n4) (h3 : n4 < n5) (h4 : n5 < n6) (h5 : n6 < n7) (h6 : n7 < n2) : n1 ≤ n2 := Nat.le_of_lt (Nat.lt_trans h1 (Nat.lt_trans h2 (Nat.lt_trans h3 (Nat.lt_trans h4 (Nat.lt_trans h5 h6)))))
theorem q391 {n1 : Nat} (h1 : n1 ≤ (1000 : Nat)) : ((0 : Nat) + n1) ≤ (1000 : Nat) := by simp <;> omega
theorem q392 {z1 : Int} (h1 : (0 : Int) ≤ z1) : (0 : Int) ≤ (z1 + (1 : Int)) := by lia
theorem q393 {n1 n2 : Nat} {z1 : Int} (h1 : n2 = n1) (h2 : z1 < (Nat.cast n2 : Int)) : (z1 + (1 : Int)) ≤ (Nat.cast n1 : Int) := by subst_vars; lia
theorem q394 {n1 n2 : Nat} {z1 : Int} (h1 : z1 < (Nat.cast n1 : Int)) (h2 : n1 = n2) (h3 : n2 ≤ (500 : Nat)) : z1 < ((2 : Int) ^ (63 : Nat)) := by simp_all <;> lia
theorem q395 {n1 n2 : Nat} (h1 : n1 = n2) (h2 : n2 ≤ (500 : Nat)) : n1 ≤ (1000000000 : Nat) := by subst_vars; lia
theorem q396 {n1 n2 : Nat} {z1 : Int} (h1 : n2 = n1) (h2 : z1 < (Nat.cast n2 : Int)) : z1 < (Nat.cast n1 : Int) := by subst_vars; omega
theorem q397 {z1 : Int} (h1 : (0 : Int) < z1) (h2 : z1 ≤ (1000 : Int)) : z1 ≠ (0 : Int) := by lia
theorem q399 {n1 : Nat} (h1 : ((1 : Nat) ≤ n1) ∧ (n1 ≤ (40 : Nat))) : (Nat.cast n1 : Int) < ((2 : Int) ^ (62 : Nat)) := by lia
theorem q401 {n1 n2 : Nat} (h1 : n1 < n2) (h2 : ((1 : Nat) ≤ n2) ∧ (n2 ≤ (40 : Nat))) : n1 ≤ (40 : Nat) := by lia
theorem q402 {n1 : Nat} (h1 : ((1 : Nat) ≤ n1) ∧ (n1 ≤ (40 : Nat))) : (Nat.cast (Int.toNat ((Nat.cast n1 : Int) - (0 : Int))) : Int) = (Nat.cast n1 : Int) := by rfl
theorem q403 {n1 : Nat} {z1 z2 : Int} (h1 : z1 < ((2 : Int) ^ n1)) (h2 : ((2 : Int) ^ n1) ≤ (1099511627776 : Int)) (h3 : z2 < ((2 : Int) ^ n1)) (h4 : (0 : Int) ≤ z2) (h5 : z2 < (1099511627776 : Int)) : z1 < (1099511627776 : Int) := by lia
theorem q404 {n1 : Nat} {z1 z2 : Int} (h1 : ((0 : Int) ≤ z1) ∧ (z1 < ((2 : Int) ^ n1))) (h2 : ((0 : Int) ≤ z2) ∧ (z2 < ((2 : Int) ^ n1))) : (((0 : Int) ≤ (((2 : Int) * z1) + (0 : Int))) ∧ ((((2 : Int) * z1) + (0 : Int)) < (((2 : Int) ^ n1) * (2 : Int)))) ∧ (((0 : Int) ≤ (((2 : Int) * z2) + (1 : Int))) ∧ ((((2 : Int) * z2) + (1 : Int)) < (((2 : Int) ^ n1) * (2 : Int)))) := by grind
theorem q406 {n1 : Nat} {z1 z2 : Int} (h1 : ((0 : Int) ≤ z1) ∧ (z1 < ((2 : Int) ^ n1))) (h2 : ((0 : Int) ≤ z2) ∧ (z2 < ((2 : Int) ^ n1))) : (((0 : Int) ≤ (((2 : Int) * z1) + (0 : Int))) ∧ ((((2 : Int) * z1) + (0 : Int)) < (((2 : Int) ^ n1) * (2 : Int)))) ∧ (((0 : Int) ≤ (((2 : Int) * z2) + (0 : Int))) ∧ ((((2 : Int) * z2) + (0 : Int)) < (((2 : Int) ^ n1) * (2 : Int)))) := by grind
theorem q407 {n1 : Nat} {z1 z2 : Int} (h1 : ((0 : Int) ≤ z1) ∧ (z1 < ((2 : Int) ^ n1))) (h2 : ((0 : Int) ≤ z2) ∧ (z2 < ((2 : Int) ^ n1))) : (((0 : Int) ≤ (((2 : Int) * z1) + (1 : Int))) ∧ ((((2 : Int) * z1) + (1 : Int)) < (((2 : Int) ^ n1) * (2 : Int)))) ∧ (((0 : Int) ≤ (((2 : Int) * z2) + (0 : Int))) ∧ ((((2 : Int) * z2) + (0 : Int)) < (((2 : Int) ^ n1) * (2 : Int)))) := by grind
theorem q408 {n1 n2 n3 n4 n5 n6 n7 n8 n9 n10 n11 n12 : Nat} {P1 : Prop} (h1 : n1 < n3) (h2 : (n4 < n2) ∧ ((n5 < n2) ∧ ((n6 < n2) ∧ ((n7 < n2) ∧ ((n8 < n2) ∧ ((n9 < n2) ∧ ((n10 < n2) ∧ ((n11 < n2) ∧ ((n12 < n2) ∧ ((n3 < n2) ∧ P1)))))))))) : n1 < n2 := (Nat.lt_trans h1 h2.2.2.2.2.2.2.2.2.2.1)
theorem q409 {n1 n2 n3 n4 n5 n6 n7 n8 n9 : Nat} {P1 : Prop} (h1 : n1 < n3) (h2 : (n4 < n2) ∧ ((n5 < n2) ∧ ((n6 < n2) ∧ ((n7 < n2) ∧ ((n8 < n2) ∧ ((n9 < n2) ∧ ((n3 < n2) ∧ P1))))))) : n1 < n2 := (Nat.lt_trans h1 h2.2.2.2.2.2.2.1)
theorem q410 {n1 n2 n3 n4 n5 n6 : Nat} {P1 : Prop} (h1 : n1 < n3) (h2 : (n4 < n2) ∧ ((n5 < n2) ∧ ((n6 < n2) ∧ ((n3 < n2) ∧ P1)))) : n1 < n2 := (Nat.lt_trans h1 h2.2.2.2.1)
theorem q412 {n1 : Nat} (h1 : n1 ≤ (40 : Nat)) : (-((2 : Int) ^ (63 : Nat))) ≤ ((Nat.cast n1 : Int) + (1 : Int)) := by lia
theorem q413 {n1 n2 n3 n4 n5 n6 n7 n8 n9 n10 n11 n12 n13 : Nat} {P1 : Prop} (h1 : n1 < n3) (h2 : (n4 < n2) ∧ ((n5 < n2) ∧ ((n6 < n2) ∧ ((n7 < n2) ∧ ((n8 < n2) ∧ ((n9 < n2) ∧ ((n10 < n2) ∧ ((n11 < n2) ∧ ((n12 < n2) ∧ ((n13 < n2) ∧ ((n3 < n2) ∧ P1))))))))))) : n1 < n2 := (Nat.lt_trans h1 h2.2.2.2.2.2.2.2.2.2.2.1)
theorem q414 {n1 n2 n3 n4 : Nat} {P1 : Prop} (h1 : n1 < n3) (h2 : (n4 < n2) ∧ ((n3 < n2) ∧ P1)) : n1 < n2 := (Nat.lt_trans h1 h2.2.1)
theorem q415 {n1 n2 n3 n4 n5 n6 n7 n8 n9 n10 n11 : Nat} {P1 : Prop} (h1 : n1 < n3) (h2 : (n4 < n2) ∧ ((n5 < n2) ∧ ((n6 < n2) ∧ ((n7 < n2) ∧ ((n8 < n2) ∧ ((n9 < n2) ∧ ((n10 < n2) ∧ ((n11 < n2) ∧ ((n3 < n2) ∧ P1))))))))) : n1 < n2 := (Nat.lt_trans h1 h2.2.2.2.2.2.2.2.2.1)
theorem q416 {n1 n2 n3 n4 n5 n6 n7 n8 n9 n10 : Nat} {P1 : Prop} (h1 : n1 < n3) (h2 : (n4 < n2) ∧ ((n5 < n2) ∧ ((n6 < n2) ∧ ((n7 < n2) ∧ ((n8 < n2) ∧ ((n9 < n2) ∧ ((n10 < n2) ∧ ((n3 < n2) ∧ P1)))))))) : n1 < n2 := (Nat.lt_trans h1 h2.2.2.2.2.2.2.2.1)
theorem q417 {n1 : Nat}  : (Int.toNat ((Nat.cast n1 : Int) + (1 : Int))) = (n1 + (1 : Nat)) := by rfl
theorem q418 {n1 n2 n3 : Nat} {P1 : Prop} (h1 : n1 < n3) (h2 : (n3 < n2) ∧ P1) : n1 < n2 := (Nat.lt_trans h1 h2.1)
theorem q419 {n1 n2 n3 n4 n5 : Nat} {P1 : Prop} (h1 : n1 < n3) (h2 : (n4 < n2) ∧ ((n5 < n2) ∧ ((n3 < n2) ∧ P1))) : n1 < n2 := (Nat.lt_trans h1 h2.2.2.1)
theorem q420 {n1 n2 n3 n4 n5 n6 n7 n8 : Nat} {P1 : Prop} (h1 : n1 < n3) (h2 : (n4 < n2) ∧ ((n5 < n2) ∧ ((n6 < n2) ∧ ((n7 < n2) ∧ ((n8 < n2) ∧ ((n3 < n2) ∧ P1)))))) : n1 < n2 := (Nat.lt_trans h1 h2.2.2.2.2.2.1)
theorem q421 {n1 n2 n3 n4 n5 n6 n7 : Nat} {P1 : Prop} (h1 : n1 < n3) (h2 : (n4 < n2) ∧ ((n5 < n2) ∧ ((n6 < n2) ∧ ((n7 < n2) ∧ ((n3 < n2) ∧ P1))))) : n1 < n2 := (Nat.lt_trans h1 h2.2.2.2.2.1)
theorem q423 {n1 : Nat} (h1 : n1 ≤ (40 : Nat)) : ((Nat.cast n1 : Int) + (1 : Int)) ≤ (Nat.cast (1048576 : Nat) : Int) := by exact Int.lt_of_le_of_lt (Int.ofNat_le.2 (by assumption)) (by decide)
theorem q424 {n1 n2 n3 n4 n5 n6 n7 n8 n9 n10 n11 n12 n13 n14 : Nat} {P1 : Prop} (h1 : n1 < n3) (h2 : (n4 < n2) ∧ ((n5 < n2) ∧ ((n6 < n2) ∧ ((n7 < n2) ∧ ((n8 < n2) ∧ ((n9 < n2) ∧ ((n10 < n2) ∧ ((n11 < n2) ∧ ((n12 < n2) ∧ ((n13 < n2) ∧ ((n14 < n2) ∧ ((n3 < n2) ∧ P1)))))))))))) : n1 < n2 := (Nat.lt_trans h1 h2.2.2.2.2.2.2.2.2.2.2.2.1)
theorem q425 {n1 n2 n3 : Nat} (h1 : n1 ≤ (460 : Nat)) (h2 : n1 = n2) (h3 : n3 = (n1 + (1 : Nat))) : n1 ≤ (16777216 : Nat) := by exact Nat.le_trans (by assumption) (by decide)
theorem q427 {n1 : Nat} (h1 : n1 ≤ (400 : Nat)) : n1 ≤ (500 : Nat) := by exact Nat.le_trans (by assumption) (by decide)
theorem q428 {n1 n2 n3 : Nat} (h1 : n2 = n1) (h2 : n2 ≤ (460 : Nat)) (h3 : n3 = (n2 + (1 : Nat))) : (n1 + (1 : Nat)) < ((2 : Nat) ^ (62 : Nat)) := by subst_vars; lia
theorem q431 {n1 n2 : Nat} (h1 : n1 ≤ ((400 : Nat) + (60 : Nat))) (h2 : n2 = n1) : n1 < ((2 : Nat) ^ (62 : Nat)) := by exact Nat.lt_of_le_of_lt (by assumption) (by decide)
theorem q432 {n1 n2 : Nat} (h1 : n1 = n2) (h2 : n2 ≤ ((400 : Nat) + (60 : Nat))) : n1 ≤ (460 : Nat) := by subst_vars; omega
theorem q433 {n1 n2 : Nat} (h1 : n2 = n1) : (n1 + (1 : Nat)) = (n2 + (1 : Nat)) := by simp_all; done
theorem q434 {n1 n2 : Nat} (h1 : n1 ≤ ((400 : Nat) + (60 : Nat))) (h2 : (400 : Int) < (Nat.cast n1 : Int)) (h3 : n2 = n1) : n1 ≤ (500 : Nat) := by exact Nat.le_trans (by assumption) (by decide)
theorem q435  : (Nat.cast (Int.toNat ((60 : Int) - (0 : Int))) : Int) = (Nat.cast (60 : Nat) : Int) := by rfl
theorem q436 {n1 n2 : Nat} (h1 : n1 ≤ ((400 : Nat) + (60 : Nat))) (h2 : ¬ ((400 : Int) < (Nat.cast n1 : Int))) (h3 : n2 = n1) : n1 ≤ (400 : Nat) := by simp_all <;> lia
theorem q437 {n1 : Nat} (h1 : n1 ≤ (63 : Nat)) : n1 ≤ (1000 : Nat) := by exact Nat.le_trans (by assumption) (by decide)
theorem q438 {z1 : Int} (h1 : z1 < (0 : Int)) : (0 : Int) ≤ (-z1) := by lia
theorem q439 {z1 : Int} (h1 : ¬ (z1 < (0 : Int))) : (0 : Int) ≤ z1 := by simp at *; omega
theorem q440 {n1 n2 n3 : Nat} (h1 : n1 = (n2 + (1 : Nat))) (h2 : n2 ≤ (460 : Nat)) (h3 : n2 = n3) (h4 : (400 : Int) < (Nat.cast (n3 + (1 : Nat)) : Int)) : n1 ≤ (500 : Nat) := by simp_all <;> lia
theorem q441 {z1 : Int} (h1 : (0 : Int) ≤ z1) (h2 : z1 ≤ (5 : Int)) (h3 : z1 ≠ (0 : Int)) (h4 : z1 ≠ (1 : Int)) (h5 : z1 ≠ (2 : Int)) (h6 : z1 ≠ (3 : Int)) (h7 : z1 ≠ (4 : Int)) : z1 = (5 : Int) := by lia
theorem q443 {z1 : Int} (h1 : z1 ≠ z1) : False := by norm_cast; done
theorem q444 {z1 : Int}  : (z1 + (1 : Int)) ≠ z1 := by lia
theorem q445 {z1 : Int} (h1 : (0 : Int) ≤ z1) (h2 : z1 ≤ ((10 : Int) ^ (15 : Nat))) : ((-((10 : Int) ^ (15 : Nat))) ≤ z1) ∧ (z1 ≤ ((10 : Int) ^ (15 : Nat))) := by simp_all <;> lia
theorem q446 {z1 : Int} (h1 : ((0 : Int) ≤ z1) ∧ (z1 < (2 : Int))) : (z1 = (0 : Int)) ∨ (z1 = (1 : Int)) := by lia
theorem q447 {z1 : Int} (h1 : ((0 : Int) ≤ z1) ∧ (z1 < (2 : Int))) : z1 < (2 : Int) := by simp_all; done
theorem q448 {z1 : Int} (h1 : ((0 : Int) ≤ z1) ∧ (z1 < (2 : Int))) : (0 : Int) ≤ z1 := by simp_all; done
theorem q450 {n1 n2 n3 n4 n5 : Nat} (h1 : n1 = n2) (h2 : n2 ≤ (4 : Nat)) (h3 : n2 = n3) (h4 : n4 = n2) (h5 : n5 = n2) : n1 < (94 : Nat) := by lia
theorem q451 {n1 n2 n3 n4 n5 n6 n7 n8 n9 n10 : Nat} (h1 : (n3 < n2) ∧ ((n4 < n2) ∧ ((n5 < n2) ∧ ((n6 < n2) ∧ ((n7 < n2) ∧ ((n8 < n2) ∧ ((n9 < n2) ∧ ((n10 < n2) ∧ ((n1 + (1 : Nat)) < n2))))))))) : (n1 + (1 : Nat)) ≠ n2 := Nat.ne_of_lt h1.2.2.2.2.2.2.2.2
theorem q452 {n1 : Nat} (h1 : n1 ≤ (5 : Nat)) : (Nat.cast (Int.toNat ((Nat.cast n1 : Int) - (0 : Int))) : Int) = (Nat.cast n1 : Int) := by rfl
theorem q453 {n1 n2 n3 n4 n5 : Nat} (h1 : n1 = n2) (h2 : n2 ≤ (4 : Nat)) (h3 : n2 = n3) (h4 : n4 = n2) (h5 : n5 = n2) : n1 ≤ (1000 : Nat) := by lia
theorem q454 {n1 n2 n3 n4 n5 : Nat} (h1 : n1 = n2) (h2 : n2 ≤ (4 : Nat)) (h3 : n2 = n3) (h4 : n4 = n2) (h5 : n5 = n2) : n1 ≤ (16777216 : Nat) := by lia
theorem q455 {n1 : Nat} {z1 : Int} (h1 : n1 ≤ (5 : Nat)) (h2 : ((1 : Int) + z1) = (Nat.cast n1 : Int)) (h3 : (0 : Int) ≤ z1) : (1 : Nat) ≤ n1 := by lia
theorem q456 {n1 n2 n3 : Nat} (h1 : n1 = n2) (h2 : n2 < n3) (h3 : n3 ≤ (5 : Nat)) : n1 < (94 : Nat) := by subst_vars; lia
theorem q457 {n1 n2 n3 n4 n5 n6 : Nat} (h1 : n1 = n2) (h2 : n2 < n3) (h3 : n3 ≤ (5 : Nat)) (h4 : n4 = n1) (h5 : n5 = n1) (h6 : n6 = n1) : n1 ≤ (4 : Nat) := by simp_all <;> lia
theorem q458 {n1 n2 n3 n4 n5 n6 n7 : Nat} (h1 : (n2 + (1 : Nat)) < n3) (h2 : n3 < n4) (h3 : n4 < n5) (h4 : n5 < n6) (h5 : n6 < n7) (h6 : n7 < n1) : n1 ≠ (n2 + (1 : Nat)) := Nat.ne_of_gt (Nat.lt_trans h1 (Nat.lt_trans h2 (Nat.lt_trans h3 (Nat.lt_trans h4 (Nat.lt_trans h5 h6)))))
theorem q459 {n1 n2 n3 n4 n5 n6 n7 n8 n9 : Nat} (h1 : (n2 + (1 : Nat)) < n3) (h2 : n3 < n4) (h3 : n4 < n5) (h4 : n5 < n6) (h5 : n6 < n7) (h6 : n7 < n8) (h7 : n8 < n9) (h8 : n9 < n1) : n1 ≠ (n2 + (1 : Nat)) := Nat.ne_of_gt (Nat.lt_trans h1 (Nat.lt_trans h2 (Nat.lt_trans h3 (Nat.lt_trans h4 (Nat.lt_trans h5 (Nat.lt_trans h6 (Nat.lt_trans h7 h8)))))))
theorem q460 {n1 n2 n3 n4 : Nat} (h1 : n1 = n2) (h2 : (1 : Nat) ≤ n2) (h3 : n2 ≤ (5 : Nat)) (h4 : n3 = n2) (h5 : n4 = n2) : n1 ≤ (1000000000 : Nat) := by simp_all <;> lia
theorem q461 {n1 n2 n3 n4 : Nat} (h1 : (1 : Nat) ≤ n1) (h2 : n1 ≤ (5 : Nat)) (h3 : n2 = n1) (h4 : n3 = n1) (h5 : n4 = n1) : (Nat.cast (Int.toNat ((Nat.cast n1 : Int) - (0 : Int))) : Int) = (Nat.cast n1 : Int) := by rfl
theorem q462 {n1 n2 n3 n4 : Nat} (h1 : n1 = n2) (h2 : (1 : Nat) ≤ n2) (h3 : n2 ≤ (5 : Nat)) (h4 : n3 = n2) (h5 : n4 = n2) : n1 ≤ (1000000 : Nat) := by simp_all <;> lia
theorem q463 {n1 : Nat}  : (0 : Int) ≤ ((0 : Int) + (Nat.cast n1 : Int)) := by lia
theorem q465 {n1 n2 n3 n4 n5 n6 n7 n8 : Nat} (h1 : (n2 + (1 : Nat)) < n3) (h2 : n3 < n4) (h3 : n4 < n5) (h4 : n5 < n6) (h5 : n6 < n7) (h6 : n7 < n8) (h7 : n8 < n1) : n1 ≠ (n2 + (1 : Nat)) := Nat.ne_of_gt (Nat.lt_trans h1 (Nat.lt_trans h2 (Nat.lt_trans h3 (Nat.lt_trans h4 (Nat.lt_trans h5 (Nat.lt_trans h6 h7))))))
theorem q466 {n1 n2 n3 n4 n5 : Nat} (h1 : n2 = n3) (h2 : n1 < n3) (h3 : n4 = n3) (h4 : n5 = n3) : ((0 : Int) ≤ ((0 : Int) + (Nat.cast n1 : Int))) ∧ (((0 : Int) + (Nat.cast n1 : Int)) < (Nat.cast n2 : Int)) := by simp_all; done
theorem q467 {n1 n2 n3 n4 n5 n6 : Nat} (h1 : (n2 + (1 : Nat)) < n3) (h2 : n3 < n4) (h3 : n4 < n5) (h4 : n5 < n6) (h5 : n6 < n1) : n1 ≠ (n2 + (1 : Nat)) := Nat.ne_of_gt (Nat.lt_trans h1 (Nat.lt_trans h2 (Nat.lt_trans h3 (Nat.lt_trans h4 h5))))
theorem q468 {n1 n2 n3 n4 n5 n6 n7 n8 n9 n10 : Nat} (h1 : (n2 + (1 : Nat)) < n3) (h2 : n3 < n4) (h3 : n4 < n5) (h4 : n5 < n6) (h5 : n6 < n7) (h6 : n7 < n8) (h7 : n8 < n9) (h8 : n9 < n10) (h9 : n10 < n1) : n1 ≠ (n2 + (1 : Nat)) := Nat.ne_of_gt (Nat.lt_trans h1 (Nat.lt_trans h2 (Nat.lt_trans h3 (Nat.lt_trans h4 (Nat.lt_trans h5 (Nat.lt_trans h6 (Nat.lt_trans h7 (Nat.lt_trans h8 h9))))))))
theorem q469 {n1 n2 n3 n4 n5 : Nat} (h1 : n2 = n3) (h2 : n1 < n3) (h3 : n4 = n3) (h4 : n5 = n3) : ((0 : Int) + (Nat.cast n1 : Int)) < (Nat.cast n2 : Int) := by simp_all; done
theorem q470 {n1 n2 n3 n4 n5 : Nat} (h1 : n2 = n3) (h2 : n1 < n3) (h3 : n4 = n3) (h4 : n5 = n3) : n1 < n2 := by simp_all; done
theorem q471 {n1 n2 n3 n4 n5 n6 n7 n8 n9 n10 : Nat} (h1 : (n1 + (1 : Nat)) < n3) (h2 : n3 < n4) (h3 : n4 < n5) (h4 : n5 < n6) (h5 : n6 < n7) (h6 : n7 < n8) (h7 : n8 < n9) (h8 : n9 < n10) (h9 : n10 < n2) : (n1 + (1 : Nat)) ≤ n2 := Nat.le_of_lt (Nat.lt_trans h1 (Nat.lt_trans h2 (Nat.lt_trans h3 (Nat.lt_trans h4 (Nat.lt_trans h5 (Nat.lt_trans h6 (Nat.lt_trans h7 (Nat.lt_trans h8 h9))))))))
theorem q472 {n1 n2 n3 n4 n5 : Nat} (h1 : (n2 + (1 : Nat)) < n3) (h2 : n3 < n4) (h3 : n4 < n5) (h4 : n5 < n1) : n1 ≠ (n2 + (1 : Nat)) := Nat.ne_of_gt (Nat.lt_trans h1 (Nat.lt_trans h2 (Nat.lt_trans h3 h4)))
theorem q475 {n1 : Nat} {z1 : Int} (h1 : z1 = (Nat.cast n1 : Int)) (h2 : z1 < (13 : Int)) : n1 ≤ (12 : Nat) := by subst_vars; lia
theorem q476 {n1 n2 n3 : Nat} (h1 : n1 = n2) (h2 : (1 : Nat) ≤ n2) (h3 : n2 ≤ (5 : Nat)) (h4 : n3 = n2) : n1 ≤ (5 : Nat) := by simp_all; done
theorem q477 {n1 n2 : Nat} (h1 : n1 ≤ (11 : Nat)) (h2 : n2 = n1) : n1 ≤ (12 : Nat) := by exact Nat.le_trans (by assumption) (by decide)
theorem q478 {z1 z2 : Int} : (((0 : Int) ≤ z2) ∧ (z2 ≤ ((10 : Int) ^ (12 : Nat)))) → (z1 ≤ (z1 + z2)) := by intros; (rename_i h; obtain ⟨h1, h2⟩ := h; obtain ⟨m, rfl⟩ := Int.eq_ofNat_of_zero_le h1; norm_cast at *; lia)
theorem q479 {n1 n2 n3 : Nat} {z1 : Int} (h1 : z1 < (Nat.cast n1 : Int)) (h2 : (1 : Nat) ≤ n1) (h3 : n1 ≤ (5 : Nat)) (h4 : n2 = n1) (h5 : n3 = n1) : z1 ≤ (1000000000 : Int) := by lia
theorem q480 {n1 : Nat} (h1 : n1 ≤ (12 : Nat)) : n1 ≤ (1000000 : Nat) := by exact Nat.le_trans (by assumption) (by decide)
theorem q481 {n1 : Nat} (h1 : n1 ≤ (12 : Nat)) : (Nat.cast (Int.toNat ((Nat.cast n1 : Int) - (0 : Int))) : Int) = (Nat.cast n1 : Int) := by rfl
theorem q482 {n1 n2 n3 : Nat} (h1 : n1 = n2) (h2 : (1 : Nat) ≤ n2) (h3 : n2 ≤ (5 : Nat)) (h4 : n3 = n2) : n1 ≤ (1000 : Nat) := by lia
theorem q483 {n1 n2 n3 : Nat} {z1 : Int} (h1 : z1 < (Nat.cast n1 : Int)) (h2 : (1 : Nat) ≤ n1) (h3 : n1 ≤ (5 : Nat)) (h4 : n2 = n1) (h5 : n3 = n1) : (Int.toNat z1) < (60 : Nat) := by simp_all <;> lia
theorem q484 {n1 : Nat} : (((1 : Int) ≤ (Nat.cast n1 : Int)) ∧ ((Nat.cast n1 : Int) ≤ (40 : Int))) → ((Nat.cast n1 : Int) ≤ (1000 : Int)) := by intros; (rename_i h; exact Int.le_trans h.2 (by decide))
theorem q486 {n1 n2 : Nat} {z1 z2 : Int} (h1 : (0 : Int) ≤ z1) (h2 : ((0 : Int) ≤ z2) ∧ (z2 ≤ ((10 : Int) ^ (12 : Nat)))) (h3 : z1 ≤ ((Nat.cast n1 : Int) * ((10 : Int) ^ (12 : Nat)))) (h4 : n1 ≤ (11 : Nat)) (h5 : n2 = n1) : (0 : Int) ≤ (z1 + z2) := by lia
theorem q487 {n1 n2 n3 : Nat} (h1 : n1 < n2) (h2 : n2 ≤ (12 : Nat)) (h3 : n3 = n1) : n1 ≤ (11 : Nat) := by lia
theorem q488 {n1 : Nat} (h1 : ((1 : Int) ≤ (Nat.cast n1 : Int)) ∧ ((Nat.cast n1 : Int) ≤ (40 : Int))) : (1 : Int) ≤ (Nat.cast n1 : Int) := by simp_all; done
theorem q489 {n1 n2 : Nat} (h1 : n1 = n2) (h2 : n2 ≤ (11 : Nat)) : n1 ≤ (11 : Nat) := by subst_vars; omega
theorem q490 {n1 n2 n3 : Nat} (h1 : n1 = n2) (h2 : (1 : Nat) ≤ n2) (h3 : n2 ≤ (5 : Nat)) (h4 : n3 = n2) : n1 ≤ (1000000000 : Nat) := by simp_all <;> lia
theorem q491 {n1 : Nat} (h1 : n1 ≤ (12 : Nat)) : n1 ≤ (1000 : Nat) := by exact Nat.le_trans (by assumption) (by decide)
theorem q494 {z1 : Int} : (((1 : Int) ≤ z1) ∧ (z1 ≤ (40 : Int))) → ((0 : Int) ≤ z1) := by intros; (rename_i h; exact Int.le_trans (by decide) h.1)
theorem q495 {n1 : Nat} (h1 : ((1 : Int) ≤ (Nat.cast n1 : Int)) ∧ ((Nat.cast n1 : Int) ≤ (40 : Int))) : ((1 : Nat) ≤ n1) ∧ (n1 ≤ (40 : Nat)) := by norm_cast at *; done
theorem q497 {n1 : Nat} (h1 : n1 ≤ (5 : Nat)) : n1 ≤ (1000 : Nat) := by exact Nat.le_trans (by assumption) (by decide)
theorem q498 {n1 : Nat} (h1 : n1 ≤ (4 : Nat)) : n1 ≤ (1000 : Nat) := by exact Nat.le_trans (by assumption) (by decide)
theorem q499 {n1 : Nat} (h1 : n1 ≤ (90000 : Nat)) : n1 ≤ (100000 : Nat) := by exact Nat.le_trans (by assumption) (by decide)
theorem q500 {n1 : Nat} (h1 : n1 ≤ (12 : Nat)) : n1 ≤ (20 : Nat) := by exact Nat.le_trans (by assumption) (by decide)
theorem q501 {n1 : Nat} (h1 : n1 ≤ (1200 : Nat)) : (n1 - (1 : Nat)) ≤ (1000000 : Nat) := by exact Nat.le_trans (Nat.sub_le _ _) (Nat.le_trans (by assumption) (by decide))
theorem q502 {n1 n2 : Nat} (h1 : n1 ≤ (1200 : Nat)) (h2 : (2 : Nat) ≤ n1) (h3 : n2 = n1) : (1 : Int) < (Nat.cast n1 : Int) := by exact Int.ofNat_lt.2 (by assumption)
theorem q503 {n1 : Nat}  : (1 : Int) < (Nat.cast ((n1 + (1 : Nat)) + (1 : Nat)) : Int) := by norm_cast at *; lia
theorem q505 {n1 : Nat} (h1 : n1 ≤ (1200 : Nat)) : n1 ≤ (16777216 : Nat) := by exact Nat.le_trans (by assumption) (by decide)
theorem q506 {n1 n2 n3 n4 : Nat} (h1 : n1 ≤ n3) (h2 : n4 = (n2 + (n3 + (1 : Nat)))) : n1 ≤ (n2 + (n3 + (1 : Nat))) := by lia
theorem q507 {n1 n2 : Nat} (h1 : n1 = n2) (h2 : n2 ≤ (1200 : Nat)) (h3 : (2 : Nat) ≤ n2) : (1 : Int) < (Nat.cast n1 : Int) := by norm_cast at *; lia
theorem q508 {n1 n2 : Nat} (h1 : n1 = n2) (h2 : n2 ≤ (1200 : Nat)) (h3 : (2 : Nat) ≤ n2) : (-(Nat.cast n1 : Int)) ≤ (1 : Int) := by simp <;> omega
theorem q509 {n1 n2 : Nat} (h1 : n1 ≤ (1200 : Nat)) (h2 : n1 ≤ (1 : Nat)) (h3 : n2 = n1) : n1 ≤ (1000000 : Nat) := by exact Nat.le_trans (by assumption) (by decide)
theorem q510 {n1 n2 : Nat} (h1 : n1 = n2) (h2 : n2 ≤ (1200 : Nat)) (h3 : (2 : Nat) ≤ n2) : (-(Nat.cast n1 : Int)) ≤ (0 : Int) := by simp <;> omega
theorem q511 {n1 n2 : Nat} (h1 : n1 ≤ (1200 : Nat)) (h2 : (2 : Nat) ≤ n1) (h3 : n2 = n1) : n1 ≤ (1000000 : Nat) := by exact Nat.le_trans (by assumption) (by decide)
theorem q513 {n1 n2 : Nat} (h1 : n1 = n2) (h2 : n2 ≤ (1200 : Nat)) (h3 : (2 : Nat) ≤ n2) : (0 : Int) < (Nat.cast n1 : Int) := by subst_vars; lia
theorem q514 {n1 n2 : Nat} (h1 : n1 ≤ (1200 : Nat)) (h2 : n1 ≤ (1 : Nat)) (h3 : (1 : Int) < (Nat.cast n1 : Int)) (h4 : n2 = n1) : False := by norm_cast at *; lia
theorem q515 {n1 : Nat} (h1 : n1 ≤ (90000 : Nat)) : n1 ≤ (1000000 : Nat) := by exact Nat.le_trans (by assumption) (by decide)
theorem q516 {n1 n2 : Nat} (h1 : (n2 + n1) ≤ (90000 : Nat)) : n1 ≤ (1000000 : Nat) := by lia
theorem q517 {n1 n2 n3 : Nat} (h1 : n3 = (n1 + (n2 + (1 : Nat)))) : n1 ≤ (n1 + (n2 + (1 : Nat))) := by simp <;> omega
theorem q518 {n1 n2 n3 n4 : Nat} {P1 : Prop} (h1 : (n1 ≤ (n3 + (1 : Nat))) ∧ P1) (h2 : n4 = (n2 + (n3 + (1 : Nat)))) : (n1 + (1 : Nat)) ≤ ((n2 + (n3 + (1 : Nat))) + (1 : Nat)) := by simp_all <;> lia
theorem q519 {n1 n2 n3 n4 n5 n6 n7 : Nat} (h1 : n2 < n3) (h2 : n3 < n4) (h3 : n4 < n5) (h4 : n5 < n6) (h5 : n6 < n7) (h6 : n7 < n1) : n1 ≠ n2 := Nat.ne_of_gt (Nat.lt_trans h1 (Nat.lt_trans h2 (Nat.lt_trans h3 (Nat.lt_trans h4 (Nat.lt_trans h5 h6)))))
theorem q520 {n1 : Nat} (h1 : ((1 : Int) ≤ (Nat.cast n1 : Int)) ∧ ((Nat.cast n1 : Int) ≤ (40 : Int))) : (1 : Nat) ≤ n1 := by lia
theorem q521  : ((0 : Int) ≤ (0 : Int)) ∧ ((0 : Int) < (13 : Int)) := by simp <;> omega
theorem q522 {n1 : Nat} (h1 : ((1 : Int) ≤ (Nat.cast n1 : Int)) ∧ ((Nat.cast n1 : Int) ≤ (40 : Int))) : n1 ≤ (40 : Nat) := by lia
theorem q523 {z1 : Int} : (((0 : Int) ≤ z1) ∧ (z1 < (13 : Int))) → (z1 ≤ (1000000000 : Int)) := by intros; (rename_i h; exact Int.le_of_lt (Int.lt_of_lt_of_le h.2 (by decide)))
theorem q524 {z1 : Int} (h1 : (0 : Int) ≤ z1) (h2 : z1 < (2 : Int)) : (z1 = (0 : Int)) ∨ (z1 = (1 : Int)) := by lia
theorem q525 {z1 : Int} (h1 : (0 : Int) ≤ z1) (h2 : z1 < (13 : Int)) : ((0 : Int) ≤ z1) ∧ (z1 < (13 : Int)) := by norm_cast; done
theorem q526 {n1 : Nat} {z1 : Int} (h1 : ((0 : Int) ≤ z1) ∧ (z1 < (13 : Int))) (h2 : n1 = (13 : Nat)) : (Int.toNat z1) < n1 := by simp_all; done
theorem q528 {n1 n2 n3 : Nat} {z1 : Int} (h1 : n1 ≤ (90000 : Nat)) (h2 : (n2 ≤ (60 : Nat)) ∧ (((0 : Int) ≤ z1) ∧ ((z1 ≤ (1 : Int)) ∧ (n3 ≤ (60 : Nat))))) : (n1 + n2) ≤ (16777216 : Nat) := by lia
theorem q529 {n1 : Nat} (h1 : n1 ≤ (40 : Nat)) : (((1 : Nat) + (n1 + (1 : Nat))) + (2 : Nat)) ≤ (60 : Nat) := by simp_all <;> lia
theorem q530 {n1 n2 : Nat} (h1 : n1 = n2) (h2 : n2 ≤ (12 : Nat)) : n1 ≤ (1000 : Nat) := by lia
theorem q531 {n1 n2 n3 n4 n5 n6 : Nat} (h1 : n1 < n3) (h2 : n3 < n4) (h3 : n4 < n5) (h4 : n5 < n6) (h5 : n6 < n2) : n1 ≠ n2 := Nat.ne_of_lt (Nat.lt_trans h1 (Nat.lt_trans h2 (Nat.lt_trans h3 (Nat.lt_trans h4 h5))))
theorem q532 {n1 : Nat} (h1 : (1 : Nat) ≤ n1) (h2 : n1 ≤ (40 : Nat)) : ((1 : Int) ≤ (Nat.cast n1 : Int)) ∧ ((Nat.cast n1 : Int) ≤ (1000 : Int)) := by lia
theorem q533 {z1 : Int} (h1 : ¬ ((5 : Int) < z1)) (h2 : (0 : Int) ≤ z1) : z1 ≤ (5 : Int) := by simp at *; omega
theorem q534 {n1 n2 n3 n4 n5 n6 n7 : Nat} (h1 : n1 < n3) (h2 : n3 < n4) (h3 : n4 < n5) (h4 : n5 < n6) (h5 : n6 < n7) (h6 : n7 < n2) : n1 ≠ n2 := Nat.ne_of_lt (Nat.lt_trans h1 (Nat.lt_trans h2 (Nat.lt_trans h3 (Nat.lt_trans h4 (Nat.lt_trans h5 h6)))))
theorem q535 {n1 n2 : Nat} (h1 : n1 ≤ (5 : Nat)) (h2 : n2 = n1) : n1 ≤ (10 : Nat) := by exact Nat.le_trans (by assumption) (by decide)
theorem q536 {n1 n2 : Nat} (h1 : n1 ≤ (12 : Nat)) (h2 : n2 = n1) : n1 ≤ (20 : Nat) := by exact Nat.le_trans (by assumption) (by decide)
theorem q537 {n1 n2 : Nat} (h1 : n2 = n1) : n1 ≤ n2 := by simp_all; done
theorem q538 {n1 n2 : Nat} (h1 : n1 = n2) (h2 : n2 ≤ (5 : Nat)) : n1 < (94 : Nat) := by lia
theorem q540 {n1 n2 : Nat} (h1 : n1 = n2) (h2 : (1 : Nat) ≤ n2) (h3 : n2 ≤ (5 : Nat)) : n1 ≤ (5 : Nat) := by subst_vars; omega
theorem q541 {n1 n2 : Nat} (h1 : n1 = n2) (h2 : n2 ≤ (12 : Nat)) : n1 ≤ (12 : Nat) := by subst_vars; omega
theorem q542 {n1 n2 n3 n4 n5 n6 n7 n8 : Nat} (h1 : n1 < n3) (h2 : n3 < n4) (h3 : n4 < n5) (h4 : n5 < n6) (h5 : n6 < n7) (h6 : n7 < n8) (h7 : n8 < n2) : n1 ≠ n2 := Nat.ne_of_lt (Nat.lt_trans h1 (Nat.lt_trans h2 (Nat.lt_trans h3 (Nat.lt_trans h4 (Nat.lt_trans h5 (Nat.lt_trans h6 h7))))))
theorem q543 {n1 n2 : Nat} (h1 : n1 = n2) (h2 : (1 : Nat) ≤ n2) (h3 : n2 ≤ (5 : Nat)) : (1 : Nat) ≤ n1 := by subst_vars; omega
theorem q544 {n1 n2 n3 n4 n5 n6 n7 : Nat} (h1 : n3 < n1) (h2 : n2 < n4) (h3 : n4 < n5) (h4 : n5 < n6) (h5 : n6 < n7) (h6 : n7 < n3) : n1 ≠ n2 := Nat.ne_of_gt (Nat.lt_trans h2 (Nat.lt_trans h3 (Nat.lt_trans h4 (Nat.lt_trans h5 (Nat.lt_trans h6 h1)))))
theorem q545 {n1 n2 n3 n4 n5 : Nat} (h1 : n3 < n1) (h2 : n2 < n4) (h3 : n4 < n5) (h4 : n5 < n3) : n1 ≠ n2 := Nat.ne_of_gt (Nat.lt_trans h2 (Nat.lt_trans h3 (Nat.lt_trans h4 h1)))
theorem q546 {n1 n2 : Nat} {z1 : Int} (h1 : z1 ≤ ((Nat.cast n1 : Int) * ((10 : Int) ^ (12 : Nat)))) (h2 : n1 ≤ (12 : Nat)) (h3 : n2 = n1) : z1 ≤ ((10 : Int) ^ (15 : Nat)) := by lia
theorem q547 {n1 : Nat} (h1 : ¬ ((Nat.cast (63 : Nat) : Int) < (Nat.cast n1 : Int))) : n1 ≤ (63 : Nat) := by simp_all <;> lia
theorem q36 {n1 : Nat}  : (max (0 : Int) (min ((-(1 : Int)) + (Nat.cast n1 : Int)) (Nat.cast n1 : Int))) = (max (0 : Int) (min (Nat.cast (n1 - (1 : Nat)) : Int) (Nat.cast n1 : Int))) := by
  cases n1 with
  | zero => rfl
  | succ k => rw [qa1]; rfl
theorem q35 {n1 n2 : Nat} (h1 : n1 ≤ (1000000 : Nat)) (h2 : (0 : Nat) < n1) (h3 : n2 = n1) : (Int.toNat ((-(1 : Int)) + (Nat.cast n1 : Int))) = (n1 - (1 : Nat)) := by
  cases n1 with
  | zero => cases h2
  | succ k => rw [qa1]; rfl
theorem q134 {n1 n2 : Nat} (h1 : n1 ≤ (1000000 : Nat)) (h2 : n2 = (n1 + (1 : Nat))) : (Int.toNat ((-(1 : Int)) + (Nat.cast (n1 + (1 : Nat)) : Int))) = n1 := by rw [qa1]; rfl
theorem q261 {n1 n2 n3 : Nat} {z1 : Int} (h1 : n1 ≤ (1000 : Nat)) (h2 : n2 < n1) (h3 : ((0 : Int) ≤ z1) ∧ (z1 < (Nat.cast n1 : Int))) (h4 : n3 = n1) (h5 : z1 = (((Nat.cast n3 : Int) - (1 : Int)) + ((Nat.cast n2 : Int) * (-(1 : Int))))) : ((n1 - (1 : Nat)) - n2) = (Int.toNat z1) := by
  obtain ⟨k, rfl⟩ := qa3 h2; subst h4; rw [h5, qa2]; exact Nat.add_sub_cancel_left ..
theorem q262 {n1 n2 n3 : Nat} {z1 : Int} (h1 : n1 ≤ (1000 : Nat)) (h2 : n2 < n1) (h3 : n3 = n1) (h4 : z1 = (((Nat.cast n3 : Int) - (1 : Int)) + ((Nat.cast n2 : Int) * (-(1 : Int))))) (h5 : ((0 : Int) ≤ z1) ∧ (z1 < (Nat.cast n1 : Int))) : ((n1 - (1 : Nat)) - n2) < n1 := 
  Nat.lt_of_le_of_lt (Nat.sub_le ..) (Nat.sub_lt (Nat.lt_of_le_of_lt (Nat.zero_le _) h2) Nat.one_pos)
theorem q250 {n1 n2 n3 n4 : Nat} {z1 : Int} (h1 : n1 < n3) (h2 : n3 ≤ (1000 : Nat)) (h3 : n4 = n3) (h4 : z1 = (((Nat.cast n4 : Int) - (1 : Int)) + ((Nat.cast n1 : Int) * (-(1 : Int))))) : (min n1 n2) ≤ (1000 : Nat) := Nat.le_trans (Nat.min_le_left ..) (Nat.le_trans (Nat.le_of_lt h1) h2)
theorem q247 {n1 n2 n3 : Nat} {z1 : Int} (h1 : n1 ≤ (1000 : Nat)) (h2 : n2 = n1) (h3 : z1 = (((Nat.cast n2 : Int) - (1 : Int)) + ((Nat.cast n3 : Int) * (-(1 : Int))))) (h4 : n3 < n1) : ((0 : Int) ≤ z1) ∧ (z1 < (Nat.cast n1 : Int)) := by
  obtain ⟨k, rfl⟩ := qa3 h4; subst h2; rw [h3, qa2]; exact ⟨Int.natCast_nonneg _, Int.ofNat_lt.2 (Nat.lt_succ_of_le (Nat.le_add_left ..))⟩
theorem q49 {n1 n2 n3 n4 : Nat} (h1 : n2 ≤ (10 : Nat)) (h2 : n4 ≤ (10 : Nat)) : (n1 + (((n2 - n3) + (n4 - n3)) + (1 : Nat))) ≤ (n1 + (21 : Nat)) := Nat.add_le_add_left (Nat.add_le_add_right (Nat.add_le_add (Nat.le_trans (Nat.sub_le ..) h1) (Nat.le_trans (Nat.sub_le ..) h2)) 1) n1
theorem q89 {n1 : Nat} (h1 : ((48 : Nat) ≤ n1) ∧ (n1 ≤ (57 : Nat))) : (n1 = (48 : Nat)) ∨ ((n1 = (49 : Nat)) ∨ ((n1 = (50 : Nat)) ∨ ((n1 = (51 : Nat)) ∨ ((n1 = (52 : Nat)) ∨ ((n1 = (53 : Nat)) ∨ ((n1 = (54 : Nat)) ∨ ((n1 = (55 : Nat)) ∨ ((n1 = (56 : Nat)) ∨ (n1 = (57 : Nat)))))))))) := qa7 n1 (Nat.lt_succ_of_le h1.2) h1.1
theorem q81 {n1 : Nat} (h1 : ((48 : Nat) ≤ n1) ∧ (n1 ≤ (57 : Nat))) (h2 : (n1 = (32 : Nat)) ∨ ((n1 = (9 : Nat)) ∨ ((n1 = (13 : Nat)) ∨ ((n1 = (10 : Nat)) ∨ ((n1 = (11 : Nat)) ∨ (n1 = (12 : Nat))))))) : False := qa8 n1 (Nat.lt_succ_of_le h1.2) h1.1 h2
theorem q68 {n1 n2 n3 n4 : Nat} (h1 : n4 ≤ n3) : (min (n1 - n2) (n3 - n2)) ≤ n3 := Nat.le_trans (Nat.min_le_right ..) (Nat.sub_le ..)
theorem q210 {z1 : Int} (h1 : ((0 : Int) ≤ z1) ∧ (z1 < (94 : Int))) : ((Int.toNat ((33 : Int) + (z1 % (94 : Int)))) = ((33 : Nat) + (Int.toNat z1))) := by
  rw [Int.emod_eq_of_lt h1.1 h1.2]; exact Int.toNat_add (by decide) h1.1
theorem q220 {z1 : Int} (h1 : ((0 : Int) ≤ z1) ∧ (z1 < (94 : Int))) : (z1 / (94 : Int)) = (0 : Int) := Int.ediv_eq_zero_of_lt h1.1 h1.2
theorem q7 {n1 : Nat} {z1 : Int} (h1 : (Nat.cast n1 : Int) ≤ z1) : (max (0 : Int) (min z1 (Nat.cast n1 : Int))) = (Nat.cast n1 : Int) := by rw [Int.min_eq_right h1, Int.max_eq_right (Int.natCast_nonneg _)]
theorem q93 {n1 n2 : Nat} (h1 : n1 ≤ (10 : Nat)) (h2 : n2 ≤ n1) : (n1 - (n1 - n2)) = n2 := Nat.sub_sub_self h2
theorem q94 {n1 n2 n3 : Nat} (h1 : n2 ≤ (10 : Nat)) (h2 : n1 ≤ n2) : ((min n1 n2) + (min n3 (n2 - n1))) ≤ (10 : Nat) := Nat.le_trans (Nat.add_le_add (Nat.min_le_left ..) (Nat.min_le_right ..)) (Nat.le_trans (Nat.le_of_eq (Nat.add_sub_cancel' h2)) h1)
theorem q304 {n1 n2 n3 n4 n5 n6 : Nat} (h1 : n1 ≤ (2100 : Nat)) (h2 : n2 ≤ (10 : Nat)) (h3 : (n2 - n3) ≤ (1000 : Nat)) (h4 : n5 = n3) (h5 : (n3 ≤ n2) ∧ (n3 ≤ n6)) (h6 : n6 ≤ (10 : Nat)) (h7 : n4 ≤ (n6 - n3)) : ((n1 + (n2 - n3)) + n4) ≤ (5100 : Nat) := Nat.le_trans (Nat.add_le_add (Nat.add_le_add h1 h3) (Nat.le_trans h7 (Nat.le_trans (Nat.sub_le ..) h6))) (by decide)
theorem q72 {n1 n2 n3 n4 n5 n6 n7 : Nat} (h1 : (n4 - n1) = (n2 + n3)) (h2 : (0 : Nat) < n2) (h3 : n5 = (n1 + n2)) (h4 : n1 = (n6 + n7)) : (n1 + (n2 + n3)) = n4 := by
  rw [← h1]; exact Nat.add_sub_cancel' (Nat.le_of_lt (Nat.lt_of_sub_ne_zero (by rw [h1]; exact Nat.ne_of_gt (Nat.lt_of_lt_of_le h2 (Nat.le_add_right ..)))))
theorem q283 {n1 n2 : Nat} (h1 : (Nat.cast n2 : Int) < (Nat.cast n1 : Int)) : (n1 - (n2 + (1 : Nat))) < (n1 - n2) := Nat.sub_lt_sub_left (Int.ofNat_lt.1 h1) (Nat.lt_succ_self _)
theorem q187 {n1 n2 n3 : Nat} (h1 : n3 = n1) (h2 : ((Nat.cast n2 : Int) + (1 : Int)) < (Nat.cast n3 : Int)) : (n1 - (n2 + (1 : Nat))) < (n1 - n2) := by subst h1; exact Nat.sub_lt_sub_left (Nat.lt_of_succ_lt (Int.ofNat_lt.1 h2)) (Nat.lt_succ_self _)
theorem q12 {n1 : Nat} {z1 : Int} (h1 : (0 : Int) ≤ z1) (h2 : z1 ≤ (Nat.cast n1 : Int)) : n1 ≤ ((Int.toNat ((Nat.cast n1 : Int) - z1)) + (Int.toNat z1)) := by
  obtain ⟨m, rfl⟩ := Int.eq_ofNat_of_zero_le h1
  rw [Int.toNat_sub, Int.toNat_natCast]; exact Nat.sub_le_iff_le_add.1 (Nat.le_refl _)
theorem q117 {n1 n2 n3 n4 : Nat} (h1 : (n1 + (n3 + n4)) = n2) : (Nat.cast n1 : Int) = (Nat.cast (n2 - (n3 + n4)) : Int) := by rw [← h1, Nat.add_sub_cancel]
theorem q144 {n1 n2 n3 : Nat}  : n1 ≤ ((n2 + (n3 + n1)) - (n2 + n3)) := by rw [← Nat.add_assoc, Nat.add_sub_cancel_left]; exact Nat.le_refl _
theorem q137 {n1 n2 : Nat} (h1 : ¬ (n1 ≤ n2)) : n1 = ((n2 + (1 : Nat)) + (n1 - (n2 + (1 : Nat)))) := (Nat.add_sub_cancel' (Nat.lt_of_not_le h1)).symm
theorem q18 {n1 n2 n3 : Nat} (h1 : n1 ≤ n3) (h2 : n2 ≤ (n3 - n1)) : (n1 + n2) ≤ n3 := Nat.le_trans (Nat.add_le_add_left h2 n1) (Nat.le_of_eq (Nat.add_sub_cancel' h1))
theorem q75 {n1 n2 n3 : Nat} (h1 : (n1 + (1 : Nat)) ≤ n3) (h2 : n2 = (n3 - (1 : Nat))) : n1 ≤ n2 := h2 ▸ Nat.le_sub_of_add_le h1
theorem q504 {n1 n2 : Nat} (h1 : n1 ≤ ((n2 - (1 : Nat)) + (1 : Nat))) (h2 : n2 ≤ (1200 : Nat)) : n1 ≤ (1000000000 : Nat) := Nat.le_trans h1 (Nat.le_trans (Nat.add_le_add_right (Nat.le_trans (Nat.sub_le ..) h2) 1) (by decide))
theorem q512 {n1 n2 : Nat} (h1 : n1 ≤ (n2 - (1 : Nat))) (h2 : n2 ≤ (1200 : Nat)) : n1 ≤ (1200 : Nat) := Nat.le_trans h1 (Nat.le_trans (Nat.sub_le ..) h2)
theorem q2 {n1 n2 : Nat} (h1 : (n1 + (5 : Nat)) < n2) : (n1 + (1 : Nat)) < n2 := Nat.lt_of_le_of_lt (Nat.add_le_add_left (by decide) _) h1
theorem q66 {n1 n2 : Nat} (h1 : ¬ (n1 < n2)) (h2 : (n1 - n2) = (0 : Nat)) : n1 = n2 := Nat.le_antisymm (Nat.le_of_sub_eq_zero h2) (Nat.le_of_not_lt h1)
theorem q130 {n1 n2 n3 : Nat} (h1 : n3 < n2) (h2 : (Int.toNat ((0 : Int) + (Nat.cast n3 : Int))) = n3) (h3 : n1 < (min n3 n2)) : n1 < n2 := Nat.lt_of_lt_of_le h3 (Nat.min_le_right ..)
theorem q131 {n1 n2 n3 : Nat} {P1 : Prop} (h1 : (Int.toNat ((0 : Int) + (Nat.cast n1 : Int))) = n1) (h2 : n1 < n2) (h3 : n3 < (min n1 n2)) (h4 : (((33 : Nat) + n1) = ((33 : Nat) + n3)) ∧ P1) : False := Nat.ne_of_gt (Nat.lt_of_lt_of_le h3 (Nat.min_le_left ..)) (Nat.add_left_cancel h4.1)
theorem q193 {n1 n2 n3 : Nat} (h1 : ¬ ((n2 + (1 : Nat)) < n1)) : (n1 - n2) ≠ ((n3 + (1 : Nat)) + (1 : Nat)) := fun h => by
  have h2 : n1 - n2 ≤ 1 := Nat.sub_le_of_le_add (Nat.add_comm 1 n2 ▸ Nat.le_of_not_lt h1)
  rw [h] at h2; exact absurd h2 (Nat.not_succ_le_self _ ∘ fun h => Nat.le_trans (Nat.succ_le_succ (Nat.succ_le_succ (Nat.zero_le n3))) h)
theorem q104 {n1 : Nat} (h1 : n1 < (4 : Nat)) : (n1 = (0 : Nat)) ∨ ((n1 = (1 : Nat)) ∨ ((n1 = (2 : Nat)) ∨ (n1 = (3 : Nat)))) := (by decide : ∀ n : Nat, n < 4 → n = 0 ∨ n = 1 ∨ n = 2 ∨ n = 3) n1 h1
theorem q124 {n1 : Nat} (h1 : n1 < (94 : Nat)) (h2 : (((33 : Nat) + n1) = (32 : Nat)) ∨ ((((33 : Nat) + n1) = (9 : Nat)) ∨ ((((33 : Nat) + n1) = (13 : Nat)) ∨ ((((33 : Nat) + n1) = (10 : Nat)) ∨ ((((33 : Nat) + n1) = (11 : Nat)) ∨ (((33 : Nat) + n1) = (12 : Nat))))))) : False := (by decide : ∀ n : Nat, n < 94 → ¬ (33 + n = 32 ∨ 33 + n = 9 ∨ 33 + n = 13 ∨ 33 + n = 10 ∨ 33 + n = 11 ∨ 33 + n = 12)) n1 h1 h2
theorem q44 {n1 n2 n3 n4 n5 : Nat} (h1 : n2 ≤ (16 : Nat)) (h2 : n1 ≤ (100 : Nat)) (h3 : n3 ≤ (100 : Nat)) (h4 : n4 ≤ (100 : Nat)) (h5 : n5 ≤ (21 : Nat)) : ((((((((((5 : Nat) + n1) + (1 : Nat)) + n2) + (1 : Nat)) + n3) + (1 : Nat)) + n4) + n5) + (5 : Nat)) ≤ (400 : Nat) := by
  have L := @Nat.add_le_add
  exact Nat.le_trans (L (L (L (L (L (L (L (L (L (Nat.le_refl 5) h2) (Nat.le_refl 1)) h1) (Nat.le_refl 1)) h3) (Nat.le_refl 1)) h4) h5) (Nat.le_refl 5)) (by decide)
theorem q148 {n1 n2 : Nat} (h1 : n1 ≤ (1 : Nat)) (h2 : n2 ≤ (2 : Nat)) : ((max (0 : Nat) (max (n1 + (1 : Nat)) (max (n2 + (1 : Nat)) (0 : Nat)))) + (1 : Nat)) ≤ (64 : Nat) := (by decide : ∀ a, a < 2 → ∀ b, b < 3 → max 0 (max (a+1) (max (b+1) 0)) + 1 ≤ 64) n1 (Nat.lt_succ_of_le h1) n2 (Nat.lt_succ_of_le h2)
theorem q225 {z1 : Int} (h1 : ((0 : Int) ≤ z1) ∧ (z1 < (4 : Int))) : (((0 : Int) ≤ (z1 / (2 : Int))) ∧ ((z1 / (2 : Int)) < (2 : Int))) := ⟨Int.ediv_nonneg h1.1 (by decide), Int.ediv_lt_of_lt_mul (by decide) h1.2⟩
theorem q51 {n1 n2 n3 n4 : Nat} (h1 : n1 ≤ ((0 : Nat) + ((21 : Nat) * n3))) (h2 : (n2 ≤ (10 : Nat)) ∧ (n1 ≤ (n4 + ((21 : Nat) * n3)))) : (n1 + n2) ≤ (((21 : Nat) * n3) + (10 : Nat)) := Nat.add_le_add (Nat.zero_add (21 * n3) ▸ h1) h2.1
theorem q62 {n1 n2 n3 n4 n5 : Nat} (h1 : n2 ≤ n4) (h2 : n1 ≤ n5) (h3 : n5 ≤ n3) : (n1 + n2) ≤ (n3 + n4) := Nat.add_le_add (Nat.le_trans h2 h3) h1
theorem q309 {n1 n2 n3 n4 : Nat} (h1 : n1 ≤ (2100 : Nat)) (h2 : n2 < (n3 - n4)) (h3 : (n3 - n4) ≤ (1000 : Nat)) : (n1 + n2) ≤ (4100 : Nat) := Nat.le_trans (Nat.add_le_add h1 (Nat.le_trans (Nat.le_of_lt h2) h3)) (by decide)
theorem q286 {n1 n2 : Nat} (h1 : (n1 + (500 : Nat)) < n2) : (((n1 + (1 : Nat)) + (3 : Nat)) + (112 : Nat)) < n2 := Nat.lt_of_le_of_lt (Nat.add_le_add_left (by decide : 116 ≤ 500) n1) h1
theorem q285 {n1 n2 : Nat} (h1 : (n1 + (30 : Nat)) < n2) : (((n1 + (1 : Nat)) + (1 : Nat)) + (14 : Nat)) < n2 := Nat.lt_of_le_of_lt (Nat.add_le_add_left (by decide : 16 ≤ 30) n1) h1
theorem q344 {n1 n2 : Nat} (h1 : (n1 + (600 : Nat)) < n2) : (((n1 + (1 : Nat)) + (3 : Nat)) + (160 : Nat)) < n2 := Nat.lt_of_le_of_lt (Nat.add_le_add_left (by decide : 164 ≤ 600) n1) h1
theorem q345 {n1 n2 : Nat} (h1 : (n1 + (40 : Nat)) < n2) : (((n1 + (1 : Nat)) + (1 : Nat)) + (20 : Nat)) < n2 := Nat.lt_of_le_of_lt (Nat.add_le_add_left (by decide : 22 ≤ 40) n1) h1
theorem q464 {n1 n2 : Nat} (h1 : (n1 + (3000 : Nat)) < n2) (h2 : n2 = (9900 : Nat)) : (n1 + (64 : Nat)) < n2 := Nat.lt_of_le_of_lt (Nat.add_le_add_left (by decide) n1) h1
theorem q237 {z1 : Int} (h1 : ((0 : Int) ≤ z1) ∧ (z1 < (4 : Int))) : ((Int.natAbs (z1 / (2 : Int))) < ((2 : Nat) ^ (64 : Nat))) := by
  have h := q225 h1
  obtain ⟨m, e⟩ := Int.eq_ofNat_of_zero_le h.1; rw [e] at h ⊢
  exact Nat.lt_trans (Int.ofNat_lt.1 h.2) (by decide)
theorem q239 {z1 : Int} (h1 : ((0 : Int) ≤ z1) ∧ (z1 < (4 : Int))) : ((Int.natAbs (z1 % (2 : Int))) < ((2 : Nat) ^ (64 : Nat))) := by
  have h := And.intro (Int.emod_nonneg z1 (by decide : (2:Int) ≠ 0)) (Int.emod_lt_of_pos z1 (by decide : (0:Int) < 2))
  obtain ⟨m, e⟩ := Int.eq_ofNat_of_zero_le h.1; rw [e] at h ⊢
  exact Nat.lt_trans (Int.ofNat_lt.1 h.2) (by decide)
theorem q181 {z1 z2 : Int}  : ((0 : Int) ≤ ((z1 % (2 : Int)) + ((2 : Int) * (z2 % (2 : Int))))) ∧ (((z1 % (2 : Int)) + ((2 : Int) * (z2 % (2 : Int)))) < (4 : Int)) := 
  ⟨Int.add_nonneg (Int.emod_nonneg z1 (by decide)) (Int.mul_nonneg (by decide) (Int.emod_nonneg z2 (by decide))), Int.lt_of_lt_of_le (Int.add_lt_add_of_lt_of_le (Int.emod_lt_of_pos z1 (by decide)) (Int.mul_le_mul_of_nonneg_left (Int.le_of_lt_add_one (Int.emod_lt_of_pos z2 (by decide)) : z2 % 2 ≤ 1) (by decide))) (by decide)⟩
theorem q100 {n1 n2 n3 : Nat}  : (((n1 / ((2 : Nat) ^ n2)) % (2 : Nat)) + ((2 : Nat) * ((n3 / ((2 : Nat) ^ n2)) % (2 : Nat)))) < (4 : Nat) :=
  Nat.lt_of_lt_of_le (Nat.add_lt_add_of_lt_of_le (Nat.mod_lt _ (by decide)) (Nat.mul_le_mul_left 2 (Nat.le_of_lt_succ (Nat.mod_lt _ (by decide)) : _ ≤ 1))) (by decide)
theorem q101 {n1 n2 n3 : Nat}  : ((Nat.cast (((n1 / ((2 : Nat) ^ n2)) % (2 : Nat)) + ((2 : Nat) * ((n3 / ((2 : Nat) ^ n2)) % (2 : Nat)))) : Int) / (2 : Int)) = (Nat.cast ((n3 / ((2 : Nat) ^ n2)) % (2 : Nat)) : Int) :=
  congrArg Int.ofNat ((Nat.add_mul_div_left _ _ (by decide : 0 < 2)).trans (by rw [Nat.div_eq_of_lt (Nat.mod_lt _ (by decide)), Nat.zero_add]))
theorem q212 {n1 n2 n3 : Nat} (h1 : (((0 : Nat) < n3) ∧ (n3 ≤ n1))) (h2 : n2 = n3) : (Int.toNat ((Nat.cast n1 : Int) - (Nat.cast n2 : Int))) = (n1 - n3) := by subst h2; exact Int.toNat_sub ..
theorem q209 {n1 n2 n3 : Nat} (h1 : n1 ≤ (1000 : Nat)) (h2 : ((0 : Nat) < n3) ∧ (n3 ≤ n1)) (h3 : n2 = n3) : ((0 : Int) ≤ ((Nat.cast n1 : Int) - (Nat.cast n2 : Int))) ∧ (((Nat.cast n1 : Int) - (Nat.cast n2 : Int)) ≤ (1000000 : Int)) := by
  subst h3; exact ⟨Int.sub_nonneg_of_le (Int.ofNat_le.2 h2.2), Int.le_trans (Int.sub_le_self _ (Int.natCast_nonneg _)) (Int.ofNat_le.2 (Nat.le_trans h1 (by decide) : n1 ≤ 1000000))⟩
theorem q496 {n1 n2 n3 : Nat} {z1 : Int} (h1 : n1 = n2) (h2 : (1 : Nat) ≤ n2) (h3 : n2 ≤ (5 : Nat)) (h4 : z1 < (Nat.cast n2 : Int)) (h5 : n3 = n2) : (Int.toNat z1) < n1 := by
  subst h1; exact (Int.toNat_lt' h2).2 h4
theorem q178 {z1 : Int} (h1 : ((1 : Int) ≤ z1) ∧ (z1 ≤ (1000 : Int))) : ((Int.toNat z1) + (Int.toNat z1)) ≤ (1048576 : Nat) := Nat.le_trans (Nat.add_le_add (Int.toNat_le.2 h1.2) (Int.toNat_le.2 h1.2)) (by decide)
theorem q185 {n1 n2 : Nat} {z1 : Int} (h1 : n1 = n2) (h2 : n2 < (Int.toNat z1)) (h3 : ((1 : Int) ≤ z1) ∧ (z1 ≤ (1000 : Int))) : n1 ≤ (16777216 : Nat) := Nat.le_trans (h1 ▸ Nat.le_of_lt h2) (Nat.le_trans (Int.toNat_le.2 h3.2) (by decide))
theorem q58 {n1 n2 n3 : Nat} {z1 : Int} (h1 : n2 ≤ (100 : Nat)) (h2 : n1 ≤ n3) (h3 : n3 = (Int.toNat z1)) (h4 : z1 ≤ (1000 : Int)) (h5 : ¬ (z1 = (1 : Int))) : ((((1 : Nat) + n1) + (1 : Nat)) + n2) ≤ (1200 : Nat) := by
  subst h3; exact Nat.le_trans (Nat.add_le_add (Nat.add_le_add_right (Nat.add_le_add_left (Nat.le_trans h2 (Int.toNat_le.2 h4)) 1) 1) h1) (by decide)
theorem q182 {z1 : Int} (h1 : (0 : Int) ≤ z1) : (Nat.cast ((Int.toNat z1) % (2 : Nat)) : Int) = (z1 % (2 : Int)) := by obtain ⟨m, rfl⟩ := Int.eq_ofNat_of_zero_le h1; rfl
theorem q318 {n1 n2 n3 n4 n5 : Nat} (h1 : ((n2 + n3) ≤ n1) ∧ (n1 ≤ (n2 + n3))) (h2 : n3 = (3 : Nat)) (h3 : ((n4 + n5) ≤ n2) ∧ (n2 ≤ (n4 + n5))) (h4 : n5 ≤ (16 : Nat)) (h5 : n4 = (2 : Nat)) : n1 ≤ (16777216 : Nat) := Nat.le_trans h1.2 (Nat.le_trans (Nat.add_le_add (Nat.le_trans h3.2 (Nat.add_le_add (Nat.le_of_eq h5) h4)) (Nat.le_of_eq h2)) (by decide))
theorem q398 {n1 : Nat} {z1 z2 : Int} (h1 : ((0 : Int) ≤ z1) ∧ (z1 < ((2 : Int) ^ n1))) (h2 : ((0 : Int) ≤ z2) ∧ (z2 < ((2 : Int) ^ n1))) : (((0 : Int) ≤ (((2 : Int) * z1) + (1 : Int))) ∧ ((((2 : Int) * z1) + (1 : Int)) < (((2 : Int) ^ n1) * (2 : Int)))) ∧ (((0 : Int) ≤ (((2 : Int) * z2) + (1 : Int))) ∧ ((((2 : Int) * z2) + (1 : Int)) < (((2 : Int) ^ n1) * (2 : Int)))) := ⟨qb1 h1, qb1 h2⟩
theorem q238 {n1 : Nat} {z1 z2 : Int} (h1 : ((0 : Int) ≤ z1) ∧ (z1 < (2 : Int))) (h2 : ((0 : Int) ≤ z2) ∧ (z2 < ((2 : Int) ^ n1))) : ((0 : Int) ≤ (z1 + ((2 : Int) * z2))) ∧ ((z1 + ((2 : Int) * z2)) < ((2 : Int) * ((2 : Int) ^ n1))) := qb2 h1 h2
theorem q485 {n1 n2 : Nat} {z1 z2 : Int} (h1 : (0 : Int) ≤ z1) (h2 : ((0 : Int) ≤ z2) ∧ (z2 ≤ ((10 : Int) ^ (12 : Nat)))) (h3 : z1 ≤ ((Nat.cast n1 : Int) * ((10 : Int) ^ (12 : Nat)))) (h4 : n1 ≤ (11 : Nat)) (h5 : n2 = n1) : ((-((10 : Int) ^ (15 : Nat))) ≤ (z1 + z2)) ∧ ((z1 + z2) ≤ ((10 : Int) ^ (15 : Nat))) :=
  have h := qb3 h1 h2 h3 h4; ⟨Int.le_trans (by decide) h.1, Int.le_trans h.2 (by decide)⟩
theorem q493 {n1 n2 : Nat} {z1 z2 : Int} (h1 : (0 : Int) ≤ z1) (h2 : ((0 : Int) ≤ z2) ∧ (z2 ≤ ((10 : Int) ^ (12 : Nat)))) (h3 : z1 ≤ ((Nat.cast n1 : Int) * ((10 : Int) ^ (12 : Nat)))) (h4 : n1 ≤ (11 : Nat)) (h5 : n2 = n1) : (z1 + z2) ≤ ((10 : Int) ^ (15 : Nat)) := Int.le_trans (qb3 h1 h2 h3 h4).2 (by decide)
theorem q473 {n1 n2 : Nat} {z1 z2 z3 : Int} (h1 : (0 : Int) ≤ z1) (h2 : z1 ≤ ((Nat.cast n1 : Int) * ((10 : Int) ^ (12 : Nat)))) (h3 : n1 ≤ (11 : Nat)) (h4 : n2 = n1) (h5 : z2 ≤ z1) (h6 : ((z1 + z3) < (0 : Int)) ∨ ((z1 + z3) < z2)) (h7 : ((0 : Int) ≤ z3) ∧ (z3 ≤ ((10 : Int) ^ (12 : Nat)))) : False :=
  h6.elim (Int.not_lt.2 (Int.add_nonneg h1 h7.1)) (Int.not_lt.2 (Int.le_trans h5 (Int.le_add_of_nonneg_right h7.1)))
theorem q474 {n1 n2 : Nat} {z1 z2 : Int} (h1 : z1 ≤ ((Nat.cast n1 : Int) * ((10 : Int) ^ (12 : Nat)))) (h2 : ((0 : Int) ≤ z2) ∧ (z2 ≤ ((10 : Int) ^ (12 : Nat)))) (h3 : n2 = n1) : (z1 + z2) ≤ (((Nat.cast n1 : Int) * ((10 : Int) ^ (12 : Nat))) + ((10 : Int) ^ (12 : Nat))) := Int.add_le_add h1 h2.2
theorem q527 {n1 n2 n3 : Nat} {z1 : Int} (h1 : n1 ≤ (90000 : Nat)) (h2 : (n2 ≤ (60 : Nat)) ∧ (((0 : Int) ≤ z1) ∧ ((z1 ≤ (1 : Int)) ∧ (n3 ≤ (60 : Nat))))) : (n1 + n2) ≤ (100000 : Nat) := Nat.le_trans (Nat.add_le_add h1 h2.1) (by decide)
theorem q380 {n1 n2 n3 n4 : Nat} (h1 : n1 ≤ (n2 + ((2 : Nat) * n3))) (h2 : n3 ≤ (20 : Nat)) (h3 : n2 ≤ (((21 : Nat) * n4) + (12 : Nat))) (h4 : n4 ≤ (10 : Nat)) : n1 ≤ (1000 : Nat) := Nat.le_trans h1 (Nat.le_trans (Nat.add_le_add (Nat.le_trans h3 (Nat.add_le_add_right (Nat.mul_le_mul_left 21 h4) 12)) (Nat.mul_le_mul_left 2 h2)) (by decide))
theorem q376 {n1 n2 n3 n4 : Nat} (h1 : n1 ≤ n2) (h2 : n2 ≤ (((21 : Nat) * n3) + (10 : Nat))) (h3 : n3 ≤ (10 : Nat)) (h4 : n4 = n2) : (n1 + (1 : Nat)) ≤ (1000 : Nat) := Nat.le_trans (Nat.add_le_add_right (Nat.le_trans h1 (Nat.le_trans h2 (Nat.add_le_add_right (Nat.mul_le_mul_left 21 h3) 10))) 1) (by decide)
theorem q400 {n1 : Nat} {z1 : Int} (h1 : z1 < ((2 : Int) ^ n1)) (h2 : ((2 : Int) ^ n1) ≤ (1099511627776 : Int)) : z1 < (1099511627776 : Int) := Int.lt_of_lt_of_le h1 h2
theorem q112 {n1 n2 n3 n4 : Nat} (h1 : n4 ≤ (n2 + ((2 : Nat) * n3))) (h2 : n1 ≤ (n4 + (2 : Nat))) : n1 ≤ (n2 + ((2 : Nat) * (n3 + (1 : Nat)))) := Nat.le_trans h2 (Nat.le_trans (Nat.add_le_add_right h1 2) (Nat.le_of_eq (Nat.add_assoc ..)))
theorem q171 {n1 n2 n3 : Nat} (h1 : n1 ≤ (2 : Nat)) (h2 : n2 ≤ ((2 : Nat) * n3)) : (n1 + n2) ≤ ((2 : Nat) * (n3 + (1 : Nat))) := Nat.le_trans (Nat.add_le_add h1 h2) (Nat.le_of_eq (Nat.add_comm ..))
theorem q426 {n1 n2 n3 : Nat} (h1 : n1 = n2) (h2 : n2 ≤ ((400 : Nat) + n3)) (h3 : n3 < (60 : Nat)) : n1 ≤ (460 : Nat) := h1 ▸ Nat.le_trans h2 (Nat.add_le_add_left (Nat.le_of_lt h3) 400)
theorem q430 {n1 n2 n3 n4 : Nat} (h1 : n3 ≤ ((400 : Nat) + n2)) (h2 : n4 = n3) (h3 : n1 = (n4 + (1 : Nat))) : n1 ≤ ((400 : Nat) + (n2 + (1 : Nat))) := by subst h2 h3; exact Nat.succ_le_succ h1
theorem q492 {n1 n2 n3 : Nat} (h1 : (1 : Nat) ≤ n1) (h2 : n1 ≤ (5 : Nat)) (h3 : n2 = n1) (h4 : n3 = n1) : ((0 : Int) < (Nat.cast n1 : Int)) ∧ ((Nat.cast n1 : Int) ≤ (1000 : Int)) := ⟨Int.ofNat_lt.2 h1, Int.ofNat_le.2 (Nat.le_trans h2 (by decide) : n1 ≤ 1000)⟩
theorem q198 {n1 n2 n3 : Nat} (h1 : ((Nat.cast n1 : Int) + (1 : Int)) < (Nat.cast n2 : Int)) (h2 : n2 = n3) (h3 : n3 ≤ (1000 : Nat)) : (Nat.cast n1 : Int) < (9223372036854775808 : Int) := Int.lt_of_lt_of_le (Int.lt_trans (Int.lt_add_one_of_le (Int.le_refl _)) h1) (Int.le_trans (Int.ofNat_le.2 (h2 ▸ h3)) (by decide))
theorem q19 {n1 n2 : Nat} {z1 : Int} (h1 : z1 < (Nat.cast n1 : Int)) (h2 : n1 ≤ (1000000000 : Nat)) (h3 : n2 = n1) : z1 < (9223372036854775808 : Int) := Int.lt_of_lt_of_le h1 (Int.le_trans (Int.ofNat_le.2 h2) (by decide))
theorem q405 {z1 : Int} (h1 : (((0 : Int) ≤ z1) ∧ (z1 < (4 : Int)))) : (z1 = (0 : Int)) ∨ ((z1 = (1 : Int)) ∨ ((z1 = (2 : Int)) ∨ (z1 = (3 : Int)))) := by
  obtain ⟨m, rfl⟩ := Int.eq_ofNat_of_zero_le h1.1
  exact (by decide : ∀ m : Nat, m < 4 → (m : Int) = 0 ∨ (m : Int) = 1 ∨ (m : Int) = 2 ∨ (m : Int) = 3) m (Int.ofNat_lt.1 h1.2)
theorem q442 {z1 : Int} (h1 : (0 : Int) ≤ z1) (h2 : z1 ≤ ((10 : Int) ^ (15 : Nat))) : ((-((10 : Int) ^ (15 : Nat))) ≤ (z1 - (1 : Int))) ∧ ((z1 - (1 : Int)) ≤ ((10 : Int) ^ (15 : Nat))) := ⟨Int.le_trans (by decide : _ ≤ (0:Int) - 1) (Int.sub_le_sub_right h1 1), Int.le_trans (Int.sub_le_self _ (by decide)) h2⟩
theorem q295 {z1 z2 : Int} (h1 : ((-((10 : Int) ^ (15 : Nat))) ≤ z1) ∧ (z1 ≤ ((10 : Int) ^ (15 : Nat)))) (h2 : ¬ (z1 < (0 : Int))) (h3 : ¬ (z1 < z2)) (h4 : (z1 < (0 : Int)) ∨ (z1 < z2)) : False := h4.elim h2 h3
theorem q287 {z1 : Int} (h1 : ((-((10 : Int) ^ (15 : Nat))) ≤ z1) ∧ (z1 ≤ ((10 : Int) ^ (15 : Nat)))) (h2 : ¬ (z1 < (0 : Int))) : z1 < ((2 : Int) ^ (1920 : Nat)) := Int.lt_of_le_of_lt h1.2 (by decide +kernel)
theorem q214 {z1 : Int}  : ((33 : Int) + ((z1 - (1 : Int)) % (94 : Int))) ≤ (1114111 : Int) := Int.le_trans (Int.add_le_add_left (Int.le_of_lt (Int.emod_lt_of_pos _ (by decide))) 33) (by decide)
theorem q223 {z1 : Int}  : (0 : Int) ≤ ((33 : Int) + ((z1 - (1 : Int)) % (94 : Int))) := Int.add_nonneg (by decide) (Int.emod_nonneg _ (by decide))
theorem q152 {n1 n2 n3 : Nat} {z1 : Int} (h1 : n1 ≤ n2) (h2 : n2 = (Int.toNat z1)) (h3 : (1 : Int) ≤ z1) (h4 : z1 ≤ (1000 : Int)) (h5 : ¬ (z1 = (1 : Int))) (h6 : z1 = (Nat.cast n3 : Int)) : n1 ≤ (1000 : Nat) := Nat.le_trans h1 (h2 ▸ Int.toNat_le.2 h4)
theorem q217 {n1 n2 n3 : Nat} {z1 : Int} (h1 : n2 ≤ (1000 : Nat)) (h2 : n1 ≤ n3) (h3 : n3 ≤ (1000 : Nat)) (h4 : n3 = (Int.toNat z1)) : ((((1 : Nat) + n1) + (1 : Nat)) + n2) ≤ (16777216 : Nat) := Nat.le_trans (Nat.add_le_add (Nat.add_le_add_right (Nat.add_le_add_left (Nat.le_trans h2 h3) 1) 1) h1) (by decide)
theorem q41 {n1 n2 : Nat} {z1 : Int} (h1 : n2 ≤ (100 : Nat)) (h2 : n1 = (Int.toNat z1)) (h3 : z1 = (1 : Int)) : (n1 + n2) ≤ (1200 : Nat) := by subst h3 h2; exact Nat.le_trans (Nat.add_le_add_left h1 1) (by decide)
theorem q429 {n1 n2 n3 : Nat} (h1 : n1 = (n2 + (1 : Nat))) (h2 : n2 ≤ (460 : Nat)) (h3 : n2 = n3) (h4 : ¬ ((400 : Int) < (Nat.cast (n3 + (1 : Nat)) : Int))) : n1 ≤ (400 : Nat) := by subst h1 h3; exact Nat.le_of_not_lt fun h => h4 (Int.ofNat_lt.2 h)
theorem q192 {n1 n2 n3 : Nat} {P1 : Prop} (h1 : n2 ≤ (1000 : Nat)) (h2 : n3 = n2) (h3 : ((n1 = (0 : Nat)) ∨ (n1 < n2)) ∧ P1) : (Nat.cast n1 : Int) ≤ (Nat.cast n2 : Int) := Int.ofNat_le.2 (h3.1.elim (fun e => e ▸ Nat.zero_le _) Nat.le_of_lt)
theorem q296 {n1 : Nat} (h1 : n1 < (94 : Nat)) : ((0 : Int) ≤ (Nat.cast n1 : Int)) ∧ ((Nat.cast n1 : Int) < (94 : Int)) := ⟨Int.natCast_nonneg _, Int.ofNat_lt.2 h1⟩
theorem q306 {n1 n2 n3 n4 : Nat} (h1 : n1 ≤ (10 : Nat)) (h2 : n3 = n2) (h3 : (n2 ≤ n1) ∧ (n2 ≤ n4)) (h4 : n4 ≤ (10 : Nat)) : ((Nat.cast n1 : Int) - (Nat.cast n2 : Int)) < ((2 : Int) ^ (62 : Nat)) := Int.lt_of_le_of_lt (Int.sub_le_self _ (Int.natCast_nonneg _)) (Int.lt_of_le_of_lt (Int.ofNat_le.2 h1) (by decide))
theorem q539 {z1 z2 : Int} (h1 : ((0 : Int) ≤ z1) ∧ (z1 ≤ ((10 : Int) ^ (15 : Nat)))) (h2 : (z2 = z1) ∨ (z1 = (0 : Int))) : ((z1 - (1 : Int)) < (0 : Int)) ∨ ((z1 - (1 : Int)) < z2) := h2.elim (fun e => .inr (by rw [e]; exact Int.sub_lt_self _ (by decide))) (fun e => .inl (by rw [e]; decide))
theorem q222 {z1 : Int} (h1 : ((0 : Int) ≤ z1) ∧ (z1 < (94 : Int))) : (Int.toNat (0 : Int)) < (Int.toNat (z1 + (1 : Int))) := by obtain ⟨m, rfl⟩ := Int.eq_ofNat_of_zero_le h1.1; exact Nat.succ_pos m
theorem q211 {z1 z2 : Int} (h1 : ((0 : Int) ≤ z2) ∧ (z2 < (94 : Int))) (h2 : ¬ ((0 : Int) < z1)) : z1 ≠ (z2 + (1 : Int)) := fun e => h2 (e ▸ Int.lt_add_one_of_le h1.1)
theorem q449 {n1 : Nat} {z1 : Int} (h1 : ((1 : Int) + z1) = (Nat.cast n1 : Int)) (h2 : z1 < (5 : Int)) : n1 ≤ (5 : Nat) := Int.ofNat_le.1 (h1 ▸ (Int.add_comm z1 1 ▸ h2 : 1 + z1 ≤ 5))
end Nn
end
-- NnQ
section
open PySem PySem.W PySem.Spec PySem.Calls PyProof.Rows
namespace Nn
/-! ## a short name for what comes after -/
noncomputable def Cut {α : Type} (Q Q' : α → Shared → Prop) : Prop := ∀ v s, Q v s → Q' v s
theorem cutQ {α : Type} {M : Model} {A : Around} {t : Sem α} {Q : α → Shared → Prop} {E : Value → Shared → Prop} {s : Shared}
    (h : ∀ Q' : α → Shared → Prop, Cut Q Q' → wpAny M A t Q' E s) : wpAny M A t Q E s := h Q (fun _ _ h => h)
theorem Cut.use {α : Type} {Q Q' : α → Shared → Prop} {v : α} {s : Shared} (c : Cut Q Q') (h : Q v s) : Q' v s := c v s h
theorem Cut.refl {α : Type} {Q : α → Shared → Prop} : Cut Q Q := fun _ _ h => h
noncomputable def CutAll {α : Type} (Q : α → Shared → Prop) (P : (α → Shared → Prop) → Prop) : Prop := ∀ Q', Cut Q Q' → P Q'
theorem cutAll {α : Type} {Q : α → Shared → Prop} {P : (α → Shared → Prop) → Prop} (h : ∀ Q', Cut Q Q' → P Q') : CutAll Q P := h
theorem CutAll.get {α : Type} {Q : α → Shared → Prop} {P : (α → Shared → Prop) → Prop} (h : CutAll Q P) : P Q := h Q Cut.refl
/-! a statement's continuation under a name: where it goes on, and what else it may end as -/
noncomputable def Nx (M : Model) (A : Around) (cs : List Stmt) (env : Env) (E : Value → Shared → Prop) (Q Q' : Flow → Shared → Prop) : Prop := ∀ s, wpAny M A (execs cs env) Q E s → Q' .next s
noncomputable def Rx (Q Q' : Flow → Shared → Prop) : Prop := (∀ v s, Q (.ret v) s → Q' (.ret v) s) ∧ (∀ s, Q .brk s → Q' .brk s) ∧ (∀ s, Q .cont s → Q' .cont s)
theorem Nx.use {M : Model} {A : Around} {cs : List Stmt} {env : Env} {E : Value → Shared → Prop} {Q Q' : Flow → Shared → Prop} {s : Shared} (n : Nx M A cs env E Q Q') (h : wpAny M A (execs cs env) Q E s) : Q' .next s := n s h
theorem Rx.ret {Q Q' : Flow → Shared → Prop} {v : Value} {s : Shared} (r : Rx Q Q') (h : Q (.ret v) s) : Q' (.ret v) s := r.1 v s h
theorem Rx.brk {Q Q' : Flow → Shared → Prop} {s : Shared} (r : Rx Q Q') (h : Q .brk s) : Q' .brk s := r.2.1 s h
theorem Rx.cont {Q Q' : Flow → Shared → Prop} {s : Shared} (r : Rx Q Q') (h : Q .cont s) : Q' .cont s := r.2.2 s h
theorem execs_consC {M : Model} {A : Around} {c : Stmt} {cs : List Stmt} {env : Env} {Q : Flow → Shared → Prop} {E : Value → Shared → Prop} {s : Shared}
    (h : ∀ Q' : Flow → Shared → Prop, Nx M A cs env E Q Q' → Rx Q Q' → wpAny M A (exec c env) Q' E s) : wpAny M A (execs (c :: cs) env) Q E s :=
  wpAny_execs_cons (h _ (fun _ h => h) ⟨fun _ _ h => h, fun _ h => h, fun _ h => h⟩)
theorem execs_one {M : Model} {A : Around} {c : Stmt} {env : Env} {Q : Flow → Shared → Prop} {E : Value → Shared → Prop} {s : Shared}
    (h : wpAny M A (exec c env) Q E s) : wpAny M A (execs [c] env) Q E s :=
  wpAny_execs_cons (wpAny_mono h (fun f s p => by cases f <;> first | exact wpAny_execs_nil p | exact p) fun _ _ e => e)
/-! names for the place where a body runs -/
theorem letA {M : Model} {A : Around} {ss : List Stmt} {env : Env} {Q : Flow → Shared → Prop} {E : Value → Shared → Prop} {s : Shared}
    (h : let A' := A; wpAny M A' (execs ss env) Q E s) : wpAny M A (execs ss env) Q E s := h
theorem letEE {M : Model} {A : Around} {ss : List Stmt} {env : Env} {Q : Flow → Shared → Prop} {E : Value → Shared → Prop} {s : Shared}
    (h : let E' := E; wpAny M A (execs ss env) Q E' s) : wpAny M A (execs ss env) Q E s := h
theorem letE {M : Model} {A : Around} {ss : List Stmt} {env : Env} {Q : Flow → Shared → Prop} {E : Value → Shared → Prop} {s : Shared}
    (h : let e' := env; wpAny M A (execs ss e') Q E s) : wpAny M A (execs ss env) Q E s := h
theorem room {d a b m R : Nat} (h : d + m < R) (e : Nat.ble (a + b) m = true) : d + a + b < R :=
  Nat.lt_of_le_of_lt (by rw [Nat.add_assoc]; exact Nat.add_le_add_left (Nat.le_of_ble_eq_true e) d) h
theorem room1 {d b m R : Nat} (h : d + m < R) (e : Nat.ble b m = true) : d + b < R :=
  Nat.lt_of_le_of_lt (Nat.add_le_add_left (Nat.le_of_ble_eq_true e) d) h
/-! ## small facts on numbers -/
theorem qle {a m n : Nat} (h : a ≤ m) (e : Nat.ble m n = true) : a ≤ n := Nat.le_trans h (Nat.le_of_ble_eq_true e)
theorem qle2 {a b m n : Nat} (h1 : a ≤ b) (h : b ≤ m) (e : Nat.ble m n = true) : a ≤ n := Nat.le_trans h1 (qle h e)
theorem qleE {a b m n : Nat} (h1 : a = b) (h : b ≤ m) (e : Nat.ble m n = true) : a ≤ n := h1 ▸ qle h e
theorem qleS {a m k n : Nat} (h : a ≤ m) (e : Nat.ble (m + k) n = true) : a + k ≤ n := Nat.le_trans (Nat.add_le_add_right h k) (Nat.le_of_ble_eq_true e)
theorem qlt {a m n : Nat} (h : a ≤ m) (e : Nat.ble (m + 1) n = true) : a < n := Nat.lt_of_le_of_lt h (Nat.le_of_ble_eq_true e)
theorem qlt2 {a m n : Nat} (h : a < m) (e : Nat.ble m n = true) : a < n := Nat.lt_of_lt_of_le h (Nat.le_of_ble_eq_true e)
theorem qll {a m n : Nat} (h : a < m) (e : Nat.ble m (n + 1) = true) : a ≤ n := Nat.le_of_lt_succ (qlt2 h e)
theorem zlt {r m n : Int} (h : r < m) (e : decide (m ≤ n) = true) : r < n := Int.lt_of_lt_of_le h (of_decide_eq_true e)
theorem zlt' {r m n : Int} (h : r ≤ m) (e : decide (m < n) = true) : r < n := Int.lt_of_le_of_lt h (of_decide_eq_true e)
theorem zle {r m n : Int} (h : r ≤ m) (e : decide (m ≤ n) = true) : r ≤ n := Int.le_trans h (of_decide_eq_true e)
theorem zle' {r m n : Int} (h : r < m) (e : decide (m ≤ n + 1) = true) : r ≤ n := Int.le_of_lt_add_one (zlt h e)
theorem zge {r m n : Int} (h : m ≤ r) (e : decide (n ≤ m) = true) : n ≤ r := Int.le_trans (of_decide_eq_true e) h
theorem zgt {r m n : Int} (h : m ≤ r) (e : decide (n < m) = true) : n < r := Int.lt_of_lt_of_le (of_decide_eq_true e) h
theorem zng {k : Nat} {n : Int} (e : decide (n ≤ 0) = true) : n ≤ (k : Int) := Int.le_trans (of_decide_eq_true e) (Int.natCast_nonneg k)
theorem zcl {k m : Nat} {n : Int} (h : k ≤ m) (e : decide ((m : Int) < n) = true) : (k : Int) < n := Int.lt_of_le_of_lt (Int.ofNat_le.2 h) (of_decide_eq_true e)
theorem zcle {k m : Nat} {n : Int} (h : k ≤ m) (e : decide ((m : Int) ≤ n) = true) : (k : Int) ≤ n := Int.le_trans (Int.ofNat_le.2 h) (of_decide_eq_true e)
end Nn
end
-- NnEv
section
open PySem PySem.W PySem.Spec PySem.Calls PyProof.Rows PyProof.V
set_option maxRecDepth 100000
namespace Nn
/-! ## Plain expressions: what they give, told without what comes after -/
structure EvG (w : World) (env : Env) (L : Addr) (h₀ : Heap) : Prop where
  ex : ∃ cn cs a ccd cl, env = envX cn cs L a ccd cl ∧ cs.kind = .function
  X : (K w.params).In h₀
  T : ∃ p loose mg mb, TopRead p loose mg mb h₀
theorem EvG.of {w : World} {cn : Str} {cs : Scope} {L a : Addr} {ccd : Value} {cl : List (Str × Addr)} {h₀ : Heap} {p : Program} {loose : List Str} {mg mb : Str → Option Value} (hk : cs.kind = .function) (X : (K w.params).In h₀) (T : TopRead p loose mg mb h₀) :
    EvG w (envX cn cs L a ccd cl) L h₀ := ⟨⟨cn, cs, a, ccd, cl, rfl, hk⟩, X, p, loose, mg, mb, T⟩
structure EvC (w : World) (env : Env) (h : Heap) (m : Str → Option Value) : Prop where
  all : ∃ h₀ L, EvG w env L h₀ ∧ Fr h₀ L h m
theorem EvC.of {w : World} {env : Env} {L : Addr} {h₀ h : Heap} {m : Str → Option Value} (G : EvG w env L h₀) (F : Fr h₀ L h m) : EvC w env h m := ⟨h₀, L, G, F⟩
structure Ev (w : World) (env : Env) (h : Heap) (m : Str → Option Value) (t : Nat) (e : Expr) (v : Value) (t' : Nat) : Prop where
  run' : ∀ (A : Around) (Q : Value → Shared → Prop) (E : Value → Shared → Prop) (g : Array GenState) (dr : Drawn) (o : OsState), EvC w env h m → Q v ⟨h, g, dr, t', o⟩ →
    wpAny (model PySem.Challenge.rw_nn0316_01.prog w) A (eval e env) Q E ⟨h, g, dr, t, o⟩
section
variable {w : World} {env : Env} {h : Heap} {m : Str → Option Value} {t t1 t2 t' : Nat}
theorem Ev.name {x : Str} {p : Pos} {v : Value} (hx : some NameKind.local = env.kindOf x) (hd : false = (x == ("__debug__" : Str))) (hv : some v = m x) : Ev w env h m t (.Name x p) v t := by
  constructor
  intro A Q E g dr o C q
  obtain ⟨h₀, L, ⟨⟨cn, cs, a, ccd, cl, rfl, hk⟩, X, _⟩, F⟩ := C.all
  exact nameX_L F hv.symm q hk hx.symm hd.symm
theorem Ev.nameK {x : Str} {p : Pos} {v : Value} (hx : some NameKind.globalImplicit = env.kindOf x) (hd : false = (x == ("__debug__" : Str))) (e : nsIn (K w.params) mainGlobals x = some (some v)) : Ev w env h m t (.Name x p) v t := by
  constructor
  intro A Q E g dr o C q
  obtain ⟨h₀, L, ⟨⟨cn, cs, a, ccd, cl, rfl, hk⟩, X, _, _, _, _, T⟩, F⟩ := C.all
  exact nameX_K F X T e q hk hx.symm hd.symm
theorem Ev.nameB {x : Str} {p : Pos} {v : Value} (hx : some NameKind.globalImplicit = env.kindOf x) (hd : false = (x == ("__debug__" : Str))) (e : nsIn (K w.params) mainGlobals x = some none) (hv : bootBuiltins x = some v) (hn : x ≠ "__name__") : Ev w env h m t (.Name x p) v t := by
  constructor
  intro A Q E g dr o C q
  obtain ⟨h₀, L, ⟨⟨cn, cs, a, ccd, cl, rfl, hk⟩, X, _, _, _, _, T⟩, F⟩ := C.all
  exact nameX_B F X T e hv hn q hk hx.symm hd.symm
theorem Ev.int {i : Int} {k : Nat} {p : Pos} : Ev w env h m t (.Constant (.int i) k p) (.int i t) (t + 1) := ⟨fun _ _ _ _ _ _ _ q => wpAny_Constant_int q⟩
theorem Ev.str {x : Str} {k : Nat} {p : Pos} : Ev w env h m t (.Constant (.str x) k p) (.str x t) (t + 1) := ⟨fun _ _ _ _ _ _ _ q => Constant_str q⟩
theorem Ev.attr {x name : Str} {xp p : Pos} {a C : Addr} {ox : Obj} {es : List DictEntry} {n : Nat} {attr : Option Value} {v : Value} (he : Ev w env h m t (.Name x xp) (.ref a) t1)
    (I : InstAt h a ox C (some (dictOf es n))) (hg : plainGet (K w.params) C name = true) (hh : hasDictIn (K w.params) C = true) (ha : findIn (K w.params) (.ref C) name = some attr) (hn : noGet (K w.params) attr = true)
    (hl : getL name es = some (some v)) (hv : handedIn v = true) : Ev w env h m t (.Attribute (.Name x xp) name p) v (t1 + 1) := by
  constructor
  intro A Q E g dr o c q
  obtain ⟨h₀, L, ⟨_, X, _⟩, F⟩ := c.all
  exact Attribute_Name_ (he.run' A _ E g dr o c (get_own F X I hg hh ha hn hl hv q))
theorem Ev.add {a b : Expr} {p : Pos} {i j : Int} {ti tj : Tok} (ha : Ev w env h m t a (.int i ti) t1) (hb : Ev w env h m t1 b (.int j tj) t2) : Ev w env h m t (.BinOp a .Add b p) (.int (i + j) t2) (t2 + 1) :=
  ⟨fun A Q E g dr o c q => wpAny_BinOp (ha.run' A _ E g dr o c (hb.run' A _ E g dr o c (PyProof.Rows.add_int q)))⟩
theorem Ev.sub {a b : Expr} {p : Pos} {i j : Int} {ti tj : Tok} (ha : Ev w env h m t a (.int i ti) t1) (hb : Ev w env h m t1 b (.int j tj) t2) : Ev w env h m t (.BinOp a .Sub b p) (.int (i - j) t2) (t2 + 1) :=
  ⟨fun A Q E g dr o c q => wpAny_BinOp (ha.run' A _ E g dr o c (hb.run' A _ E g dr o c (PyProof.Rows.sub_int q)))⟩
/-! argument lists -/
noncomputable def plainE : Expr → Bool
  | .Starred _ _ => false
  | _ => true
theorem starEach_plain {e : Expr} {es : List Expr} (hp : true = plainE e) : starEach (e :: es) env = (false, eval e env) :: starEach es env := by
  cases e <;> first | rfl | cases hp
structure Evs (w : World) (env : Env) (h : Heap) (m : Str → Option Value) (t : Nat) (es : List Expr) (vs : List Value) (t' : Nat) : Prop where
  run' : ∀ (A : Around) (Q : List Value → Shared → Prop) (E : Value → Shared → Prop) (g : Array GenState) (dr : Drawn) (o : OsState) (pos : Pos), EvC w env h m → Q vs ⟨h, g, dr, t', o⟩ →
    wpAny (model PySem.Challenge.rw_nn0316_01.prog w) A (spliced (backTo pos (starEach es env))) Q E ⟨h, g, dr, t, o⟩
theorem Evs.nil : Evs w env h m t [] [] t := ⟨fun _ _ _ _ _ _ _ _ q => args_nil q⟩
theorem Evs.cons {e : Expr} {es : List Expr} {v : Value} {vs : List Value} (a : Ev w env h m t e v t1) (b : Evs w env h m t1 es vs t2) (hp : true = plainE e) : Evs w env h m t (e :: es) (v :: vs) t2 :=
  ⟨fun A Q E g dr o pos c q => args_cons (a.run' A _ E g dr o c (b.run' A _ E g dr o pos c q)) (starEach_plain hp)⟩
end
/-! ### in use -/
section
variable {w : World} {env : Env} {L : Addr} {h₀ h : Heap} {m : Str → Option Value} {t t1 t2 t' : Nat} {A : Around} {E : Value → Shared → Prop} {g : Array GenState} {dr : Drawn} {o : OsState}
theorem Ev.run {e : Expr} {v : Value} {Q : Value → Shared → Prop} (c : EvG w env L h₀) (F : Fr h₀ L h m) (d : Ev w env h m t e v t') (q : Q v ⟨h, g, dr, t', o⟩) :
    wpAny (model PySem.Challenge.rw_nn0316_01.prog w) A (eval e env) Q E ⟨h, g, dr, t, o⟩ := d.run' A Q E g dr o (.of c F) q
theorem Evs.run {es : List Expr} {vs : List Value} {pos : Pos} {Q : List Value → Shared → Prop} (c : EvG w env L h₀) (F : Fr h₀ L h m) (d : Evs w env h m t es vs t') (q : Q vs ⟨h, g, dr, t', o⟩) :
    wpAny (model PySem.Challenge.rw_nn0316_01.prog w) A (spliced (backTo pos (starEach es env))) Q E ⟨h, g, dr, t, o⟩ := d.run' A Q E g dr o pos (.of c F) q
theorem Cmp_run {l r whole : Expr} {op : CmpOp} {pos : Pos} {va vb : Value} {Q : Bool → Shared → Prop} (c : EvG w env L h₀) (F : Fr h₀ L h m) (a : Ev w env h m t l va t1) (b : Ev w env h m t1 r vb t2)
    (hm : false = behindInMarks op r)
    (q : wpAny (model PySem.Challenge.rw_nn0316_01.prog w) A (compareOp op va vb) (fun c s₃ => wpAny (model PySem.Challenge.rw_nn0316_01.prog w) A (truthy c) Q E s₃) E ⟨h, g, dr, t2, o⟩) :
    wpAny (model PySem.Challenge.rw_nn0316_01.prog w) A (isTrue (.Compare l [op] [r] pos) env (eval whole env)) Q E ⟨h, g, dr, t, o⟩ :=
  wpAny_isTrue_Compare1 (a.run' A _ E g dr o (.of c F) (b.run' A _ E g dr o (.of c F) q)) hm.symm
theorem Sub_run {l r : Expr} {pos : Pos} {va vb : Value} {Q : Value → Shared → Prop} (c : EvG w env L h₀) (F : Fr h₀ L h m) (a : Ev w env h m t l va t1) (b : Ev w env h m t1 r vb t2)
    (q : wpAny (model PySem.Challenge.rw_nn0316_01.prog w) A (subscriptTail l r va vb) Q E ⟨h, g, dr, t2, o⟩) :
    wpAny (model PySem.Challenge.rw_nn0316_01.prog w) A (eval (.Subscript l r pos) env) Q E ⟨h, g, dr, t, o⟩ :=
  Subscript_ (a.run' A _ E g dr o (.of c F) (b.run' A _ E g dr o (.of c F) q))
theorem Bin_run {l r : Expr} {op : Operator} {pos : Pos} {va vb : Value} {Q : Value → Shared → Prop} (c : EvG w env L h₀) (F : Fr h₀ L h m) (a : Ev w env h m t l va t1) (b : Ev w env h m t1 r vb t2)
    (q : wpAny (model PySem.Challenge.rw_nn0316_01.prog w) A (binaryOp op va vb) Q E ⟨h, g, dr, t2, o⟩) :
    wpAny (model PySem.Challenge.rw_nn0316_01.prog w) A (eval (.BinOp l op r pos) env) Q E ⟨h, g, dr, t, o⟩ :=
  wpAny_BinOp (a.run' A _ E g dr o (.of c F) (b.run' A _ E g dr o (.of c F) q))
theorem Asg_run {x : Str} {xp pos : Pos} {e : Expr} {v : Value} {news : List (Addr × Obj)} {Q : Flow → Shared → Prop} (c : EvG w env L h₀) (F : Fr h₀ L h m) (N : News h₀ L h news)
    (a : Ev w env h m t e v t1) (hs : pure false = swapsWith e (some (.Name x xp)) pos.line env) (hx : some NameKind.local = env.kindOf x)
    (q : ∀ h', Fr h₀ L h' (fun y => if y = x then some v else m y) → News h₀ L h' news → Q .next ⟨h', g, dr, t1 + 1, o⟩) :
    wpAny (model PySem.Challenge.rw_nn0316_01.prog w) A (exec (.Assign [.Name x xp] e pos) env) Q E ⟨h, g, dr, t, o⟩ := by
  refine wpAny_Assign_Name (a.run' A _ E g dr o (.of c F) ?_) hs.symm
  obtain ⟨cn, cs, a, ccd, cl, rfl, hk⟩ := c.ex
  exact storeX_L F N q hk hx.symm
theorem AsgS_run {x : Str} {xp pos : Pos} {e : Expr} {v : Value} {rest : List Stmt} {news : List (Addr × Obj)} {Q : Flow → Shared → Prop} (c : EvG w env L h₀) (F : Fr h₀ L h m) (N : News h₀ L h news)
    (a : Ev w env h m t e v t1) (hs : pure false = swapsWith e (some (.Name x xp)) pos.line env) (hx : some NameKind.local = env.kindOf x)
    (q : ∀ h', Fr h₀ L h' (fun y => if y = x then some v else m y) → News h₀ L h' news → wpAny (model PySem.Challenge.rw_nn0316_01.prog w) A (execs rest env) Q E ⟨h', g, dr, t1 + 1, o⟩) :
    wpAny (model PySem.Challenge.rw_nn0316_01.prog w) A (execs (.Assign [.Name x xp] e pos :: rest) env) Q E ⟨h, g, dr, t, o⟩ :=
  wpAny_execs_cons (Asg_run c F N a hs hx q)
theorem letEF {M : Model} {cn : Str} {cs : Scope} {L a : Addr} {ccd : Value} {cl : List (Str × Addr)} {ss : List Stmt} {Q : Flow → Shared → Prop} {s : Shared} {p : Program} {loose : List Str} {mg mb : Str → Option Value} (hk : cs.kind = .function) (X : (K w.params).In h₀) (T : TopRead p loose mg mb h₀)
    (hh : let e' := envX cn cs L a ccd cl; EvG w e' L h₀ → wpAny M A (execs ss e') Q E s) : wpAny M A (execs ss (envX cn cs L a ccd cl)) Q E s := hh (.of hk X T)
theorem letEO {M : Model} {cn : Str} {cs : Scope} {L a : Addr} {ccd : Value} {ss : List Stmt} {Q : Flow → Shared → Prop} {s : Shared} {p : Program} {loose : List Str} {mg mb : Str → Option Value} (hk : cs.kind = .function) (X : (K w.params).In h₀) (T : TopRead p loose mg mb h₀)
    (hh : let e' := envOf cn cs L a ccd; EvG w e' L h₀ → wpAny M A (execs ss e') Q E s) : wpAny M A (execs ss (envOf cn cs L a ccd)) Q E s := hh (.of (cl := []) hk X T)
end
end Nn
end
-- NnExc
section
open PySem PySem.W PySem.Calls PyProof.Rows Builtin Builtin.ObjectAttr
set_option maxRecDepth 100000
set_option maxHeartbeats 8000000
namespace Nn
/-! ## FormatError: made, raised, passed on, caught -/
noncomputable abbrev feCls : Obj := excClassObj (.ofString "FormatError") (.ofString "FormatError") 45 44 [.ref 32] [.ref 32, .type "Exception", .type "BaseException", .type "object"] true [] [] false none none (some (.ref 36)) none (some (.str (.ofString "FormatError") 225)) (some (.str (.ofString "FormatError") 233)) (some (.bool true)) "Exception.__new__"
theorem fe_cls {P : Params} {h : Heap} (X : (K P).In h) : h.get? 45 = some feCls := X 45 _ (by kernel_rfl!)
noncomputable abbrev eF := PySem.F.excBase_Exception
section
variable {w : World} {A : Around} {E : Value → Shared → Prop} {R : Result → Shared → Prop} {h : Heap} {g : Array GenState} {d : Drawn} {t : Nat} {os : OsState} {prog : Program}
theorem fe_check_new {M : Model} {rest : List Value} {Q : Unit → Shared → Prop} (hC : h.get? 45 = some feCls)
    (hq : Q () ⟨h, g, d, t, os⟩) : wpAny M A (checkBuiltinCall "Exception.__new__" ⟨.ref 45 :: rest, []⟩) Q E ⟨h, g, d, t, os⟩ := by
  have hcont : (Value.ref 45 :: [.ref 32, .type "Exception", .type "BaseException", .type "object"]).contains (.type "Exception") = true := by decide
  have hstar := eF.noStar
  simp only [checkBuiltinCall, eF.newKind, eF.newSplit, eF.newRow]
  repeat (first | refine wpAny_loadPart_at hC ?_ | (refine wpAny_isSubtype_exc hC ?_; rw [hcont]) | refine wpAny_staticBase_exc hC ?_ | refine wpAny_madeBy_exc hC ?_ | simp only [bne_self_eq_false, Bool.false_eq_true, if_false] | wp_step)
  exact hq
theorem fe_new {rest : List Value} (hC : h.get? 45 = some feCls)
    (hq : R (.ok (.ret (.ref (h.objs.size + 1)))) ⟨(h.push { cls := .type "tuple", data := .seq rest.toArray }).push
      { cls := .ref 45, data := .fields #[.ref h.objs.size, .none, .none, .none, .bool false, .none] }, g, d, t, os⟩) (hrest : rest.length ≤ sizeLine) :
    codeAny (model prog w) A (.builtin "Exception.__new__" ⟨.ref 45 :: rest, []⟩) R ⟨h, g, d, t, os⟩ := by
  have hends := eF.ends
  have hcB : (Value.ref 45 :: [.ref 32, .type "Exception", .type "BaseException", .type "object"]).contains (.type "Exception") = true := by decide
  have hcA : (Value.ref 45 :: [.ref 32, .type "Exception", .type "BaseException", .type "object"]).contains (.type "AttributeError") = false := by decide
  have hcN : (Value.ref 45 :: [.ref 32, .type "Exception", .type "BaseException", .type "object"]).contains (.type "NameError") = false := by decide
  refine codeAny_builtinAt eF.entry ?_
  unfold Builtin.«BaseException.__new__»
  refine PySem.wpAt_bind ?_
  show PySem.wpAt _ _ _ (stack >>= _) _ _ _
  refine PySem.wpAt_bind (PySem.wpAt_stack fun p below => PySem.wpAt_of_wpAny ?_)
  wp_walk
  refine PySem.wpAt_of_wpAny ?_
  rw [eF.owner]
  repeat (first | with_reducible refine wpAny_madeHere_exc eF.canon hC ?_ | with_reducible refine wpAny_loadPart_at hC ?_ | (with_reducible refine wpAny_isSubtype_exc hC ?_; first | rw [hcB] | rw [hcA] | rw [hcN]) | wp_step)
  show R _ _
  rw [Heap.size_push]
  exact hq
theorem fe_init_look {M : Model} {P : Params} {h : Heap} (X : (K P).In h) : Looks M h (typeLookup (.ref 45) "__init__") (some (.ref 29)) := looks_findIn X (by kernel_rfl!)
theorem fe_fn29 {P : Params} {h : Heap} (X : (K P).In h) : ∃ o, h.get? 29 = some o ∧ o.cls = .type "function" := ⟨fnO (meth 1 0) (.ofString "GateloomError.__init__") (.ref 22) (.str (.ofString "gateloom.errors") 187) 28, X 29 _ (by kernel_rfl!), by kernel_rfl!⟩
theorem fe_type_call {rest : List Value} {Q : Fin → Shared → Prop} (X : (K w.params).In h)
    (hq : ∀ h' e, Heap.MadeExcOf h h' e (.ref 45) rest →
      wpAny (model prog w) A (call (.ref 29) (.ref e :: rest)) (fun r s' => r = .none ∧ Q (.done (.ret (.ref e))) s') E ⟨h', g, d, t, os⟩) (hrest : rest.length ≤ sizeLine) :
    wpAny (model prog w) A (Builtin.«type.__call__» ⟨.ref 45 :: rest, []⟩) Q E ⟨h, g, d, t, os⟩ := by
  have hC := fe_cls X
  repeat (first | with_reducible refine wpAny_loadPart_at hC ?_ | with_reducible refine wpAny_madeBy_exc hC ?_ | wp_step)
  refine codeAny_call_builtin_code (Code.quiet_builtin _ eF.quiet) (fe_check_new hC ?_)
  refine fe_new hC ?_ hrest
  show wpAny _ _ _ _ _ _
  have kp : ∀ b o, h.get? b = some o → ((h.push { cls := .type "tuple", data := .seq rest.toArray }).push { cls := .ref 45, data := .fields #[.ref h.objs.size, .none, .none, .none, .bool false, .none] }).get? b = some o :=
    fun b o e => Heap.get?_push_of_some _ (Heap.get?_push_of_some _ e)
  have X₁ := X.keeps kp
  have hC₁ := kp _ _ hC
  obtain ⟨oI, hfI₁, hfc⟩ := fe_fn29 X₁
  have hget : ((h.push { cls := .type "tuple", data := .seq rest.toArray }).push
      { cls := .ref 45, data := .fields #[.ref h.objs.size, .none, .none, .none, .bool false, .none] }).get? (h.objs.size + 1) = some
      { cls := .ref 45, data := .fields #[.ref h.objs.size, .none, .none, .none, .bool false, .none] } := by heap_get
  have hcC : (Value.ref 45 :: [.ref 32, .type "Exception", .type "BaseException", .type "object"]).contains (.ref 45) = true := by decide
  unfold isInstance
  repeat (first | with_reducible refine wpAny_loadPart_at hget ?_ | (with_reducible refine wpAny_isSubtype_exc hC₁ ?_; rw [hcC]) | wp_step)
  show wpAny _ _ (typeLookup (.ref 45) _) _ _ _
  refine (fe_init_look X₁).here ?_
  refine wpAny_holding (wpAny_bind ?_)
  unfold bindSpecial
  refine wpAny_bind (wpAny_typeOf (T := "function") ⟨_, hfI₁, hfc⟩ ?_)
  rw [if_pos (by decide)]
  refine wpAny_pure (wpAny_bind (wpAny_mono (hq _ (h.objs.size + 1) ⟨kp, Heap.get?_none_of_le (Nat.le_succ _), h.objs.size, hget, Heap.get?_none_of_le (Nat.le_refl _), ?_⟩) (fun r s' hr => ?_) fun _ _ x => x))
  · exact Heap.get?_push_of_some _ (Heap.get?_push_at rfl rfl)
  · obtain ⟨rfl, hQ⟩ := hr
    wp_walk
    exact hQ
theorem fe_call {rest : List Value} {Q : Value → Shared → Prop} {s : Shared} (X : (K w.params).In s.heap)
    (hq : ∀ h' e, Heap.MadeExcOf s.heap h' e (.ref 45) rest →
      wpAny (model prog w) (A.under (.builtin "type.__call__" ⟨.ref 45 :: rest, []⟩)) (call (.ref 29) (.ref e :: rest)) (fun r s' => r = .none ∧ Q (.ref e) s') E { s with heap := h' }) (hrest : rest.length ≤ sizeLine) :
    wpAny (model prog w) A (call (.ref 45) rest) Q E s := by
  obtain ⟨h, g, d, t, os⟩ := s
  have hC := fe_cls X
  have f1 := tc_lookup
  have f2 := tc_bind (.ref 45)
  have hT : (⟨h, g, d, t, os⟩ : Shared).TypeIs (.ref 45) "type" := ⟨_, hC, rfl⟩
  refine wpAny_call (codeAny_of_tree ?_)
  show wpAny _ _ (callAny (.ref 45) _) _ _ _
  repeat (any_goals (first | assumption | with_reducible refine wpAny_loadPart_at hC ?_ | wp_step))
  refine ⟨rfl, ?_⟩
  refine codeAny_call_builtin_at (Code.quiet_builtin _ (by decide +kernel)) entry_typeCall (wpAny_check_type_call_sub hC (fe_type_call (hrest := hrest) X fun h' e hm => ?_))
  exact hq h' e hm
end
end Nn
end
-- NnExc2
section
open PySem PySem.W PySem.Calls PyProof.Rows Builtin Builtin.ObjectAttr
set_option maxRecDepth 100000
set_option maxHeartbeats 8000000
section
local macro_rules | `(tactic| omega) => `(tactic| k_extra "oNnExc2")
theorem Nn.oNnExc2 : True := by
  (k_with "oNnExc2" => with_reducible (k_whole; first | k_extra "omega!" | ((show (_ : Nat) ≤ _); first | exact Nn.q1 (by assumption) | fail) | fail))
  trivial
namespace Nn
noncomputable abbrev looseN : List Str := looseW q lo
theorem fill0 : K = K ∧ PySem.Challenge.rw_nn0316_01 = PySem.Challenge.rw_nn0316_01 := by
  k_fill
  exact ⟨rfl, rfl⟩
noncomputable abbrev excObj (dx : Option Addr) (vs : Array Value) : Obj := { cls := .ref 45, dict := dx, data := .fields vs }
section
variable {w : World} {A : Around} {E : Value → Shared → Prop} {R : Result → Shared → Prop} {s : Shared} {prog : Program} {h₀ : Heap} {L : Addr} {m : Str → Option Value} {news rest : List (Addr × Obj)}
theorem fe_osa_open {e : Addr} {ox : Obj} {od : Option Obj} {name : Str} {tk : Tok} {v : Value} (X : (K w.params).In s.heap) (I : InstAt s.heap e ox 45 od) (ht : takerIn (K w.params) 45 name = some none)
    (h : ∀ b, wpAny (model prog w) A.in1 (storeInOwnDict (.ref e) (.ref 45) (.str name tk) name v b)
      (fun fin s' => match fin with | .done f => R (.ok f) s' | .again c' => c'.quiet = true ∧ codeAny (model prog w) A c' R s') (fun e s' => R (.error e) s') s) :
    codeAny (model prog w) A (.call (.builtin "object.__setattr__") ⟨[.ref e, .str name tk, v], []⟩) R s := by
  have SF := PySem.F.store_Exception
  have hc : clsIn (K w.params) 45 = some { name := .ofString "FormatError", bases := [.ref 32], mro := [.ref 45, .ref 32, .type "Exception", .type "BaseException", .type "object"], ns := 44, qualname := .ofString "FormatError" } := by kernel_rfl!
  have sub : Looks (model prog w) s.heap (isInstance (.ref e) (.type "object")) true := I.type.andThen (looks_mroIn X (by kernel_rfl!))
  refine codeAny_call_builtin SF.slot.plain SF.entry (@check_slot (model prog w) _ _ s "object.__setattr__" "object" "__setattr__" (.ref e) [.str name tk, v] [] _ SF.kind SF.split sub (SF.args (.ref e) (.str name tk) v) ?_)
  obtain ⟨attr, ha, hr⟩ := Option.bind_eq_some_iff.mp ht
  have hm : Looks (model prog w) s.heap (mroOf (.ref 45)) [.ref 45, .ref 32, .type "Exception", .type "BaseException", .type "object"] := (looks_clsIn X hc).andThen .now
  have L3 : Looks (model prog w) s.heap (storeTaker? attr) none := by
    cases attr with
    | none => cases hr; exact .now
    | some a =>
      obtain ⟨b, hb, hb2⟩ := Option.map_eq_some_iff.mp hr
      refine (looks_takesIn X hb).andThen ?_
      cases b
      · exact .now
      · cases hb2
  rw [osa_eq, refuse_eq]
  refine wpAny_bind (wpAny_bind (I.type.here (wpAny_bind (hm.here ?_))))
  rw [refuseLoop_ref, refuseLoop_ref, SF.passes]
  refine wpAny_pure (wpAny_bind (I.type.here (wpAny_bind ((looks_findIn X ha).here (wpAny_bind (L3.here ?_))))))
  exact h _
theorem fe_set0 {e : Addr} {vs : Array Value} {name : Str} {v : Value} {Q : Unit → Shared → Prop} (F : Fr h₀ L s.heap m) (X₀ : (K w.params).In h₀) (N : News h₀ L s.heap ((e, excObj none vs) :: rest)) (hr : ∀ p ∈ rest, p.1 ≠ e)
    (ht : takerIn (K w.params) 45 name = some none)
    (h : ∀ h' dx, Fr h₀ L h' m → News h₀ L h' ((e, excObj (some dx) vs) :: (dx, dictOf [⟨PyData.keyHash w.params name, .str name (s.toks + 1), v⟩] 1) :: rest) → (∀ p ∈ rest, p.1 < dx) → e < dx → Q () { s with heap := h', toks := s.toks + 2 }) :
    wpAny (model prog w) A (setAttr (.ref e) name v) Q E s := by
  have X := X₀.keeps F.keep
  have I : InstAt s.heap e (excObj none vs) 45 none := ⟨(N _ (.head _)).1, rfl, rfl, trivial⟩
  refine set_plain X I (by kernel_rfl!) (fe_osa_open (s := { s with toks := s.toks + 1 }) X I ht fun b => ?_)
  have hc : clsIn (K w.params) 45 = some { name := .ofString "FormatError", bases := [.ref 32], mro := [.ref 45, .ref 32, .type "Exception", .type "BaseException", .type "object"], ns := 44, qualname := .ofString "FormatError" } := by kernel_rfl!
  have he := (N _ (.head _)).1
  have hlt : e < s.heap.objs.size := Heap.lt_size he
  -- the new dict, the instance that points to it
  have N₁ := N.push F { cls := .type "dict", data := .dict #[] }
  have F₁ := F.push { cls := .type "dict", data := .dict #[] }
  have U₁ := news_upd (pre := [(s.heap.objs.size, ({ cls := .type "dict", data := .dict #[] } : Obj))]) (d := e) (o := excObj none vs) (o' := excObj (some s.heap.objs.size) vs) (post := rest) (f := fun o => { o with dict := some s.heap.objs.size }) F₁ N₁
    (fun p hp => by rw [List.mem_singleton.mp hp]; exact Nat.ne_of_gt hlt) hr rfl rfl
  have he₁ : (s.heap.push { cls := .type "dict", data := .dict #[] }).get? e = some (excObj none vs) := Heap.get?_push_of_some _ he
  have hd₂ := (U₁.2 _ (.head _)).1
  have U₂ := news_upd (pre := []) (d := s.heap.objs.size) (o := dictOf [] 0) (o' := dictOf [⟨PyData.keyHash w.params name, .str name (s.toks + 1), v⟩] 1) (post := (e, excObj (some s.heap.objs.size) vs) :: rest) (f := Obj.putName name (PyData.keyHash w.params name) (.str name (s.toks + 1)) v) U₁.1 U₁.2
    (fun _ h => nomatch h) (fun p hp => by
      rcases List.mem_cons.mp hp with rfl | hp
      · exact Nat.ne_of_lt hlt
      · exact Nat.ne_of_lt (Heap.lt_size (N p (.tail _ hp)).1)) (putName_dict _ _ _ _ _ _) rfl
  have hd₃ := (U₂.2 _ (.head _)).1
  refine wpAny_bind (wpAny_pure (wpAny_bind (wpAny_bind (wpAny_loadPart he (wpAny_bind (Looks.here (s := { s with toks := s.toks + 1 }) (looks_clsIn X hc) ?_))))))
  show wpAny _ _ (alloc _ >>= _) _ _ _
  refine wpAny_bind (wpAny_alloc ?_)
  refine wpAny_bind (wpAny_update he₁ ?_)
  refine wpAny_pure ?_
  show wpAny _ _ (storeInDict s.heap.objs.size (.str name s.toks) name v) _ _ _
  refine wpAny_bind (wpAny_pure (wpAny_bind ?_))
  unfold nsSet
  refine wpAny_bind (wpAny_bind (wpAny_askSetting (wpAny_pure (wpAny_bind (wpAny_mkText (wpAny_bind (wpAny_loadPart hd₂ ?_)))))))
  dsimp only
  have c : (!(#[] : Array DictEntry).any (·.key.isStr name) && (#[] : Array DictEntry).any (·.refKey)) = false := by simp
  rw [aRefKeyMayBeTheName_at, c]
  refine wpAny_updatePart hd₂ ?_
  refine wpAny_bind (wpAny_lookBehind hd₃ (pastItsLine_dict (by rw [List.size_toArray, sizeLine_eq, List.length_singleton]; decide)) ?_)
  refine wpAny_pure ?_
  exact h _ _ U₂.1 (fun p hp => U₂.2 p (by
    rcases List.mem_cons.mp hp with rfl | hp
    · exact .tail _ (.head _)
    · rcases List.mem_cons.mp hp with rfl | hp
      · exact .head _
      · exact .tail _ (.tail _ hp))) (fun p hp => Heap.lt_size (N p (.tail _ hp)).1) hlt
theorem fe_set {e dx : Addr} {vs : Array Value} {es es' : List DictEntry} {n n' : Nat} {name : Str} {v : Value} {Q : Unit → Shared → Prop} (F : Fr h₀ L s.heap m) (X₀ : (K w.params).In h₀) (N : News h₀ L s.heap ((e, excObj (some dx) vs) :: (dx, dictOf es n) :: rest)) (hr : ∀ p ∈ rest, p.1 ≠ dx) (hed : e ≠ dx)
    (ht : takerIn (K w.params) 45 name = some none) (hl : (getL name es).isSome = true) (he : (putL name (PyData.keyHash w.params name) (.str name (s.toks + 1)) v es, putN name es n) = (es', n')) (hz : es'.length ≤ 1000)
    (h : ∀ h', Fr h₀ L h' m → News h₀ L h' ((e, excObj (some dx) vs) :: (dx, dictOf es' n') :: rest) → Q () { s with heap := h', toks := s.toks + 2 }) :
    wpAny (model prog w) A (setAttr (.ref e) name v) Q E s := by
  have X := X₀.keeps F.keep
  have I : InstAt s.heap e (excObj (some dx) vs) 45 (some (dictOf es n)) := ⟨(N _ (.head _)).1, rfl, rfl, (N _ (.tail _ (.head _))).1⟩
  refine set_plain X I (by kernel_rfl!) (fe_osa_open (s := { s with toks := s.toks + 1 }) X I ht fun b => ?_)
  have hc : clsIn (K w.params) 45 = some { name := .ofString "FormatError", bases := [.ref 32], mro := [.ref 45, .ref 32, .type "Exception", .type "BaseException", .type "object"], ns := 44, qualname := .ofString "FormatError" } := by kernel_rfl!
  obtain ⟨e1, e2⟩ := Prod.mk.inj he
  have U := news_upd (pre := [(e, excObj (some dx) vs)]) (d := dx) (o := dictOf es n) (o' := dictOf es' n') (post := rest) (f := Obj.putName name (PyData.keyHash w.params name) (.str name (s.toks + 1)) v) F N
    (fun p hp => by rw [List.mem_singleton.mp hp]; exact hed) hr (by rw [putName_dict, e1, e2]) rfl
  have D := (N _ (.tail _ (.head _))).1
  have D' := (U.2 _ (.tail _ (.head _))).1
  have hx := (N _ (.head _)).1
  refine wpAny_bind (wpAny_pure (wpAny_bind (wpAny_bind (wpAny_loadPart hx (wpAny_bind (Looks.here (s := { s with toks := s.toks + 1 }) (looks_clsIn X hc) ?_))))))
  refine wpAny_pure (a := some dx) (wpAny_bind (wpAny_pure (wpAny_bind ?_)))
  unfold nsSet
  refine wpAny_bind (wpAny_bind (wpAny_askSetting (wpAny_pure (wpAny_bind (wpAny_mkText (wpAny_bind (wpAny_loadPart D ?_)))))))
  dsimp only
  have c : (!es.toArray.any (·.key.isStr name) && es.toArray.any (·.refKey)) = false := by
    unfold getL at hl
    rw [List.any_toArray, List.any_toArray]
    split at hl
    · rename_i en hen
      rw [List.any_eq_true.mpr ⟨en, List.mem_of_find?_eq_some hen, List.find?_some hen⟩]; rfl
    · split at hl
      · cases hl
      · rename_i z; rw [Bool.not_eq_true] at z; rw [z, Bool.and_false]
  rw [aRefKeyMayBeTheName_at, c]
  refine wpAny_updatePart D ?_
  refine wpAny_bind (wpAny_lookBehind D' (pastItsLine_dict (by rw [List.size_toArray, sizeLine_eq]; omega)) ?_)
  exact wpAny_pure (h _ U.1 U.2)
end
end Nn
end
end
-- NnExc3
section
open PySem PySem.W PySem.Calls PyProof.Rows Builtin Builtin.ObjectAttr
set_option maxRecDepth 100000
set_option maxHeartbeats 8000000
section
local macro_rules | `(tactic| omega) => `(tactic| k_extra "oNnExc3")
theorem Nn.oNnExc3 : True := by
  (k_with "oNnExc3" => with_reducible (k_whole; first | k_extra "omega!" | ((show (_ : Nat) < _); first | exact Nn.q2 (by assumption) | exact Nn.q3 (by assumption) | fail) | fail))
  trivial
namespace Nn
theorem fill1 : K = K ∧ PySem.Challenge.rw_nn0316_01 = PySem.Challenge.rw_nn0316_01 := by
  k_fill
  exact ⟨rfl, rfl⟩
theorem ne_of_ltAll {rest : List (Addr × Obj)} {d : Addr} (h : ∀ p ∈ rest, p.1 < d) : ∀ p ∈ rest, p.1 ≠ d := fun p hp => Nat.ne_of_lt (h p hp)
local macro_rules | `(tactic| walk_at $s:str) => `(tactic| k_extra $(Lean.Syntax.mkStrLit (s.getString ++ "!")))
set_option hygiene false in
local macro_rules | `(tactic| ktr_call $x:term $c:term) => `(tactic| (k_dflt (refine' code_def (binds := $x) ?cf5d4bk1 ?cf5d4bk2 ?cf5d4bk3 ?cf5d4bk4 ?cf5d4bk5 ?cf5d4bkA ?cf5d4bkF ?cf5d4bkK ?cf5d4bk6 ?cf5d4bk7 ?cf5d4bk8 ?cf5d4bk9 ?cf5d4bkB ?_ ?cf5d4bc2 ?cf5d4bc3 ?cf5d4bc4 ?cf5d4bc5; k_extra "ktcf5d4b!")))
theorem wExc3 : True := by
  (k_with "setAttr ref!" => (k_here; k_dflt (refine' fe_set0 ?q26e50_k1 ?q26e50_k2 ?q26e50_k3 ?q26e50_k4 ?q26e50_k5 ?_; (case q26e50_k1 => k_asm); (case q26e50_k2 => k_asm); (case q26e50_k3 => k_asm); (case q26e50_k4 => assumption); (case q26e50_k5 => k_is); k_whole); intro zzh' zzdx' zzF' zzN' zzl1 zzl2))
  (k_with "setAttr ref!" => (k_here; k_dflt (refine' fe_set ?q57470_k1 ?q57470_k2 ?q57470_k3 ?q57470_k4 ?q57470_k5 ?q57470_k6 ?q57470_k7 ?q57470_k8 ?q57470_k9 ?_; (case q57470_k1 => k_asm); (case q57470_k2 => k_asm); (case q57470_k3 => k_asm); (case q57470_k4 => exact ne_of_ltAll (by assumption)); (case q57470_k5 => exact Nat.ne_of_lt (by assumption)); (case q57470_k6 => k_is); (case q57470_k7 => k_get); (case q57470_k8 => k_put); (case q57470_k9 => exact Nat.le_of_ble_eq_true rfl); k_whole); intro zzh' zzF' zzN'))
  (k_with "ktcf5d4b!" => ((case cf5d4bkA => exact rfl); (case cf5d4bkF => exact rfl); (case cf5d4bkK => assumption); (case cf5d4bk1 => k_asm); (case cf5d4bk2 => k_asm); (case cf5d4bk3 => k_asm); (case cf5d4bk4 => k_asm); (case cf5d4bk5 => k_asm); (case cf5d4bk6 => k_is); (case cf5d4bk7 => k_is); (case cf5d4bk8 => ktr_room); (case cf5d4bk9 => first | exact BindsTo.of_eq rfl | exact binds_K (by k_in) rfl (by k_is) rfl rfl rfl); (case cf5d4bc5 => decide); (case cf5d4bkB => exact locs rfl); (case cf5d4bc2 => exact rfl); (case cf5d4bc3 => exact rfl); (case cf5d4bc4 => exact rfl); k_whole; intro zzg' zzL' zzh' zzFG' zzF' zzN' zzB' zzX' zzT'; (try dsimp only); (try k_fold)))
  trivial
noncomputable abbrev kE (w : World) (n : Str) (t : Tok) (v : Value) : DictEntry := ⟨PyData.keyHash w.params n, .str n t, v⟩
noncomputable abbrev tupO (vs : List Value) : Obj := { cls := .type "tuple", data := .seq vs.toArray }
theorem fe_init3 {w : World} {mean : ExcName → Option Value} {mg mb : Str → Option Value} {dp un : Nat} {gd : Option (List Code)} {cn : Str} {cs : Scope} {a : Addr} {ccd : Value} {cl : List (Str × Addr)} {outer : List Env} {A₀ : Around} {base h₀ : Heap} {L : Addr} {m : Str → Option Value} {news : List (Addr × Obj)} {s : Shared}
    {R : Result → Shared → Prop} {e : Nat} {vs : Array Value} {v1 v2 v3 : Value} {rest : List Value}
    (B : Below A₀ base outer h₀) (F : Fr h₀ L s.heap m) (X : (K w.params).In h₀) (T : Top q looseN mean mg mb h₀) (hk : cs.kind = .function) (N : News h₀ L s.heap ((e, excObj none vs) :: news))
    (hd : dp + 5 < recursionLimit) (hr : ∀ p ∈ news, p.1 ≠ e)
    (ret : ∀ dx t1 t2 t3 h' tk', Fr h₀ L h' m → News h₀ L h' ((e, excObj (some dx) vs) :: (dx, dictOf [kE w "kind" t1 v1, kE w "at" t2 v2, kE w "detail" t3 v3] 3) :: news) → (∀ p ∈ news, p.1 < dx) → e < dx → R (.ok (.ret .none)) { s with heap := h', toks := tk' }) :
    codeAny (model PySem.Challenge.rw_nn0316_01.prog w) ((ktrTop dp un gd cn cs L a ccd cl outer).under (.builtin "type.__call__" ⟨.ref 45 :: rest, []⟩)) (.call (.ref 29) ⟨[.ref e, v1, v2, v3], []⟩) R s := by
  ktr_call [("self", .ref e), ("kind", v1), ("at", v2), ("detail", v3)] ()
  k_steps
  exact ret _ _ _ _ _ _ (by k_asm) (by k_asm) (by assumption) (by assumption)
theorem fe_init2 {w : World} {mean : ExcName → Option Value} {mg mb : Str → Option Value} {dp un : Nat} {gd : Option (List Code)} {cn : Str} {cs : Scope} {a : Addr} {ccd : Value} {cl : List (Str × Addr)} {outer : List Env} {A₀ : Around} {base h₀ : Heap} {L : Addr} {m : Str → Option Value} {news : List (Addr × Obj)} {s : Shared}
    {R : Result → Shared → Prop} {e : Nat} {vs : Array Value} {v1 v2 : Value} {rest : List Value}
    (B : Below A₀ base outer h₀) (F : Fr h₀ L s.heap m) (X : (K w.params).In h₀) (T : Top q looseN mean mg mb h₀) (hk : cs.kind = .function) (N : News h₀ L s.heap ((e, excObj none vs) :: news))
    (hd : dp + 5 < recursionLimit) (hr : ∀ p ∈ news, p.1 ≠ e)
    (ret : ∀ dx t1 t2 t3 h' tk', Fr h₀ L h' m → News h₀ L h' ((e, excObj (some dx) vs) :: (dx, dictOf [kE w "kind" t1 v1, kE w "at" t2 v2, kE w "detail" t3 (.str "" 203)] 3) :: news) → (∀ p ∈ news, p.1 < dx) → e < dx → R (.ok (.ret .none)) { s with heap := h', toks := tk' }) :
    codeAny (model PySem.Challenge.rw_nn0316_01.prog w) ((ktrTop dp un gd cn cs L a ccd cl outer).under (.builtin "type.__call__" ⟨.ref 45 :: rest, []⟩)) (.call (.ref 29) ⟨[.ref e, v1, v2], []⟩) R s := by
  ktr_call [("self", .ref e), ("kind", v1), ("at", v2), ("detail", .str "" 203)] ()
  k_steps
  exact ret _ _ _ _ _ _ (by k_asm) (by k_asm) (by assumption) (by assumption)
noncomputable abbrev excVs (t : Addr) : Array Value := #[.ref t, .none, .none, .none, .bool false, .none]
theorem fe_led {h₀ h h' : Heap} {L e : Addr} {m : Str → Option Value} {news : List (Addr × Obj)} {args : List Value} (F : Fr h₀ L h m) (N : News h₀ L h news) (hm : Heap.MadeExcOf h h' e (.ref 45) args) :
    ∃ t, h'.get? e = some (excObj none (excVs t)) ∧ Fr h₀ L h' m ∧ News h₀ L h' ((e, excObj none (excVs t)) :: (t, tupO args) :: news) ∧ (∀ p ∈ news, p.1 ≠ t) ∧ (∀ p ∈ news, p.1 ≠ e) ∧ t ≠ e := by
  obtain ⟨kp, hn, t, he, htn, ht⟩ := hm
  have nw : ∀ b, h.get? b = none → b ≠ L ∧ h₀.get? b = none := fun b hb => by
    refine ⟨fun z => ?_, ?_⟩
    · obtain ⟨oL, _, _, hL, _⟩ := F.ns
      rw [z, hL] at hb; cases hb
    · cases q : h₀.get? b with
      | none => rfl
      | some o => have := F.keep b o q; rw [hb] at this; cases this
  have ne : ∀ b, h.get? b = none → ∀ p ∈ news, p.1 ≠ b := fun b hb p hp z => by
    have := (N p hp).1
    rw [z, hb] at this; cases this
  refine ⟨t, he, F.keeps kp, fun p hp => ?_, ne t htn, ne e hn, fun z => ?_⟩
  · rcases List.mem_cons.mp hp with rfl | hp
    · exact ⟨he, nw e hn⟩
    · rcases List.mem_cons.mp hp with rfl | hp
      · exact ⟨ht, nw t htn⟩
      · exact ⟨kp _ _ (N p hp).1, (N p hp).2⟩
  · rw [z, he] at ht
    cases ht
theorem fe_spec3 {w : World} {mean : ExcName → Option Value} {mg mb : Str → Option Value} {dp un : Nat} {gd : Option (List Code)} {cn : Str} {cs : Scope} {a : Addr} {ccd : Value} {cl : List (Str × Addr)} {outer : List Env} {A₀ : Around} {base h₀ : Heap} {L : Addr} {m : Str → Option Value} {news : List (Addr × Obj)} {s : Shared}
    {Q E : Value → Shared → Prop} {v1 v2 v3 : Value}
    (B : Below A₀ base outer h₀) (F : Fr h₀ L s.heap m) (X : (K w.params).In h₀) (T : Top q looseN mean mg mb h₀) (hk : cs.kind = .function) (N : News h₀ L s.heap news)
    (hd : dp + 6 < recursionLimit)
    (ret : ∀ e t dx t1 t2 t3 h' tk', Fr h₀ L h' m → News h₀ L h' ((e, excObj (some dx) (excVs t)) :: (dx, dictOf [kE w "kind" t1 v1, kE w "at" t2 v2, kE w "detail" t3 v3] 3) :: (t, tupO [v1, v2, v3]) :: news) → (∀ p ∈ news, p.1 ≠ t) → (∀ p ∈ news, p.1 ≠ e) → (∀ p ∈ news, p.1 < dx) → e < dx → t < dx → t ≠ e → Q (.ref e) { s with heap := h', toks := tk' }) :
    wpAny (model PySem.Challenge.rw_nn0316_01.prog w) (ktrTop dp un gd cn cs L a ccd cl outer) (call (.ref 45) [v1, v2, v3]) Q E s := by
  refine fe_call (X.keeps F.keep) (fun h' e hm => wpAny_call ?_) (by rw [sizeLine_eq]; simp)
  obtain ⟨t, he, F', N', n1, n2, n3⟩ := fe_led F N hm
  refine fe_init3 (s := { s with heap := h' }) B F' X T hk N' (by omega) (fun p hp => ?_) fun dx t1 t2 t3 h'' tk' F'' N'' l1 l2 => ⟨rfl, ret e t dx t1 t2 t3 h'' tk' F'' N'' n1 n2 (fun p hp => l1 p (.tail _ hp)) l2 (l1 _ (.head _)) n3⟩
  rcases List.mem_cons.mp hp with rfl | hp
  · exact n3
  · exact n2 p hp
theorem fe_spec2 {w : World} {mean : ExcName → Option Value} {mg mb : Str → Option Value} {dp un : Nat} {gd : Option (List Code)} {cn : Str} {cs : Scope} {a : Addr} {ccd : Value} {cl : List (Str × Addr)} {outer : List Env} {A₀ : Around} {base h₀ : Heap} {L : Addr} {m : Str → Option Value} {news : List (Addr × Obj)} {s : Shared}
    {Q E : Value → Shared → Prop} {v1 v2 : Value}
    (B : Below A₀ base outer h₀) (F : Fr h₀ L s.heap m) (X : (K w.params).In h₀) (T : Top q looseN mean mg mb h₀) (hk : cs.kind = .function) (N : News h₀ L s.heap news)
    (hd : dp + 6 < recursionLimit)
    (ret : ∀ e t dx t1 t2 t3 h' tk', Fr h₀ L h' m → News h₀ L h' ((e, excObj (some dx) (excVs t)) :: (dx, dictOf [kE w "kind" t1 v1, kE w "at" t2 v2, kE w "detail" t3 (.str "" 203)] 3) :: (t, tupO [v1, v2]) :: news) → (∀ p ∈ news, p.1 ≠ t) → (∀ p ∈ news, p.1 ≠ e) → (∀ p ∈ news, p.1 < dx) → e < dx → t < dx → t ≠ e → Q (.ref e) { s with heap := h', toks := tk' }) :
    wpAny (model PySem.Challenge.rw_nn0316_01.prog w) (ktrTop dp un gd cn cs L a ccd cl outer) (call (.ref 45) [v1, v2]) Q E s := by
  refine fe_call (X.keeps F.keep) (fun h' e hm => wpAny_call ?_) (by rw [sizeLine_eq]; simp)
  obtain ⟨t, he, F', N', n1, n2, n3⟩ := fe_led F N hm
  refine fe_init2 (s := { s with heap := h' }) B F' X T hk N' (by omega) (fun p hp => ?_) fun dx t1 t2 t3 h'' tk' F'' N'' l1 l2 => ⟨rfl, ret e t dx t1 t2 t3 h'' tk' F'' N'' n1 n2 (fun p hp => l1 p (.tail _ hp)) l2 (l1 _ (.head _)) n3⟩
  rcases List.mem_cons.mp hp with rfl | hp
  · exact n3
  · exact n2 p hp
theorem wExc3e : True := by
  k_with_none
  trivial
end Nn
end
end
-- NnFly
section
open PySem PySem.W PySem.Calls PyProof.Rows
set_option maxRecDepth 100000
set_option maxHeartbeats 8000000
namespace Nn
/-! ## What a flight keeps: the dicts that the instances point to -/
noncomputable def DK (h h' : Heap) : Prop := ∀ b o, h.get? b = some o → ∃ o', h'.get? b = some o' ∧ o'.dict = o.dict
theorem DK.refl (h : Heap) : DK h h := fun _ o e => ⟨o, e, rfl⟩
theorem DK.trans {h₁ h₂ h₃ : Heap} (x : DK h₁ h₂) (y : DK h₂ h₃) : DK h₁ h₃ := fun b o e =>
  let ⟨o', e', d'⟩ := x b o e; let ⟨o'', e'', d''⟩ := y b o' e'; ⟨o'', e'', d''.trans d'⟩
theorem DK.push (h : Heap) (o : Obj) : DK h (h.push o) := fun _ o' e => ⟨o', Heap.get?_push_of_some _ e, rfl⟩
theorem DK.update (h : Heap) (a : Addr) (f : Obj → Obj) (hf : ∀ o, (f o).dict = o.dict ∧ (f o).isFreed = o.isFreed) : DK h (h.update a f) := fun b o e => by
  by_cases hb : b = a
  · subst hb
    exact ⟨f o, Heap.get?_update_self f e (((hf o).2).trans (Heap.get?_some_iff.mp e).2), (hf o).1⟩
  · exact ⟨o, (Heap.get?_update_ne _ _ _ _ hb).trans e, rfl⟩
noncomputable def KD {α : Type} : Sem α → Prop
  | .pure _ => True
  | .raise _ => True
  | .unsupported _ => True
  | .finish _ => True
  | .rule _ k => KD (k ())
  | .at _ k => KD (k ())
  | .load _ _ k => ∀ o, KD (k o)
  | .update _ _ f k => (∀ o, (f o).dict = o.dict ∧ (f o).isFreed = o.isFreed) ∧ KD (k ())
  | .loadIfAlive _ k => ∀ o, KD (k o)
  | .point _ k => KD (k ())
  | .register _ _ => True
  | .alloc _ k => ∀ a, KD (k a)
  | .fresh k => ∀ t, KD (k t)
  | .ask k => ∀ x, KD (k x)
  | .choose _ _ _ => False
  | .os _ _ _ => False
  | .call .. => False
  | .handled _ k => ∀ v, KD (k v)
  | .genState _ _ => False
  | .newGen _ _ => False
  | .resume .. => False
  | .yield .. => False
  | .stack k => ∀ l, KD (k l)
  | .fork .. => False
  | .thread k => ∀ n, KD (k n)
  | .await .. => False
theorem wp_kd {α : Type} {M : Model} {Γ : Ctx} {Q : α → Pos → Shared → Prop} {E : Value → Pos → Shared → Prop} : ∀ (t : Sem α) (p : Pos) (s : Shared), KD t → Sem.wp M Γ t Q E p s →
    Sem.wp M Γ t (fun a p' s' => Q a p' s' ∧ DK s.heap s'.heap) (fun e p' s' => E e p' s' ∧ DK s.heap s'.heap) p s := by
  intro t
  have step : ∀ {β : Type} {t' : Sem β} {Q : β → Pos → Shared → Prop} {E : Value → Pos → Shared → Prop} {p : Pos} {s s₁ : Shared}, DK s.heap s₁.heap →
      Sem.wp M Γ t' (fun a p' s' => Q a p' s' ∧ DK s₁.heap s'.heap) (fun e p' s' => E e p' s' ∧ DK s₁.heap s'.heap) p s₁ → Sem.wp M Γ t' (fun a p' s' => Q a p' s' ∧ DK s.heap s'.heap) (fun e p' s' => E e p' s' ∧ DK s.heap s'.heap) p s₁ :=
    fun hd h => Sem.wp_mono M Γ _ (fun _ _ _ x => ⟨x.1, hd.trans x.2⟩) (fun _ _ _ x => ⟨x.1, hd.trans x.2⟩) _ _ h
  induction t with
  | pure a => exact fun p s _ h => ⟨h, DK.refl _⟩
  | raise e => exact fun p s _ h => ⟨h, DK.refl _⟩
  | unsupported | finish | register => exact fun p s _ h => h
  | choose | os | call | genState | newGen | resume | yield | fork | await => exact fun p s k _ => k.elim
  | rule _ k ih | «at» _ k ih | point _ k ih => exact fun p s kd h => ih () _ _ kd h
  | load a _ k ih => exact fun p s kd ⟨o, ho, h⟩ => ⟨o, ho, ih o _ _ (kd o) h⟩
  | loadIfAlive a k ih => exact fun p s kd h => ih _ _ _ (kd _) h
  | ask k ih | handled _ k ih | stack k ih | thread k ih => exact fun p s kd h => ih _ _ _ (kd _) h
  | update a _ f k ih => exact fun p s kd ⟨ha, h⟩ => ⟨ha, step (DK.update _ _ _ kd.1) (ih () _ _ kd.2 h)⟩
  | alloc o k ih => intro p s kd h; rw [Sem.wp_alloc] at h ⊢; exact step (s := s) (DK.push _ _) (ih _ _ _ (kd _) h)
  | fresh k ih => exact fun p s kd h => step (s := s) (DK.refl _) (ih _ _ _ (kd _) h)
theorem wpAny_kd {α : Type} {M : Model} {A : Around} {Q : α → Shared → Prop} {E : Value → Shared → Prop} {t : Sem α} {s : Shared} (kd : KD t) (h : wpAny M A t Q E s) :
    wpAny M A t (fun a s' => Q a s' ∧ DK s.heap s'.heap) (fun e s' => E e s' ∧ DK s.heap s'.heap) s := fun Γ p hΓ => wp_kd t p s kd (h Γ p hΓ)
section
variable {α β : Type}
theorem KD.bind {m : Sem α} {f : α → Sem β} (hm : KD m) (hf : ∀ a, KD (f a)) : KD (m >>= f) := by
  show KD (m.bind f)
  induction m with
  | pure a => exact hf a
  | raise | unsupported | finish | register => exact trivial
  | choose | os | call | genState | newGen | resume | yield | fork | await => exact hm.elim
  | rule _ k ih | «at» _ k ih | point _ k ih => exact ih () hm
  | load a _ k ih => exact fun o => ih o (hm o)
  | loadIfAlive a k ih => exact fun o => ih o (hm o)
  | ask k ih | handled _ k ih | stack k ih | thread k ih => exact fun o => ih o (hm o)
  | update a _ f k ih => exact ⟨hm.1, ih () hm.2⟩
  | alloc o k ih => exact fun o => ih o (hm o)
  | fresh k ih => exact fun o => ih o (hm o)
theorem KD.ret (a : α) : KD (pure a : Sem α) := trivial
theorem KD.uns (w : String) : KD (unsupported w : Sem α) := trivial
theorem KD.ld (a : Addr) : KD (load a) := fun _ => trivial
theorem KD.al (o : Obj) : KD (alloc o) := fun _ => trivial
theorem KD.st : KD stack := fun _ => trivial
theorem KD.up (a : Addr) (f : Obj → Obj) (hf : ∀ o, (f o).dict = o.dict ∧ (f o).isFreed = o.isFreed) : KD (update a f) := ⟨hf, trivial⟩
end
theorem map_fields_kept (g : Array Value → Array Value) (o : Obj) : (Obj.mapFields g o).dict = o.dict ∧ (Obj.mapFields g o).isFreed = o.isFreed := by
  obtain ⟨c, d, dat, sl⟩ := o
  cases dat <;> exact ⟨rfl, rfl⟩
theorem kd_field (v : Value) (i : Nat) : KD (field v i) := by
  unfold field fieldsOf
  refine KD.bind ?_ fun vs => ?_
  · cases v <;> first | exact KD.uns _ | (refine KD.bind (KD.ld _) fun o => ?_; split <;> trivial)
  · split <;> trivial
theorem kd_setField (v : Value) (i : Nat) (x : Value) : KD (setField v i x) := by
  unfold setField updateField
  cases v <;> first | exact KD.uns _ | skip
  refine KD.bind (KD.ld _) fun o => ?_
  split
  · split
    · exact KD.up _ _ (map_fields_kept _)
    · exact KD.uns _
  · exact KD.uns _
theorem kd_setFlight (e : Value) (f : Option Addr) : KD (setFlight e f) := by
  unfold setFlight
  refine KD.bind (kd_field _ _) fun tb => ?_
  split
  · exact kd_setField _ _ _
  · trivial
theorem kd_frameEnvs : KD frameEnvs := KD.bind KD.st fun _ => trivial
theorem kd_readyFrames : ∀ l, KD (readyFrames l)
  | [] => trivial
  | env :: outer => by
    unfold readyFrames
    split
    · refine KD.bind (KD.ld _) fun o => ?_
      split
      · trivial
      · refine KD.bind ?_ fun b => KD.bind ?_ fun v => KD.bind (KD.up _ _ fun o => ⟨rfl, by obtain ⟨_, _, dat, _⟩ := o; cases dat <;> rfl⟩) fun _ => kd_readyFrames outer
        · unfold behindIsImport
          split
          · trivial
          · split
            · trivial
            · exact KD.bind (kd_field _ _) fun _ => trivial
        · unfold keptBack
          split
          · split
            · trivial
            · exact KD.bind (KD.bind KD.st fun _ => trivial) fun _ => by split <;> trivial
          · trivial
    · exact KD.uns _
theorem kd_frameObject (l : List Env) : KD (frameObject l) := by
  cases l with
  | nil => trivial
  | cons env outer => exact KD.bind (kd_readyFrames _) fun _ => trivial
theorem kd_frameOf (env : Env) : KD (PySem.frameOf env) := by
  unfold PySem.frameOf
  refine KD.bind kd_frameEnvs fun l => KD.bind (kd_frameObject _) fun r => ?_
  split <;> trivial
theorem kd_newFields (l : List Value) : KD (newFields "traceback" l) := by
  have z : KD (newObjAsIs (.type "traceback") (.fields l.toArray) none) := KD.bind (KD.al _) fun _ => trivial
  show KD (if l.toArray.size > sizeLine + 2 then (unsupported "record:memory" : Sem Unit) >>= fun _ => newObjAsIs (.type "traceback") (.fields l.toArray) none else newObjAsIs (.type "traceback") (.fields l.toArray) none)
  split
  · exact KD.bind (KD.uns _) fun _ => z
  · exact z
theorem kd_noteFrame (e : Value) (env : Env) : KD (noteFrame e env) := by
  unfold noteFrame
  split
  · rename_i f hf
    refine KD.bind (kd_field _ _) fun head => ?_
    have rest : KD (do setField e 1 (← EntryCells.newEntry head (← PySem.frameOf env) .none (rawInt f) .none (← entryPlaceOf f (head != .none)))) := by
      refine KD.bind (kd_frameOf _) fun fr => KD.bind ?_ fun pl => KD.bind ?_ fun b => kd_setField _ _ _
      · unfold entryPlaceOf
        exact KD.bind KD.st fun acts => by split <;> trivial
      · exact kd_newFields _
    split
    · refine KD.bind (kd_field _ _) fun x => ?_
      split
      · trivial
      · exact KD.bind (kd_setField _ _ _) fun _ => rest
    · exact rest
  · exact KD.uns _
theorem kd_leaving (env : Env) (e : Value) : KD (leaving env e) := KD.bind (kd_noteFrame _ _) fun _ => kd_setFlight _ _
end Nn
end
-- NnFly2
section
open PySem PySem.W PySem.Spec PySem.Calls PyProof.Rows
set_option maxRecDepth 100000
set_option maxHeartbeats 8000000
namespace Nn
noncomputable def FlyD (base : Heap) (l : List Env) (e dx : Addr) (news : List (Addr × Obj)) (h : Heap) : Prop :=
  ∃ B a0, base.StaysIn B ∧ (∀ q ∈ news, B.get? q.1 = some q.2 ∧ base.get? q.1 = none) ∧ Heap.FlyingW B l e (.ref 45) a0 h ∧ ∃ oe, h.get? e = some oe ∧ oe.dict = some dx
theorem FlyD.sub {base h : Heap} {l : List Env} {e dx : Addr} {news news' : List (Addr × Obj)} (x : FlyD base l e dx news h) (hs : ∀ p ∈ news', p ∈ news) : FlyD base l e dx news' h :=
  let ⟨B, a0, h1, h2, h3⟩ := x; ⟨B, a0, h1, fun p hp => h2 p (hs p hp), h3⟩
structure FeUp (E : Value → Shared → Prop) (v : Value) (s : Shared) : Prop where
  up : ∃ P e dx t, v = .ref e ∧ (K P).In s.heap ∧ s.heap.get? e = some (excObj (some dx) (excVs t)) ∧ E (.ref e) s
section
variable {M : Model} {A : Around} {E : Value → Shared → Prop} {s s' : Shared} {base g g₂ h h₀ : Heap} {outer : List Env} {L a e dx t : Addr} {m : Str → Option Value} {name : Str} {scope : Scope} {cd : Value} {Q : Unit → Shared → Prop} {news : List (Addr × Obj)}
theorem raise_fe {env : Env} {exc : Expr} {pos : Pos} {Q : Flow → Shared → Prop} (hh : A.handled = none) (h : wpAny M A (eval exc env) (FeUp E) E s) : wpAny M A (exec (.Raise (some exc) none pos) env) Q E s := by
  rw [arm_exec_Raise]
  refine wpAny_bind (wpAny_standAt ?_)
  simp only [evalOpt, Option.map]
  unfold raiseStmt
  refine wpAny_bind (wpAny_bind (wpAny_mono h (fun v s₁ h₁ => ?_) fun _ _ x => x))
  obtain ⟨P, e, dx, t, rfl, X, he, hE⟩ := h₁.up
  have hC := fe_cls X
  have hcB : (Value.ref 45 :: [.ref 32, .type "Exception", .type "BaseException", .type "object"]).contains (.type "BaseException") = true := by decide
  refine wpAny_bind (wpAny_standAt (wpAny_pure ?_))
  obtain ⟨hp, g, d, tk, os⟩ := s₁
  repeat (first | with_reducible refine wpAny_loadPart_at he ?_ | with_reducible refine wpAny_loadPart_at hC ?_ | (with_reducible refine wpAny_isSubtype_exc hC ?_; rw [hcB]) | wp_step)
  exact wpAny_raiseNew_none hh hE
theorem fe_leave1 (hK : Below A base outer g) (F : Fr g L s'.heap m) (N : News g L s'.heap ((e, excObj (some dx) (excVs t)) :: news)) (hne : ∀ p ∈ news, p.1 ≠ e)
    (hQ : ∀ h', FlyD base outer e dx news h' → g.UpToSlots h' → Q () { s' with heap := h' }) (hk : scope.kind = .function := by rfl) :
    wpAny M (A.deeper (envOf name scope L a cd)) (leaving (envOf name scope L a cd) (.ref e)) Q E s' := by
  have K' := hK.push (name := name) (a := a) (cd := cd) F hk
  have he := N _ (.head _)
  have hin : ∀ env ∈ (envOf name scope L a cd :: outer), ∀ b, env.frame = some b → b ∈ e :: (envOf name scope L a cd :: outer).filterMap (·.frame) := fun env he b hb => .tail _ (List.mem_filterMap.mpr ⟨env, he, hb⟩)
  have fresh : ∀ b, g.get? b = none → base.get? b = none := fun b hb => fresh_of_stays hK.stays hb
  have st : base.StaysIn (hideAll s'.heap (e :: (envOf name scope L a cd :: outer).filterMap (·.frame))) := fun b o q => hideAll_get _ (K'.stays b o q) fun hm => by
    rcases List.mem_cons.mp hm with z | hm
    · rw [z, fresh e he.2.2] at q; cases q
    · rw [(K'.frames.mem hm).1] at q; cases q
  have hl : ∀ q ∈ news, (hideAll s'.heap (e :: (envOf name scope L a cd :: outer).filterMap (·.frame))).get? q.1 = some q.2 ∧ base.get? q.1 = none := fun q hq => by
    have Nq := N q (.tail _ hq)
    refine ⟨hideAll_get _ Nq.1 fun hm => ?_, fresh _ Nq.2.2⟩
    rcases List.mem_cons.mp hm with z | hm
    · exact hne q hq z
    · obtain ⟨env, he, hf⟩ := List.mem_filterMap.mp hm
      rcases List.mem_cons.mp he with rfl | he
      · exact Nq.2.1 (Option.some.inj hf).symm
      · obtain ⟨o, ho, _⟩ := (hK.frames.mem (List.mem_filterMap.mpr ⟨env, he, hf⟩)).2
        rw [Nq.2.2] at ho; cases ho
  have hen : (hideAll s'.heap (e :: (envOf name scope L a cd :: outer).filterMap (·.frame))).get? e = none := hideAll_none _ (.head _)
  refine wpAny_mono (wpAny_kd (kd_leaving _ _) (wpAny_leaving_firstW (a0 := .ref t) (Q := fun _ s'' => ∃ h', s'' = { s' with heap := h' } ∧ Heap.LeftW (hideAll s'.heap (e :: (envOf name scope L a cd :: outer).filterMap (·.frame))) (envOf name scope L a cd :: outer) e (.ref 45) (.ref t) s'.heap h') (E := fun _ _ => False)
    (Around.frames_deeper hK.stack) (funFrames_hide K'.frames hin) rfl he.1 (fun b o q => of_hideAll _ q) hen rfl rfl rfl fun h' hL => ⟨h', rfl, hL⟩)) (fun _ s'' hp => ?_) fun _ _ x => x.1.elim
  obtain ⟨⟨h', rfl, k1, ⟨_, _, k2⟩, k3, k4⟩, dk⟩ := hp
  obtain ⟨oe, q1, q2⟩ := dk e _ he.1
  exact hQ h' ⟨_, _, st, hl, ⟨k1, hen, k2, k3⟩, oe, q1, q2⟩ (fun b o q hn => k4 b o (F.keep b o q) hn)
theorem fe_leave (hK : Below A base outer g) (F : Fr g L g₂ m) (R : FlyD base (envOf name scope L a cd :: outer) e dx news s'.heap) (hsm : g₂.UpToSlots s'.heap)
    (hQ : ∀ h', FlyD base outer e dx news h' → g.UpToSlots h' → Q () { s' with heap := h' }) :
    wpAny M (A.deeper (envOf name scope L a cd)) (leaving (envOf name scope L a cd) (.ref e)) Q E s' := by
  obtain ⟨B, a0, hB, hl, hfl, oe, he, hd⟩ := R
  refine wpAny_mono (wpAny_kd (kd_leaving _ _) (wpAny_leaves_onW (Q := fun _ s'' => ∃ h', s'' = { s' with heap := h' } ∧ Heap.FlyingW B outer e (.ref 45) a0 h' ∧ s'.heap.UpToSlots h') (E := fun _ _ => False) (Around.frames_deeper hK.stack) rfl hfl fun h' x1 x2 => ⟨h', rfl, x1, x2⟩)) (fun _ s'' hp => ?_) fun _ _ x => x.1.elim
  obtain ⟨⟨h', rfl, x1, x2⟩, dk⟩ := hp
  obtain ⟨oe', q1, q2⟩ := dk e _ he
  exact hQ h' ⟨B, a0, hB, hl, x1, oe', q1, q2.trans hd⟩ ((Heap.UpToSlots.of_keeps F.keep).trans (hsm.trans x2))
end
end Nn
end
-- NnFly3
section
open PySem PySem.W PySem.Spec PySem.Calls PyProof.Rows
set_option maxRecDepth 100000
set_option maxHeartbeats 8000000
namespace Nn
section
variable {prog : Program} {w : World} {A : Around} {E : Value → Shared → Prop} {s' : Shared} {base h : Heap} {outer : List Env} {L e dx : Addr} {m : Str → Option Value} {env : Env} {Q : Flow → Shared → Prop} {news : List (Addr × Obj)}
  {P : Params} {x n : Str} {b₀ : Stmt} {suite : List Stmt} {pos np : Pos} {rest : List ExceptHandler}
theorem of_conj {α : Type} {M : Model} {A : Around} {Q : α → Shared → Prop} {E : Value → Shared → Prop} {t : Sem α} {s : Shared} (kd : KD t) {R : Heap → Prop}
    (h : wpAny M A t (fun _ s'' => ∃ h', s'' = { s with heap := h' } ∧ R h') (fun _ _ => False) s) (hQ : ∀ a h', R h' → DK s.heap h' → Q a { s with heap := h' }) : wpAny M A t Q E s :=
  wpAny_mono (wpAny_kd kd h) (fun a s'' hp => by obtain ⟨⟨h', rfl, r⟩, dk⟩ := hp; exact hQ a h' r dk) fun _ _ x => x.1.elim
theorem elim2 {α : Type} {p q : α → Prop} {P : Prop} (h : ∃ x, p x ∧ q x) (k : ∀ x, p x → q x → P) : P := let ⟨x, a, b⟩ := h; k x a b
theorem elim3 {α : Type} {p q r : α → Prop} {P : Prop} (h : ∃ x, p x ∧ q x ∧ r x) (k : ∀ x, p x → q x → r x → P) : P := let ⟨x, a, b, c⟩ := h; k x a b c
theorem FlyD.elim {base h : Heap} {l : List Env} {e dx : Addr} {news : List (Addr × Obj)} {P : Prop} (R : FlyD base l e dx news h)
    (k : ∀ B a0, base.StaysIn B → (∀ q ∈ news, B.get? q.1 = some q.2 ∧ base.get? q.1 = none) → Heap.FlyingW B l e (.ref 45) a0 h → ∀ oe, h.get? e = some oe → oe.dict = some dx → P) : P :=
  let ⟨B, a0, h1, h2, h3, oe, h4, h5⟩ := R; k B a0 h1 h2 h3 oe h4 h5
theorem fly_off {B h : Heap} {env : Env} {outer : List Env} {e L : Addr} {c : Value} {a0 : _} (hf : env.frame = some L) (hfl : Heap.FlyingW B (env :: outer) e c a0 h) : B.get? L = none := by
  obtain ⟨_, ⟨L', _, hf', hn', _⟩, _⟩ := hfl.2.2.1
  rw [hf] at hf'
  obtain rfl : L = L' := Option.some.inj hf'
  exact hn'
theorem fly_first {B h₀ h : Heap} {l : List Env} {e dx : Addr} {a0 : _} {oe₀ : Obj} {P : Prop} (hfl : Heap.FlyingW B l e (.ref 45) a0 h) (dk : DK h₀ h) (he : h₀.get? e = some oe₀) (hd : oe₀.dict = some dx)
    (k : ∀ ws osl, h.get? e = some ⟨.ref 45, some dx, .fields ws, osl⟩ → P) : P := by
  obtain ⟨oe, ws, hoe, hoec, hoed, hoe0⟩ := hfl.first
  obtain ⟨oe', q1, q2⟩ := dk e oe₀ he
  rw [hoe] at q1
  obtain rfl := Option.some.inj q1
  have hdd : oe.dict = some dx := q2.trans hd
  obtain ⟨oc, od, odt, osl⟩ := oe
  dsimp only at hoec hoed hdd
  subst hoec hoed hdd
  exact k ws osl hoe
theorem fe_caught (hfr : A.frames = some (env :: outer)) (hf : env.frame = some L) (F : Fr base L h m) (hsm : h.UpToSlots s'.heap) (R : FlyD base (env :: outer) e dx news s'.heap) (X : (K P).In base)
    (hev : ∀ {A' : Around} {E' : Value → Shared → Prop} {Q' : Value → Shared → Prop} {s₁ : Shared}, Fr base L s₁.heap m → Q' (.ref 45) s₁ → wpAny (model prog w) A' (eval (.Name x np) env) Q' E' s₁)
    (hst : ∀ {A' : Around} {E' : Value → Shared → Prop} {Q' : Unit → Shared → Prop} {s₁ : Shared} {nws : List (Addr × Obj)}, Fr base L s₁.heap m → News base L s₁.heap nws →
      (∀ h', Fr base L h' (fun y => if y = n then some (.ref e) else m y) → News base L h' nws → Q' () { s₁ with heap := h', toks := s₁.toks + 1 }) → wpAny (model prog w) A' (storeName env n (.ref e)) Q' E' s₁)
    (k : ∀ h' ws sl tk, Fr base L h' (fun y => if y = n then some (.ref e) else m y) → News base L h' ((e, ⟨.ref 45, some dx, .fields ws, sl⟩) :: news) →
      wpAny (model prog w) (A.mark (some (.ref e))) (execs (b₀ :: suite) env)
        (fun f s₄ => wpAny (model prog w) A (do bindName env n .none; unbindBehindTheSuite env n pos) (fun _ s₅ => Q f s₅) E s₄)
        (AsSuiteRaised (model prog w) (A.mark (some (.ref e))) env n pos (notedBy (model prog w) (A.mark (some (.ref e))) env (cameBackBy (model prog w) A env E)))
        { s' with heap := h', toks := tk }) :
    wpAny (model prog w) A (noteFrame (.ref e) env)
      (fun _ s₂ => wpAny (model prog w) A (setFlight (.ref e) none) (fun _ s₃ =>
        wpAny (model prog w) A (handleBy (.ref e) env (.ExceptHandler (some (.Name x np)) (some n) (b₀ :: suite) pos :: rest)) Q E s₃) E s₂) E s' := by
  refine R.elim fun B a0 hB hl hfl oe₀ he₀ hd₀ => ?_
  have hL := fly_off hf hfl
  refine of_conj (R := fun h₄ => Heap.HeldW B (env :: outer) e (.ref 45) a0 L h₄ ∧ s'.heap.UpToSlots h₄) (kd_noteFrame _ _) (wpAny_looks_onW hfr hf hfl fun h₄ hheld₄ hsm₄ => ⟨h₄, rfl, hheld₄, hsm₄⟩) fun _ h₄ r₄ dk₄ => ?_
  refine of_conj (s := { s' with heap := h₄ }) (R := fun h₅ => Heap.FlyingW B (env :: outer) e (.ref 45) a0 h₅ ∧ h₄.UpToSlots h₅) (kd_setFlight _ _) (wpAny_landsW r₄.1 fun h₅ hheld hsm₅' => ⟨h₅, rfl, hheld, hsm₅'⟩) fun _ h₅ r₅ dk₅ => ?_
  have hsm₅ := r₄.2.trans r₅.2
  have hheld' := flyingW_base hB r₅.1
  have F₅ := F.of_stays hheld'.1 (hsm.trans hsm₅)
  refine elim2 hheld'.there fun ob hob hobc => ?_
  refine wpAny_handleBy_cons (codeAny_handlers_test (hev (s₁ := { s' with heap := h₅ }) F₅ ?_)) (by intro q; cases q)
  have hC := fe_cls (X.keeps F₅.keep)
  refine wpAny_excMatches_sub_self hC hob hobc (by decide) (codeAny_handlers_suite_as ?_)
  refine of_conj (s := { s' with heap := h₅ }) (R := fun h₆ => Heap.FlyingW B (env :: outer) e (.ref 45) a0 h₆ ∧ h₅.UpToSlots h₆) (kd_setFlight _ _) (lands_againW r₅.1 fun h₆ hfl₆ hsm₆ => ⟨h₆, rfl, hfl₆, hsm₆⟩) fun _ h₆ r₆ dk₆ => ?_
  have hfl₆' := flyingW_base hB r₆.1
  have F₆ := F₅.of_stays hfl₆'.1 r₆.2
  refine fly_first hfl₆' (dk₄.trans (dk₅.trans dk₆)) he₀ hd₀ fun ws osl hoe => ?_
  have N₆ := News.more F₆ News.nil hoe (fun es n q => by cases q) hfl₆'.2.1
  have Nl : News base L h₆ news := fun q hq => ⟨r₆.1.1 _ _ (hl q hq).1, (fun z => by have := (hl q hq).1; rw [z, hL] at this; cases this), (hl q hq).2⟩
  refine hst (s₁ := { s' with heap := h₆ }) (nws := (e, ⟨.ref 45, some dx, .fields ws, osl⟩) :: news) F₆ (fun q hq => (List.mem_cons.mp hq).elim (fun z => N₆ q (z ▸ .head _)) (Nl q)) (fun h₇ F₇ N₇ => ?_)
  exact k h₇ ws osl _ F₇ N₇
end
theorem tup_at {h₀ h : Heap} {L a : Addr} {vs : List Value} {news : List (Addr × Obj)} (N : News h₀ L h news) (hm : (a, tupO vs) ∈ news) : IsTup h a vs.toArray := ⟨_, N.get hm, rfl, _, rfl⟩
theorem mem_tail {p b : Addr × Obj} {l : List (Addr × Obj)} (h : p ∈ l) : p ∈ b :: l := .tail _ h
end Nn
end
-- P1
open PySem PySem.W PySem.Spec PySem.Calls PyProof.Rows PyProof.V
namespace Nn
theorem fillX1 : K = K ∧ PySem.Challenge.rw_nn0316_01 = PySem.Challenge.rw_nn0316_01 := by
  k_fill
  exact ⟨rfl, rfl⟩
end Nn
local macro_rules | `(tactic| walk_at $s:str) => `(tactic| k_extra $(Lean.Syntax.mkStrLit (s.getString ++ "!")))
local macro_rules | `(tactic| k_all) => `(tactic| k_extra "k_all!")
set_option hygiene false in
local macro_rules | `(tactic| ktr_call $x:term $c:term) => `(tactic| (k_dflt (refine' code_def (binds := $x) ?c6197ak1 ?c6197ak2 ?c6197ak3 ?c6197ak4 ?c6197ak5 ?c6197akA ?c6197akF ?c6197akK ?c6197ak6 ?c6197ak7 ?c6197ak8 ?c6197ak9 ?c6197akB ?_ ?c6197ac2 ?c6197ac3 ?c6197ac4 ?c6197ac5; k_extra "ktc6197a!")))
local macro_rules | `(tactic| k_steps) => `(tactic| k_extra "k_steps!")
local macro_rules | `(tactic| k_mem) => `(tactic| k_extra "k_mem!")
local macro_rules | `(tactic| ktr_room) => `(tactic| k_extra "ktr_room!")
local macro_rules | `(tactic| ktr_units) => `(tactic| k_extra "ktr_units!")
local macro_rules | `(tactic| ksw_same) => `(tactic| k_extra "ksw_same!")
local macro_rules | `(tactic| omega) => `(tactic| k_extra "omega!")
theorem Nn.wP1 : True := by
  (k_with "k_all!" => first | assumption | exact Nn.ne_of_ltAll (by assumption))
  (k_with "ktc6197a!" => ((case c6197akA => exact rfl); (case c6197akF => exact rfl); (case c6197akK => assumption); (case c6197ak1 => k_asm); (case c6197ak2 => k_asm); (case c6197ak3 => k_asm); (case c6197ak4 => k_asm); (case c6197ak5 => k_asm); (case c6197ak6 => k_is); (case c6197ak7 => k_is); (case c6197ak8 => ktr_room); (case c6197ak9 => first | exact BindsTo.of_eq rfl | exact binds_K (by k_in) rfl (by k_is) rfl rfl rfl); (case c6197ac5 => decide); (case c6197akB => exact locs rfl); (case c6197ac2 => exact rfl); (case c6197ac3 => exact rfl); (case c6197ac4 => exact rfl); k_whole; intro zzg' zzL' zzh' zzFG' zzF' zzN' zzB' zzX' zzT'; (try dsimp only); (try k_fold); refine Nn.cutQ ?_; intro _ _; refine Nn.letA ?_; intro _; (first | ((with_reducible refine' Nn.letEO rfl ?q1d1b9_eX ?q1d1b9_eT ?_); (case q1d1b9_eX => k_asm); (case q1d1b9_eT => k_asm); intro _ _) | ((with_reducible refine' Nn.letEF rfl ?q1d1b9_eX ?q1d1b9_eT ?_); (case q1d1b9_eX => k_asm); (case q1d1b9_eT => k_asm); intro _ _) | fail)))
  (k_with "k_steps!" => repeat' ((fail_if_success (with_reducible show Nn.GEnd _ _ _ _ _ _ _ _ _ _ _)); (fail_if_success (with_reducible show Nn.GPost _ _ _ _ _ _ _ _ _ _ _ _ _)); (fail_if_success (with_reducible show Nn.GPostT _ _ _ _ _ _ _ _ _ _ _ _)); (fail_if_success (with_reducible show Nn.WEnd _ _ _ _ _ _ _ _ _ _ _)); (fail_if_success (with_reducible show Nn.WPost _ _ _ _ _ _ _ _ _ _ _ _ _)); first | (k_unfold; (try dsimp only)) | (k_end; wrow_close) | (walk1; all_goals (try dsimp only)) | (leave1; walk_say "STEP leave1"; try dsimp only) | ((with_reducible show ∀ _, Nn.Cut _ _ → _); intro _ _) | ((fail_if_success (with_reducible show wpAny _ _ _ _ _ _)); first | ((with_reducible refine Nn.Nx.use (by assumption) ?_); (try dsimp only)) | ((with_reducible refine Nn.Rx.ret (by assumption) ?_); (try dsimp only)) | ((with_reducible refine Nn.Rx.brk (by assumption) ?_); (try dsimp only)) | ((with_reducible refine Nn.Rx.cont (by assumption) ?_); (try dsimp only)) | ((with_reducible refine Nn.Cut.use (by assumption) ?_); (try dsimp only))) | fail "no step"))
  (k_with "subscriptTail!" => (k_here; (with_reducible show wpAny _ _ (subscriptTail _ _ (Value.ref _) (Value.int _ _)) _ _ _); k_dflt (refine' item_tupleT ?qcfa7d_t ?qcfa7d_a ?qcfa7d_b ?qcfa7d_c ?qcfa7d_d ?_; (case qcfa7d_t => (refine' Nn.tup_at ?qcfa7d_tN ?qcfa7d_tm; (case qcfa7d_tN => k_asm); (case qcfa7d_tm => k_mem))); (case qcfa7d_a => decide); (case qcfa7d_b => decide); (case qcfa7d_c => exact rfl); (case qcfa7d_d => exact rfl); k_whole)))
  (k_with "k_mem!" => first | ((with_reducible (repeat first | exact List.Mem.head _ | refine Nn.mem_tail ?_)); done) | ktr_member | assumption | exact List.Mem.head _ | (refine' Nn.mem_tail ?_; k_mem) | (refine' Nn.mem_app ?_; k_mem))
  (k_with "ktr_room!" => first | (refine Nn.room (by assumption) ?_; rfl) | (refine Nn.room1 (by assumption) ?_; rfl) | fail)
  (k_with "ktr_units!" => first | (refine Nn.room (by assumption) ?_; rfl) | (refine Nn.room1 (by assumption) ?_; rfl) | fail)
  (k_with "ev!" => first | exact Nn.Ev.int | exact Nn.Ev.str | (refine' Nn.Ev.nameK ?L0ea ?L0eb ?L0ec; (case L0ea => exact rfl); (case L0eb => exact rfl); (case L0ec => k_is)) | (refine' Nn.Ev.name ?L0ea ?L0eb ?L0ec; (case L0ea => exact rfl); (case L0eb => exact rfl); (case L0ec => exact rfl)) | (refine' Nn.Ev.nameB ?L0ea ?L0eb ?L0ec ?L0ed ?L0ef; (case L0ea => exact rfl); (case L0eb => exact rfl); (case L0ec => k_is); (case L0ed => boot_fast); (case L0ef => decide)) | (refine' Nn.Ev.attr ?L0eh ?L0eI ?L0eg ?L0ed ?L0ea ?L0en ?L0el ?L0ev; (case L0eh => k_extra "ev1!"); (case L0eI => k_inst); (case L0eg => k_is); (case L0ed => k_is); (case L0ea => k_is); (case L0en => k_is); (case L0el => k_get); (case L0ev => k_handed)) | (refine' Nn.Ev.add ?L0ea ?L0eb; (case L0ea => k_extra "ev1!"); (case L0eb => k_extra "ev1!")) | (refine' Nn.Ev.sub ?L0ea ?L0eb; (case L0ea => k_extra "ev1!"); (case L0eb => k_extra "ev1!")) | fail)
  (k_with "ev1!" => first | exact Nn.Ev.int | exact Nn.Ev.str | (refine' Nn.Ev.nameK ?L1ea ?L1eb ?L1ec; (case L1ea => exact rfl); (case L1eb => exact rfl); (case L1ec => k_is)) | (refine' Nn.Ev.name ?L1ea ?L1eb ?L1ec; (case L1ea => exact rfl); (case L1eb => exact rfl); (case L1ec => exact rfl)) | (refine' Nn.Ev.nameB ?L1ea ?L1eb ?L1ec ?L1ed ?L1ef; (case L1ea => exact rfl); (case L1eb => exact rfl); (case L1ec => k_is); (case L1ed => boot_fast); (case L1ef => decide)) | (refine' Nn.Ev.attr ?L1eh ?L1eI ?L1eg ?L1ed ?L1ea ?L1en ?L1el ?L1ev; (case L1eh => k_extra "ev2!"); (case L1eI => k_inst); (case L1eg => k_is); (case L1ed => k_is); (case L1ea => k_is); (case L1en => k_is); (case L1el => k_get); (case L1ev => k_handed)) | (refine' Nn.Ev.add ?L1ea ?L1eb; (case L1ea => k_extra "ev2!"); (case L1eb => k_extra "ev2!")) | (refine' Nn.Ev.sub ?L1ea ?L1eb; (case L1ea => k_extra "ev2!"); (case L1eb => k_extra "ev2!")) | fail)
  (k_with "ev2!" => first | exact Nn.Ev.int | exact Nn.Ev.str | (refine' Nn.Ev.nameK ?L2ea ?L2eb ?L2ec; (case L2ea => exact rfl); (case L2eb => exact rfl); (case L2ec => k_is)) | (refine' Nn.Ev.name ?L2ea ?L2eb ?L2ec; (case L2ea => exact rfl); (case L2eb => exact rfl); (case L2ec => exact rfl)) | (refine' Nn.Ev.nameB ?L2ea ?L2eb ?L2ec ?L2ed ?L2ef; (case L2ea => exact rfl); (case L2eb => exact rfl); (case L2ec => k_is); (case L2ed => boot_fast); (case L2ef => decide)) | (refine' Nn.Ev.attr ?L2eh ?L2eI ?L2eg ?L2ed ?L2ea ?L2en ?L2el ?L2ev; (case L2eh => k_extra "ev3!"); (case L2eI => k_inst); (case L2eg => k_is); (case L2ed => k_is); (case L2ea => k_is); (case L2en => k_is); (case L2el => k_get); (case L2ev => k_handed)) | (refine' Nn.Ev.add ?L2ea ?L2eb; (case L2ea => k_extra "ev3!"); (case L2eb => k_extra "ev3!")) | (refine' Nn.Ev.sub ?L2ea ?L2eb; (case L2ea => k_extra "ev3!"); (case L2eb => k_extra "ev3!")) | fail)
  (k_with "evs!" => first | exact Nn.Evs.nil | (refine' Nn.Evs.cons ?q53e14_ea ?q53e14_eb rfl; (case q53e14_ea => k_extra "ev!"); (case q53e14_eb => k_extra "evs!")) | fail)
  (k_with "evR!" => (refine' Nn.Ev.run ?qdbeee_eG ?qdbeee_eF ?qdbeee_ea ?_; (case qdbeee_eG => with_reducible assumption); (case qdbeee_eF => k_asm); (case qdbeee_ea => k_extra "ev!"); k_whole))
  (k_with "eval Name!" => k_dflt (k_extra "evR!"))
  (k_with "eval Attribute Name!" => k_dflt (k_extra "evR!"))
  (k_with "eval BinOp!" => k_dflt (first | k_extra "evR!" | (refine' Nn.Bin_run ?q0046c_eG ?q0046c_eF ?q0046c_ea ?q0046c_eb ?_; (case q0046c_eG => with_reducible assumption); (case q0046c_eF => k_asm); (case q0046c_ea => k_extra "ev!"); (case q0046c_eb => k_extra "ev!"); k_whole) | fail))
  (k_with "eval Subscript!" => k_dflt (refine' Nn.Sub_run ?qa39d4_eG ?qa39d4_eF ?qa39d4_ea ?qa39d4_eb ?_; (case qa39d4_eG => with_reducible assumption); (case qa39d4_eF => k_asm); (case qa39d4_ea => k_extra "ev!"); (case qa39d4_eb => k_extra "ev!"); k_whole))
  (k_with "isTrue Compare!" => k_dflt (refine' Nn.Cmp_run ?q8bcca_eG ?q8bcca_eF ?q8bcca_ea ?q8bcca_eb rfl ?_; (case q8bcca_eG => with_reducible assumption); (case q8bcca_eF => k_asm); (case q8bcca_ea => k_extra "ev!"); (case q8bcca_eb => k_extra "ev!"); k_whole))
  (k_with "spliced!" => k_dflt (refine' Nn.Evs.run ?qa771a_eG ?qa771a_eF ?qa771a_ea ?_; (case qa771a_eG => with_reducible assumption); (case qa771a_eF => k_asm); (case qa771a_ea => k_extra "evs!"); k_whole; (try dsimp only [List.nil_append, List.cons_append])))
  (k_with "execs cons!" => first | ((with_reducible show wpAny _ _ (execs (Stmt.Assign [Expr.Name _ _] _ _ :: _) _) _ _ _); k_dflt (refine' Nn.AsgS_run ?q83c57_eG ?q83c57_eF ?q83c57_eN ?q83c57_ea ?q83c57_eb ?q83c57_ec ?_; (case q83c57_eG => with_reducible assumption); (case q83c57_eF => k_asm); (case q83c57_eN => k_asm); (case q83c57_ea => k_extra "ev!"); (case q83c57_eb => exact rfl); (case q83c57_ec => exact rfl); k_whole; intro zzh' zzF' zzN'; (try k_sweep))) | (with_reducible refine Nn.execs_one ?_) | (with_reducible refine Nn.execs_consC ?_; intro _ _ _) | fail)
  (k_with "ksw_same!" => first | (refine Nn.off_of (by repeat first | exact Nn.Keys.nil | apply Nn.Keys.cons) ?_; (repeat' first | (with_reducible exact Nn.OffA.refl) | ((with_reducible refine Nn.OffA.upd ?_ ?_); rotate_left; exact rfl) | ((with_reducible refine Nn.OffA.updO ?_ ?_); rotate_left; exact rfl) | ((with_reducible refine Nn.OffA.kcons ?_ ?_); rotate_left; exact rfl) | (with_reducible refine Nn.OffA.knil ?_) | ((with_reducible refine Nn.OffA.sto ?_ ?_); rotate_left; exact rfl)); done) | fail)
  (k_with "klt!" => first | assumption | exact And.left (by assumption) | exact And.left (And.right (by assumption)) | exact And.left (And.right (And.right (by assumption))) | exact And.left (And.right (And.right (And.right (by assumption)))) | exact And.left (And.right (And.right (And.right (And.right (by assumption))))) | exact And.left (And.right (And.right (And.right (And.right (And.right (by assumption)))))) | exact And.left (And.right (And.right (And.right (And.right (And.right (And.right (by assumption))))))) | exact And.left (And.right (And.right (And.right (And.right (And.right (And.right (And.right (by assumption)))))))) | exact And.left (And.right (And.right (And.right (And.right (And.right (And.right (And.right (And.right (by assumption))))))))) | exact And.left (And.right (And.right (And.right (And.right (And.right (And.right (And.right (And.right (And.right (by assumption)))))))))) | exact And.left (And.right (And.right (And.right (And.right (And.right (And.right (And.right (And.right (And.right (And.right (by assumption))))))))))) | exact And.left (And.right (And.right (And.right (And.right (And.right (And.right (And.right (And.right (And.right (And.right (And.right (by assumption)))))))))))) | fail)
  (k_with "qne!" => first | (refine Nat.ne_of_lt ?_; k_extra "klt!") | (refine Nat.ne_of_gt ?_; k_extra "klt!") | exact Nat.ne_of_lt (Nat.lt_trans (by assumption) (by assumption)) | exact Nat.ne_of_gt (Nat.lt_trans (by assumption) (by assumption)) | exact Nat.ne_of_lt (Nat.lt_trans (by assumption) (Nat.lt_trans (by assumption) (by assumption))) | exact Nat.ne_of_gt (Nat.lt_trans (by assumption) (Nat.lt_trans (by assumption) (by assumption))) | fail)
  (k_with "qlt!" => first | exact Nn.room (by assumption) (by rfl) | exact Nn.room1 (by assumption) (by rfl) | exact Nn.qlt2 (by assumption) (by rfl) | exact Nn.qlt (by assumption) (by rfl) | exact Nat.lt_of_le_of_lt (Nat.le_add_right _ _) (by assumption) | exact Nat.lt_trans (by assumption) (by assumption) | k_extra "klt!" | decide | fail)
  (k_with "qle!" => first | exact Nn.qle (by assumption) (by rfl) | exact Nn.qll (by assumption) (by rfl) | exact Nn.qleS (by assumption) (by rfl) | exact Nn.qle2 (by assumption) (by assumption) (by rfl) | exact Nn.qleE (by assumption) (by assumption) (by rfl) | (refine Nat.le_of_lt ?_; k_extra "klt!") | decide | fail)
  (k_with "qzl!" => first | exact Nn.zcl (by assumption) (by decide) | exact Nn.zlt (by assumption) (by decide) | exact Nn.zlt' (by assumption) (by decide) | exact Nn.zgt (by assumption) (by decide) | decide | fail)
  (k_with "qze!" => first | exact Nn.zng (by decide) | exact Nn.zge (by assumption) (by decide) | exact Nn.zle (by assumption) (by decide) | exact Nn.zcle (by assumption) (by decide) | exact Nn.zle' (by assumption) (by decide) | decide | fail)
  (k_with "omega!" => with_reducible (k_whole; first | ((show (_ : Nat) < _); k_extra "qlt!") | ((show (_ : Nat) ≤ _); k_extra "qle!") | ((show (_ : Nat) ≠ _); k_extra "qne!") | ((show (_ : Int) < _); k_extra "qzl!") | ((show (_ : Int) ≤ _); k_extra "qze!") | fail))
  trivial
namespace Nn
/-! ## The small functions over texts -/
noncomputable abbrev mk (l : List Nat) : Str := ⟨l.toArray⟩
noncomputable def isLay (n : Nat) : Bool := decide (n ∈ [32, 9, 13, 10, 11, 12])
theorem lay_lit : Str.ofString " \t\r\n\x0b\x0c" = mk [32, 9, 13, 10, 11, 12] := by decide +kernel
theorem lay_in (n : Nat) : (!(Builtin.Str.occurrences (Str.ofString " \t\r\n\x0b\x0c") ⟨#[n]⟩ 0 (Str.ofString " \t\r\n\x0b\x0c").length 1).isEmpty) = isLay n := by
  rw [StrLaws.found_one, lay_lit]
  rfl
theorem is_layout_s {w : World} {mean : ExcName → Option Value} {mg mb : Str → Option Value} {dp un : Nat} {gd : Option (List Code)} {cn : Str} {cs : Scope} {a : Addr} {ccd : Value} {cl : List (Str × Addr)} {outer : List Env} {A₀ : Around} {base h₀ : Heap} {L : Addr} {m : Str → Option Value} {news : List (Addr × Obj)} {s : Shared}
    {Q E : Value → Shared → Prop} {n : Nat} {t : Tok}
    (B : Below A₀ base outer h₀) (F : Fr h₀ L s.heap m) (X : (K w.params).In h₀) (T : Top q looseN mean mg mb h₀) (hk : cs.kind = .function) (N : News h₀ L s.heap (news)) 
    (hd : dp + 4 < recursionLimit) (hu : un + 32 < cLine)
    (ret : ∀ h' tk', Fr h₀ L h' m → News h₀ L h' (news) → Q (.bool (isLay n)) { s with heap := h', toks := tk' }) :
    wpAny (model PySem.Challenge.rw_nn0316_01.prog w) (ktrTop dp un gd cn cs L a ccd cl outer) (call (.ref 110) [.str ⟨#[n]⟩ t]) Q E s := by
  refine wpAny_call ?_
  ktr_call [("sign", .str ⟨#[n]⟩ t)] ()
  k_steps
  rw [lay_in]
  exact ret _ _ (by k_asm) (by k_asm)
noncomputable def ext (y : Str) : Str := if y = Str.ofString "1" then Str.ofString "0" else y
theorem extension_s {w : World} {mean : ExcName → Option Value} {mg mb : Str → Option Value} {dp un : Nat} {gd : Option (List Code)} {cn : Str} {cs : Scope} {a : Addr} {ccd : Value} {cl : List (Str × Addr)} {outer : List Env} {A₀ : Around} {base h₀ : Heap} {L : Addr} {m : Str → Option Value} {news : List (Addr × Obj)} {s : Shared}
    {Q E : Value → Shared → Prop} {y : Str} {t : Tok}
    (B : Below A₀ base outer h₀) (F : Fr h₀ L s.heap m) (X : (K w.params).In h₀) (T : Top q looseN mean mg mb h₀) (hk : cs.kind = .function) (N : News h₀ L s.heap (news)) 
    (hd : dp + 4 < recursionLimit) (hu : un + 32 < cLine)
    (ret : ∀ t' h' tk', Fr h₀ L h' m → News h₀ L h' (news) → Q (.str (ext y) t') { s with heap := h', toks := tk' }) :
    wpAny (model PySem.Challenge.rw_nn0316_01.prog w) (ktrTop dp un gd cn cs L a ccd cl outer) (call (.ref 89) [.str y t]) Q E s := by
  refine wpAny_call ?_
  have e1 : y = Str.ofString "1" → ext y = Str.ofString "0" := fun h => if_pos h
  have e2 : y ≠ Str.ofString "1" → ext y = y := fun h => if_neg h
  ktr_call [("sign", .str y t)] ()
  k_steps
  · rw [← e1 (by simp_all)]; exact ret _ _ _ (by k_asm) (by k_asm)
  · rw [← e2 (by simp_all)]; exact ret _ _ _ (by k_asm) (by k_asm)
noncomputable def codeI (lo hi i : Int) : Int := Builtin.bitAnd (lo.fdiv (2 ^ i.toNat)) 1 + 2 * Builtin.bitAnd (hi.fdiv (2 ^ i.toNat)) 1
theorem code_s {w : World} {mean : ExcName → Option Value} {mg mb : Str → Option Value} {dp un : Nat} {gd : Option (List Code)} {cn : Str} {cs : Scope} {a : Addr} {ccd : Value} {cl : List (Str × Addr)} {outer : List Env} {A₀ : Around} {base h₀ : Heap} {L : Addr} {m : Str → Option Value} {news : List (Addr × Obj)} {s : Shared}
    {Q E : Value → Shared → Prop} {va : Nat} {wd lo hi i : Int} {t1 t2 t3 t4 : Tok}
    (B : Below A₀ base outer h₀) (F : Fr h₀ L s.heap m) (X : (K w.params).In h₀) (T : Top q looseN mean mg mb h₀) (hk : cs.kind = .function) (N : News h₀ L s.heap (news)) (hv : (va, tupO [.int wd t1, .int lo t2, .int hi t3]) ∈ news) (hi0 : 0 ≤ i)
    (hd : dp + 4 < recursionLimit) (hu : un + 32 < cLine)
    (ret : ∀ t' h' tk', Fr h₀ L h' m → News h₀ L h' (news) → Q (.int (codeI lo hi i) t') { s with heap := h', toks := tk' }) :
    wpAny (model PySem.Challenge.rw_nn0316_01.prog w) (ktrTop dp un gd cn cs L a ccd cl outer) (call (.ref 54) [.ref va, .int i t4]) Q E s := by
  refine wpAny_call ?_
  ktr_call [("v", .ref va), ("i", .int i t4)] ()
  k_steps
  exact ret _ _ _ (by k_asm) (by k_asm)
end Nn
-- NnLoop
section
open PySem PySem.W PySem.Spec PySem.Calls PyProof.Rows
set_option maxRecDepth 100000
set_option maxHeartbeats 8000000
section
local macro_rules | `(tactic| omega) => `(tactic| k_extra "oNnLoop")
theorem Nn.oNnLoop : True := by
  (k_with "oNnLoop" => with_reducible (k_whole; first | k_extra "omega!" | ((show (_ : Nat) = _); first | exact Nn.q4 | fail) | fail))
  trivial
namespace Nn
/-! ## Loops: a rule that lets the ledger grow -/
noncomputable def Halt (p : Prop) : Prop := p
theorem halt {p : Prop} (h : Halt p) : p := h
theorem go {p : Prop} (h : p) : Halt p := h
/-- no object of `own` lies at an address of `ads` -/
noncomputable def Apart (ads : List Addr) (own : List (Addr × Obj)) : Prop := ∀ b ∈ ads, ∀ p ∈ own, p.1 ≠ b
theorem Apart.nil {own} : Apart [] own := fun _ h => nomatch h
theorem Apart.cons {a ads own} (h : ∀ p ∈ own, p.1 ≠ a) (r : Apart ads own) : Apart (a :: ads) own := fun b hb => by
  rcases List.mem_cons.mp hb with rfl | hb
  · exact h
  · exact r b hb
theorem Apart.head {a ads own} (r : Apart (a :: ads) own) : ∀ p ∈ own, p.1 ≠ a := r a (.head _)
theorem Apart.tail {a ads own} (r : Apart (a :: ads) own) : Apart ads own := fun b hb => r b (.tail _ hb)
theorem Apart.ne {ads own b} (r : Apart ads own) (hb : b ∈ ads) : ∀ p ∈ own, p.1 ≠ b := r b hb
/-- what a loop's names mean: the first come first, the stored ones anything, the rest as before -/
noncomputable abbrev LM (stored : List Str) (u m₀ : Str → Option Value) (ps : List (Str × Value)) : Str → Option Value :=
  kstB (fun z => if stored.contains z then u z else m₀ z) ps
/-! which names a loop's body may have changed, told name by name -/
inductive Keys : List (Str × Value) → List Str → Prop
  | nil : Keys [] []
  | cons {k : Str} {v : Value} {ps : List (Str × Value)} {ks : List Str} (h : Keys ps ks) : Keys ((k, v) :: ps) (k :: ks)
theorem Keys.mem {z : Str} : ∀ {ps : List (Str × Value)} {ks : List Str}, Keys ps ks → (∀ p ∈ ps, z ≠ p.1) → z ∉ ks
  | _, _, .nil, _ => fun h => nomatch h
  | _, _, .cons h, hn => fun hm => by
    rcases List.mem_cons.mp hm with e | hm
    · exact hn _ (.head _) e
    · exact h.mem (fun p hp => hn p (.tail _ hp)) hm
noncomputable def OffA (al : List Str) (m₀ m' : Str → Option Value) : Prop := ∀ z, z ∉ al → m' z = m₀ z
section
variable {al : List Str} {m₀ m : Str → Option Value}
theorem OffA.refl : OffA al m₀ m₀ := fun _ _ => rfl
theorem not_al {k z : Str} (hk : true = al.contains k) (hz : z ∉ al) : z ≠ k := fun e => hz (by rw [e]; simpa using hk.symm)
theorem OffA.upd {k : Str} {v : Value} (h : OffA al m₀ m) (hk : true = al.contains k) : OffA al m₀ (fun y => if y = k then some v else m y) := fun z hz => by
  show (if z = k then some v else m z) = m₀ z
  rw [if_neg (not_al hk hz)]; exact h z hz
theorem OffA.updO {k : Str} {f : Str → Option Value} (h : OffA al m₀ m) (hk : true = al.contains k) : OffA al m₀ (fun y => if y = k then f y else m y) := fun z hz => by
  show (if z = k then f z else m z) = m₀ z
  rw [if_neg (not_al hk hz)]; exact h z hz
theorem OffA.kcons {k : Str} {v : Value} {r : List (Str × Value)} (h : OffA al m₀ (kstB m r)) (hk : true = al.contains k) : OffA al m₀ (kstB m ((k, v) :: r)) := OffA.upd h hk
theorem OffA.knil (h : OffA al m₀ m) : OffA al m₀ (kstB m []) := h
theorem OffA.sto {stored : List Str} {u : Str → Option Value} (h : OffA al m₀ m) (hk : true = stored.all al.contains) : OffA al m₀ (fun z => if stored.contains z then u z else m z) := fun z hz => by
  show (if stored.contains z = true then u z else m z) = m₀ z
  rw [if_neg]
  · exact h z hz
  · intro e
    have h1 := List.all_eq_true.mp hk.symm z (by simpa using e)
    exact hz (by simpa using h1)
theorem off_of {x stored ks : List Str} {ps : List (Str × Value)} {m' : Str → Option Value} (hk : Keys ps ks) (h : OffA (x ++ (ks ++ stored)) m₀ m') : ∀ z, z ∉ x → (∀ p ∈ ps, z ≠ p.1) → stored.contains z = false → m' z = m₀ z := fun z h1 h2 h3 =>
  h z fun hm => by
    rcases List.mem_append.mp hm with hm | hm
    · exact h1 hm
    · rcases List.mem_append.mp hm with hm | hm
      · exact hk.mem h2 hm
      · rw [List.contains_iff_mem.mpr hm] at h3; cases h3
end
theorem mem_app {p : Addr × Obj} {a b : List (Addr × Obj)} (h : p ∈ a) : p ∈ a ++ b := List.mem_append.mpr (.inl h)
theorem nm1 {h₀ h : Heap} {L l : Addr} {o : Obj} {rest : List (Addr × Obj)} (_N : News h₀ L h ((l, o) :: rest)) : ∃ l', l' = l := ⟨l, rfl⟩
theorem ne_app {own news : List (Addr × Obj)} {a : Addr} (h1 : ∀ p ∈ news, p.1 < a) (h2 : ∀ p ∈ own, p.1 ≠ a) : ∀ p ∈ news ++ own, p.1 ≠ a := fun p hp => (List.mem_append.mp hp).elim (fun h => Nat.ne_of_lt (h1 p h)) (h2 p)
theorem ne_app2 {own news : List (Addr × Obj)} {a : Addr} (h1 : ∀ p ∈ news, p.1 ≠ a) (h2 : ∀ p ∈ own, p.1 ≠ a) : ∀ p ∈ news ++ own, p.1 ≠ a := fun p hp => (List.mem_append.mp hp).elim (h1 p) (h2 p)
theorem sub_refl {N : List (Addr × Obj)} : ∀ p ∈ N, p ∈ N := fun _ h => h
theorem sub_nil {N : List (Addr × Obj)} : ∀ p ∈ ([] : List (Addr × Obj)), p ∈ N := fun _ h => nomatch h
theorem sub_cons {a : Addr × Obj} {l N : List (Addr × Obj)} (h : a ∈ N) (t : ∀ p ∈ l, p ∈ N) : ∀ p ∈ a :: l, p ∈ N := fun p hp => by
  rcases List.mem_cons.mp hp with rfl | hp
  · exact h
  · exact t p hp
theorem sub_tail {a : Addr × Obj} {l N : List (Addr × Obj)} (t : ∀ p ∈ l, p ∈ N) : ∀ p ∈ l, p ∈ a :: N := fun p hp => .tail _ (t p hp)
theorem sub_l {l a b : List (Addr × Obj)} (t : ∀ p ∈ l, p ∈ a) : ∀ p ∈ l, p ∈ a ++ b := fun p hp => List.mem_append.mpr (.inl (t p hp))
theorem sub_r {l a b : List (Addr × Obj)} (t : ∀ p ∈ l, p ∈ b) : ∀ p ∈ l, p ∈ a ++ b := fun p hp => List.mem_append.mpr (.inr (t p hp))
theorem sub_app {a b N : List (Addr × Obj)} (h : ∀ p ∈ a, p ∈ N) (t : ∀ p ∈ b, p ∈ N) : ∀ p ∈ a ++ b, p ∈ N := fun p hp => (List.mem_append.mp hp).elim (h p) (t p)
theorem news_sub {h₀ h : Heap} {L : Addr} {N l : List (Addr × Obj)} (hN : News h₀ L h N) (hs : ∀ p ∈ l, p ∈ N) : News h₀ L h l := fun p hp => hN p (hs p hp)
noncomputable def Has (m : Str → Option Value) (ps : List (Str × Value)) : Prop := ∀ p ∈ ps, m p.1 = some p.2
theorem ag_nil {m : Str → Option Value} : Has m [] := fun _ h => nomatch h
theorem ag_cons {m : Str → Option Value} {x : Str} {v : Value} {l : List (Str × Value)} (h : m x = some v) (t : Has m l) : Has m ((x, v) :: l) := fun p hp => by
  rcases List.mem_cons.mp hp with rfl | hp
  · exact h
  · exact t p hp
theorem sa_snoc {y : Str} {t : Tok} : ∀ {vs : List Value} {ys : List Str}, StrsAre vs ys → StrsAre (vs ++ [.str y t]) (ys ++ [y])
  | _, _, .nil => .cons y t .nil
  | _, _, .cons z u h => .cons z u (sa_snoc h)
theorem sa_len : ∀ {vs : List Value} {ys : List Str}, StrsAre vs ys → vs.length = ys.length
  | _, _, .nil => rfl
  | _, _, .cons _ _ h => congrArg (· + 1) (sa_len h)
noncomputable abbrev one (n : Nat) : Str := ⟨#[n]⟩
theorem ones_sum (l : List Nat) : ((l.map one).map (·.length)).sum = l.length := by
  induction l with
  | nil => rfl
  | cons a r ih => simp only [List.map_cons, List.sum_cons, ih, List.length_cons]; show 1 + _ = _; omega
section
variable {σ : Type}
structure Agree (stored : List Str) (m₀ m' : Str → Option Value) (x : List Str) (ps : List (Str × Value)) : Prop where
  on : Has m' ps
  off : ∀ z, z ∉ x → (∀ p ∈ ps, z ≠ p.1) → stored.contains z = false → m' z = m₀ z
noncomputable def GEnd (h₀ : Heap) (L : Addr) (Led : σ → List (Addr × Obj)) (ps : σ → List (Str × Value)) (x stored : List Str) (m₀ : Str → Option Value) (own : List (Addr × Obj)) (J : σ → Prop) (s₁ s₂ : Shared) : Prop :=
  ∃ (c : σ) (h' : Heap) (tk : Nat) (m' : Str → Option Value) (news' : List (Addr × Obj)), s₂ = { s₁ with heap := h', toks := tk } ∧ Fr h₀ L h' m' ∧ News h₀ L h' news' ∧ (∀ p ∈ Led c, p ∈ news') ∧ (∀ p ∈ own, p ∈ news') ∧
    Apart ((Led c).map (·.1)) own ∧ Agree stored m₀ m' x (ps c) ∧ J c
theorem GEnd.intro {h₀ : Heap} {L : Addr} {Led : σ → List (Addr × Obj)} {ps : σ → List (Str × Value)} {x stored : List Str} {m₀ : Str → Option Value} {own : List (Addr × Obj)} {J : σ → Prop} {s₁ : Shared}
    (c : σ) {h' : Heap} {tk : Nat} {m' : Str → Option Value} {news' : List (Addr × Obj)} (F : Fr h₀ L h' m') (N : News h₀ L h' news') (h1 : ∀ p ∈ Led c, p ∈ news') (h2 : ∀ p ∈ own, p ∈ news')
    (h3 : Apart ((Led c).map (·.1)) own) (h4 : Agree stored m₀ m' x (ps c)) (h5 : J c) : GEnd h₀ L Led ps x stored m₀ own J s₁ { s₁ with heap := h', toks := tk } :=
  ⟨c, h', tk, m', news', rfl, F, N, h1, h2, h3, h4, h5⟩
noncomputable def GPost (h₀ : Heap) (L : Addr) (Led : σ → List (Addr × Obj)) (ps : σ → List (Str × Value)) (x stored : List Str) (m₀ : Str → Option Value) (own : List (Addr × Obj)) (J : σ → Prop) (s₁ : Shared) (Q : Flow → Shared → Prop) (f : Flow) (s₂ : Shared) : Prop :=
  match f with
  | .ret v => Q (.ret v) s₂
  | .brk => Q .next s₂
  | _ => GEnd h₀ L Led ps x stored m₀ own J s₁ s₂
noncomputable def GPostT (h₀ : Heap) (L : Addr) (Led : σ → List (Addr × Obj)) (ps : σ → List (Str × Value)) (x stored : List Str) (m₀ : Str → Option Value) (own : List (Addr × Obj)) (J : σ → Prop) (s₁ : Shared) (f : Flow) (s₂ : Shared) : Prop :=
  f = .next ∧ GEnd h₀ L Led ps x stored m₀ own J s₁ s₂
theorem lm_eq {x : Str} {ps : List (Str × Value)} {stored : List Str} {m₀ m₁ : Str → Option Value} (h : Agree stored m₀ m₁ [x] ps) {y : Str} (hy : y ≠ x) : LM stored m₁ m₀ ps y = m₁ y := by
  refine kstB_eq h.on fun hn => ?_
  show (if stored.contains y = true then m₁ y else m₀ y) = m₁ y
  cases h3 : stored.contains y with
  | true => simp
  | false => simp only [Bool.false_eq_true, if_false]; exact (h.off y (by simpa using hy) hn h3).symm
theorem lm_eqT {x : List Str} {ps : List (Str × Value)} {stored : List Str} {m₀ m₁ : Str → Option Value} (h : Agree stored m₀ m₁ x ps) (hx : ∀ y ∈ x, stored.contains y = true) : LM stored m₁ m₀ ps = m₁ := by
  funext y
  refine kstB_eq h.on fun hn => ?_
  show (if stored.contains y = true then m₁ y else m₀ y) = m₁ y
  cases h3 : stored.contains y with
  | true => simp
  | false =>
    simp only [Bool.false_eq_true, if_false]
    exact (h.off y (fun hm => by rw [hx y hm] at h3; cases h3) hn h3).symm
theorem lm_fr {h₀ : Heap} {x : Str} {L : Addr} {h : Heap} {ps : List (Str × Value)} {stored : List Str} {m₀ m₁ : Str → Option Value} {v : Value} (a : Agree stored m₀ m₁ [x] ps)
    (F : Fr h₀ L h (fun y => if y = x then some v else m₁ y)) : Fr h₀ L h (fun y => if y = x then some v else LM stored m₁ m₀ ps y) := by
  have em : (fun y => if y = x then some v else LM stored m₁ m₀ ps y) = fun y => if y = x then some v else m₁ y := by
    funext y
    by_cases hy : y = x
    · rw [if_pos hy, if_pos hy]
    · rw [if_neg hy, if_neg hy, lm_eq a hy]
  rw [em]; exact F
theorem lm_frOut {h₀ : Heap} {x : Str} {L : Addr} {h : Heap} {ps : List (Str × Value)} {stored : List Str} {m₀ m₁ : Str → Option Value} (a : Agree stored m₀ m₁ [x] ps)
    (F : Fr h₀ L h m₁) : Fr h₀ L h (fun y => if y = x then m₁ y else LM stored m₁ m₀ ps y) := by
  have em : (fun y => if y = x then m₁ y else LM stored m₁ m₀ ps y) = m₁ := by
    funext y
    by_cases hy : y = x
    · rw [if_pos hy]
    · rw [if_neg hy, lm_eq a hy]
  rw [em]; exact F
variable {prog : Program} {w : World} {A : Around} {E : Value → Shared → Prop} {s : Shared} {env : Env} {h₀ : Heap} {x : Str} {body : List Stmt} {Q : Flow → Shared → Prop}
/-- the end of a turn, put back into the library's word -/
theorem GEnd.step {Led : σ → List (Addr × Obj)} {ps : σ → List (Str × Value)} {xs stored : List Str} {m₀ : Str → Option Value} {J : Nat → σ → Prop} {fix own : List (Addr × Obj)} {fp wr : List Addr} {L : Addr} {i : Nat} {s₁ s₂ : Shared}
    (hsub : ∀ b ∈ wr, b ∈ fp) (hwr : ∀ b ∈ wr, h₀.get? b = none) (hlive : ∀ b ∈ wr, ∃ o, s₁.heap.get? b = some o) (hfix : ∀ b ∈ fp, b ∈ wr ∨ ∃ o, (b, o) ∈ fix)
    (hled : ∀ i c, J i c → ∀ p ∈ fix, p ∈ Led c) (hl : ∀ p ∈ fix, s₁.heap.get? p.1 = some p.2)
    (hown : ∀ p ∈ own, p.1 ∈ fp) (hget : ∀ p ∈ own, s₁.heap.get? p.1 = some p.2) (hall : ∀ b ∈ fp, h₀.get? b = none → ∀ o, s₁.heap.get? b = some o → (b, o) ∈ own)
    (g : GEnd h₀ L Led ps xs stored m₀ (own.filter fun p => decide (p.1 ∈ wr)) (J (i + 1)) s₁ s₂) :
    LoopStepU h₀ L wr own (fun m nx => ∃ c, nx = Led c ∧ Agree stored m₀ m xs (ps c) ∧ J (i + 1) c) s₁ .next s₂ := by
  obtain ⟨c, h', tk, m', news', rfl, F', N', hn, ho, ha, hag, hJ⟩ := g
  refine ⟨rfl, h', tk, m', Led c, rfl, F', fun p hp => ?_, fun p hp hw => ?_, c, rfl, hag, hJ⟩
  · rcases List.mem_append.mp hp with h | h
    · by_cases hI : p.1 ∈ wr
      · exact N' p (ho p (List.mem_filter.mpr ⟨h, by simpa using hI⟩))
      · obtain ⟨o, hof⟩ := (hfix _ (hown p h)).resolve_left hI
        have h2 := hget p h
        have h4 := hl _ hof
        have h3 : p = (p.1, o) := by
          refine Prod.ext rfl ?_
          exact Option.some.inj (h2.symm.trans h4)
        rw [h3]
        exact N' _ (hn _ (hled _ _ hJ _ hof))
    · exact N' p (hn p h)
  · obtain ⟨o, hob⟩ := hlive _ hw
    refine ha p.1 (List.mem_map.mpr ⟨p, hp, rfl⟩) (p.1, o) (List.mem_filter.mpr ⟨hall _ (hsub _ hw) (hwr _ hw) o hob, by simpa using hw⟩) rfl
theorem loopV {I : Addr} {fp wr : List Addr} {n : Nat} {P : Nat → Value → Prop} {St : Nat → Heap → Prop} {m₀ : Str → Option Value} (Led : σ → List (Addr × Obj)) (ps : σ → List (Str × Value)) (stored : List Str) (J : Nat → σ → Prop) (fix : List (Addr × Obj)) (c₀ : σ)
    (W : Walks prog w A I fp wr n P St) (hLf : env.locals ∉ fp) (hwr : ∀ b ∈ wr, h₀.get? b = none) (hlive : ∀ i h, St i h → ∀ b ∈ wr, ∃ o, h.get? b = some o) (hfix : ∀ b ∈ fp, b ∈ wr ∨ ∃ o, (b, o) ∈ fix)
    (hled : ∀ i c, J i c → ∀ p ∈ fix, p ∈ Led c)
    (hnw : ∀ p ∈ Led c₀, p.1 ∉ wr) (hst : St 0 s.heap) (F : Fr h₀ env.locals s.heap m₀) (N : News h₀ env.locals s.heap (Led c₀)) (hk : Has m₀ (ps c₀)) (hj : J 0 c₀)
    (turn : ∀ i v c u h tk own, i < n → P i v → J i c → Apart ((Led c).map (·.1)) own → Fr h₀ env.locals h (fun y => if y = x then some v else LM stored u m₀ (ps c) y) → News h₀ env.locals h (Led c ++ own) →
      ∀ Qb, Cut (GPost h₀ env.locals Led ps [x] stored m₀ own (J (i + 1)) { s with heap := h, toks := tk } Q) Qb → wpAny (model prog w) A (execs body env) Qb E { s with heap := h, toks := tk })
    (done : ∀ c (u : Str → Option Value) h tk, J n c → Fr h₀ env.locals h (fun y => if y = x then u y else LM stored u m₀ (ps c) y) → News h₀ env.locals h (Led c) → Q .next { s with heap := h, toks := tk }) :
    LoopAtV prog w A h₀ env x body Q E (.ref I) s := by
  refine ⟨I, fp, wr, n, P, St, m₀, Led c₀, (fun i m nx => ∃ c, nx = Led c ∧ Agree stored m₀ m [x] (ps c) ∧ J i c), rfl, W, hLf, hwr, hnw, hst, F, N, ⟨c₀, rfl, ⟨hk, fun _ _ _ _ => rfl⟩, hj⟩, ?_, ?_⟩
  · rintro i v m₁ news₁ s₁ own ⟨hh', tk', rfl⟩ hin hP ⟨c, rfl, hag, hJ⟩ hoff hown hget hall hst' F₁ N₁
    have hap : Apart ((Led c).map (·.1)) (own.filter fun p => decide (p.1 ∈ wr)) := by
      intro b hb p hp e
      obtain ⟨q, hq, rfl⟩ := List.mem_map.mp hb
      exact hoff q hq (e ▸ by simpa using (List.mem_filter.mp hp).2)
    have N₂ : News h₀ env.locals hh' (Led c ++ own.filter fun p => decide (p.1 ∈ wr)) := fun p hp => N₁ p ((List.mem_append.mp hp).elim (fun h => List.mem_append.mpr (.inr h)) fun h => List.mem_append.mpr (.inl ((List.mem_filter.mp h).1)))
    refine wpAny_mono (turn i v c m₁ hh' tk' _ hin hP hJ hap (lm_fr hag F₁) N₂ _ Cut.refl) (fun f s₂ p => ?_) fun _ _ e => e
    have fin := fun g => GEnd.step (Led := Led) (ps := ps) (xs := [x]) (stored := stored) (m₀ := m₀) (J := J) (i := i) (s₁ := { s with heap := hh', toks := tk' }) (s₂ := s₂) (L := env.locals)  W.sub hwr (hlive _ _ hst') hfix hled
      (fun p hp => (N₂ p (List.mem_append.mpr (.inl (hled _ _ hJ p hp)))).1) hown hget hall g
    cases f with
    | ret v => exact .ret p
    | brk => exact .brk p
    | next => exact .next (fin p)
    | cont => exact .cont (fin p)
  · rintro h' tk m' news' F' N' _ ⟨c, rfl, hag, hJ⟩
    exact done c m' h' tk hJ (lm_frOut hag F') N'
theorem loopT {target : Expr} {I : Addr} {fp wr : List Addr} {n : Nat} {P : Nat → Value → Prop} {St : Nat → Heap → Prop} {m₀ : Str → Option Value} (Led : σ → List (Addr × Obj)) (ps : σ → List (Str × Value)) (xs stored : List Str) (J : Nat → σ → Prop) (fix : List (Addr × Obj)) (c₀ : σ)
    (hxs : ∀ y ∈ xs, stored.contains y = true)
    (W : Walks prog w A I fp wr n P St) (hLf : env.locals ∉ fp) (hwr : ∀ b ∈ wr, h₀.get? b = none) (hlive : ∀ i h, St i h → ∀ b ∈ wr, ∃ o, h.get? b = some o) (hfix : ∀ b ∈ fp, b ∈ wr ∨ ∃ o, (b, o) ∈ fix)
    (hled : ∀ i c, J i c → ∀ p ∈ fix, p ∈ Led c)
    (hgo : ∀ i (s' : Shared) v (Q' : Unit → Shared → Prop), St i s'.heap → Q' () s' → wpAny (model prog w) A (letOwnedTupleGo target (.ref I) v) Q' E s')
    (hnw : ∀ p ∈ Led c₀, p.1 ∉ wr) (hst : St 0 s.heap) (F : Fr h₀ env.locals s.heap m₀) (N : News h₀ env.locals s.heap (Led c₀)) (hk : Has m₀ (ps c₀)) (hj : J 0 c₀)
    (turn : ∀ i v c u (s₁ : Shared) own, i < n → P i v → J i c → Apart ((Led c).map (·.1)) own → Fr h₀ env.locals s₁.heap (LM stored u m₀ (ps c)) → News h₀ env.locals s₁.heap (Led c ++ own) →
      ∀ Qb, Cut (GPostT h₀ env.locals Led ps xs stored m₀ own (J (i + 1)) s₁) Qb → wpAny (model prog w) A (assign target env v) (fun _ s₃ => wpAny (model prog w) A (execs body env) Qb E s₃) E s₁)
    (done : ∀ c (u : Str → Option Value) h tk, J n c → Fr h₀ env.locals h (LM stored u m₀ (ps c)) → News h₀ env.locals h (Led c) → Q .next { s with heap := h, toks := tk }) :
    LoopAtT prog w A h₀ env target body Q E (.ref I) s := by
  refine ⟨I, fp, wr, n, P, St, m₀, Led c₀, (fun i m nx => ∃ c, nx = Led c ∧ Agree stored m₀ m xs (ps c) ∧ J i c), rfl, W, hLf, hwr, hnw, hst, F, N, hgo, ⟨c₀, rfl, ⟨hk, fun _ _ _ _ => rfl⟩, hj⟩, ?_, ?_⟩
  · rintro i v m₁ news₁ s₁ own hin hP ⟨c, rfl, hag, hJ⟩ hoff hown hget hall hst' F₁ N₁
    have hap : Apart ((Led c).map (·.1)) (own.filter fun p => decide (p.1 ∈ wr)) := by
      intro b hb p hp e
      obtain ⟨q, hq, rfl⟩ := List.mem_map.mp hb
      exact hoff q hq (e ▸ by simpa using (List.mem_filter.mp hp).2)
    have N₂ : News h₀ env.locals s₁.heap (Led c ++ own.filter fun p => decide (p.1 ∈ wr)) := fun p hp => N₁ p ((List.mem_append.mp hp).elim (fun h => List.mem_append.mpr (.inr h)) fun h => List.mem_append.mpr (.inl ((List.mem_filter.mp h).1)))
    have F₂ : Fr h₀ env.locals s₁.heap (LM stored m₁ m₀ (ps c)) := by rw [lm_eqT hag hxs]; exact F₁
    refine wpAny_mono (turn i v c m₁ s₁ _ hin hP hJ hap F₂ N₂ _ Cut.refl) (fun _ s₃ h₃ => wpAny_mono h₃ (fun f s₂ p => ?_) fun _ _ e => e) fun _ _ e => e
    obtain ⟨rfl, g⟩ := p
    exact GEnd.step (Led := Led) (ps := ps) (xs := xs) (stored := stored) (m₀ := m₀) (J := J) (i := i) (s₁ := s₁) (s₂ := s₂) (L := env.locals)  W.sub hwr (hlive _ _ hst') hfix hled
      (fun p hp => (N₂ p (List.mem_append.mpr (.inl (hled _ _ hJ p hp)))).1) hown hget hall g
  · rintro h' tk m' news' F' N' _ ⟨c, rfl, hag, hJ⟩
    exact done c m' h' tk hJ (by rw [lm_eqT hag hxs]; exact F') N'
/-! ### ranges -/
theorem iterLive {I : Addr} {x n c : Int} {h : Heap} (hi : IsRangeIter h I x n c) : ∀ b ∈ [I], ∃ o, h.get? b = some o := fun b hb => by
  rw [List.mem_singleton.mp hb]; exact ⟨_, hi⟩
theorem rangeV {r : Addr} {a₀ b₀ st : Int} {t₀ u₀ v₀ : Tok} {n : Nat} {m₀ : Str → Option Value} (Led : σ → List (Addr × Obj)) (ps : σ → List (Str × Value)) (stored : List Str) (J : Nat → σ → Prop) (c₀ : σ)
    (hh : A.handled = none) (hr : IsRange s.heap r a₀ b₀ st t₀ u₀ v₀) (hsmall : Builtin.Range.small a₀ b₀ st = true) (hn : Builtin.Range.rangeSize a₀ b₀ st = (n : Int))
    (F : Fr h₀ env.locals s.heap m₀) (N : News h₀ env.locals s.heap (Led c₀)) (hk : Has m₀ (ps c₀)) (hj : J 0 c₀)
    (turn : ∀ i t c u h tk own, i < n → J i c → Apart ((Led c).map (·.1)) own → Fr h₀ env.locals h (fun y => if y = x then some (.int (a₀ + (i : Nat) * st) t) else LM stored u m₀ (ps c) y) → News h₀ env.locals h (Led c ++ own) →
      ∀ Qb, Cut (GPost h₀ env.locals Led ps [x] stored m₀ own (J (i + 1)) { s with heap := h, toks := tk } Q) Qb → wpAny (model prog w) A (execs body env) Qb E { s with heap := h, toks := tk })
    (done : ∀ c (u : Str → Option Value) h tk, J n c → Fr h₀ env.locals h (fun y => if y = x then u y else LM stored u m₀ (ps c) y) → News h₀ env.locals h (Led c) → Q .next { s with heap := h, toks := tk }) :
    wpAny (model prog w) A (pyIter (.ref r)) (fun it s₂ => LoopAtV prog w A h₀ env x body Q E it s₂) E s := by
  refine wpAny_pyIter_range hr hsmall ?_
  refine loopV Led ps stored J [] c₀ (Walks.range hh s.heap.objs.size a₀ st n) ?_ ?_ (fun i h hs => iterLive hs) (fun b hb => .inl hb) (fun _ _ _ _ hp => nomatch hp) ?_
    (by show IsRangeIter _ _ _ _ _; rw [hn]; simpa using Heap.get?_push_size _ rfl) (F.push _) (fun p hp => ⟨Heap.get?_push_of_some _ (N p hp).1, (N p hp).2⟩) hk hj ?_ done
  · intro hm
    exact absurd F.ns.lt ((List.mem_singleton.mp hm) ▸ Nat.lt_irrefl _)
  · intro b hb
    rw [List.mem_singleton.mp hb]
    exact next_is_new F
  · intro p hp hI
    exact absurd (Heap.lt_size (N p hp).1) ((List.mem_singleton.mp hI) ▸ Nat.lt_irrefl _)
  · rintro i v c u h tk own hin ⟨t, rfl⟩ hJ ha F' N'
    exact turn i t c u h tk own hin hJ ha F' N'
/-! ### texts -/
theorem strV {y : Str} {t : Tok} {m₀ : Str → Option Value} (Led : σ → List (Addr × Obj)) (ps : σ → List (Str × Value)) (stored : List Str) (J : Nat → σ → Prop) (c₀ : σ)
    (hh : A.handled = none) (F : Fr h₀ env.locals s.heap m₀) (N : News h₀ env.locals s.heap (Led c₀)) (hk : Has m₀ (ps c₀)) (hj : J 0 c₀)
    (turn : ∀ i d t c u h tk own, y.cps[i]? = some d → J i c → Apart ((Led c).map (·.1)) own → Fr h₀ env.locals h (fun y => if y = x then some (.str ⟨#[d]⟩ t) else LM stored u m₀ (ps c) y) → News h₀ env.locals h (Led c ++ own) →
      ∀ Qb, Cut (GPost h₀ env.locals Led ps [x] stored m₀ own (J (i + 1)) { s with heap := h, toks := tk } Q) Qb → wpAny (model prog w) A (execs body env) Qb E { s with heap := h, toks := tk })
    (done : ∀ c (u : Str → Option Value) h tk, J y.cps.size c → Fr h₀ env.locals h (fun y => if y = x then u y else LM stored u m₀ (ps c) y) → News h₀ env.locals h (Led c) → Q .next { s with heap := h, toks := tk }) :
    wpAny (model prog w) A (pyIter (.str y t)) (fun it s₂ => LoopAtV prog w A h₀ env x body Q E it s₂) E s := by
  have base : ∀ (o : Obj) (k : String) , (∀ A' : Around, A'.handled = none → Walks prog w A' s.heap.objs.size [s.heap.objs.size] [s.heap.objs.size] y.cps.size (SignAt y) (fun i h => h.IsStrIter s.heap.objs.size k y t i)) →
      (s.heap.push o).IsStrIter s.heap.objs.size k y t 0 → LoopAtV prog w A h₀ env x body Q E (.ref s.heap.objs.size) { s with heap := s.heap.push o } := by
    intro o k W hs
    refine loopV Led ps stored J [] c₀ (W A hh) ?_ ?_ (fun i h hs b hb => ?_) (fun b hb => .inl hb) (fun _ _ _ _ hp => nomatch hp) ?_ hs (F.push _) (fun p hp => ⟨Heap.get?_push_of_some _ (N p hp).1, (N p hp).2⟩) hk hj ?_ done
    · intro hm
      exact absurd F.ns.lt ((List.mem_singleton.mp hm) ▸ Nat.lt_irrefl _)
    · intro b hb
      rw [List.mem_singleton.mp hb]
      exact next_is_new F
    · obtain ⟨o, ho, _⟩ := hs
      rw [List.mem_singleton.mp hb]; exact ⟨o, ho⟩
    · intro p hp hI
      exact absurd (Heap.lt_size (N p hp).1) ((List.mem_singleton.mp hI) ▸ Nat.lt_irrefl _)
    · rintro i v c u h tk own hin ⟨d, t', hd, rfl⟩ hJ ha F' N'
      exact turn i d t' c u h tk own hd hJ ha F' N'
  cases ha : y.cps.all (· < 128)
  · exact wpAny_pyIter_wide ha (base _ "str_iterator" (fun A' hA => Walks.strWide hA _ y t) ⟨_, Heap.get?_push_size _ rfl, rfl, rfl⟩)
  · exact wpAny_pyIter_ascii ha (base _ "str_ascii_iterator" (fun A' hA => Walks.strAscii hA _ y t) ⟨_, Heap.get?_push_size _ rfl, rfl, rfl⟩)
/-! ### lists of the ledger -/
theorem listW {l : Addr} {vs : List Value} {nn : Nat} {m₀ : Str → Option Value} {led : List (Addr × Obj)} (hh : A.handled = none) (hl : (l, listOf vs.toArray nn) ∈ led) (F : Fr h₀ env.locals s.heap m₀) (N : News h₀ env.locals s.heap led) {R : Value → Shared → Prop}
    (k : ∀ (o : Obj) (I : Addr) (St : Nat → Heap → Prop), I = s.heap.objs.size → Walks prog w A I [I, l] [I] vs.length (fun i v => vs[i]? = some v) St → env.locals ∉ [I, l] → (∀ b ∈ [I], h₀.get? b = none) → (∀ i h, St i h → ∀ b ∈ [I], ∃ o, h.get? b = some o) →
      (∀ b ∈ [I, l], b ∈ [I] ∨ ∃ o, (b, o) ∈ [(l, listOf vs.toArray nn)]) → (∀ p ∈ led, p.1 ∉ [I]) → St 0 (s.heap.push o) → Fr h₀ env.locals (s.heap.push o) m₀ → News h₀ env.locals (s.heap.push o) led →
      (∀ (target : Expr) i (s' : Shared) v (Q' : Unit → Shared → Prop), St i s'.heap → Q' () s' → wpAny (model prog w) A (letOwnedTupleGo target (.ref I) v) Q' E s') → R (.ref I) { s with heap := s.heap.push o }) :
    wpAny (model prog w) A (pyIter (.ref l)) R E s := by
  have hol : s.heap.get? l = some (listOf vs.toArray nn) := (N _ hl).1
  have hls : s.heap.IsList l vs.toArray := ⟨_, hol, rfl, nn, rfl⟩
  have hne : l ≠ s.heap.objs.size := Nat.ne_of_lt (Heap.lt_size hol)
  refine wpAny_pyIter_list hls ?_
  have W := Walks.list (prog := prog) (w := w) hh s.heap.objs.size l hne vs.toArray
  have hlen : vs.toArray.size = vs.length := by simp
  rw [hlen] at W
  have W' : Walks prog w A s.heap.objs.size [s.heap.objs.size, l] [s.heap.objs.size] vs.length (fun i v => vs[i]? = some v) (fun i h => h.IsListIter s.heap.objs.size l i ∧ h.IsList l vs.toArray) :=
    { sub := W.sub, frame := W.frame, item := fun i s Q E hi st hQ => W.item i s Q E hi st (fun v h' tk hp => hQ v h' tk (by simpa using hp)), done := W.done, self := W.self }
  refine k _ _ _ rfl W' ?_ ?_ ?_ ?_ ?_ ⟨⟨_, Heap.get?_push_size _ rfl, rfl, rfl⟩, hls.at fun o e => Heap.get?_push_of_some _ e⟩ (F.push _) (fun p hp => ⟨Heap.get?_push_of_some _ (N p hp).1, (N p hp).2⟩) (fun target i s' v Q' st hQ' => letGo_listiter st.1 hQ')
  · intro hm
    rcases List.mem_cons.mp hm with e | hm
    · exact absurd F.ns.lt (e ▸ Nat.lt_irrefl _)
    · exact (N _ hl).2.1 ((List.mem_singleton.mp hm).symm)
  · intro b hb
    rw [List.mem_singleton.mp hb]
    exact next_is_new F
  · rintro i h ⟨⟨o, ho, _⟩, _⟩ b hb
    rw [List.mem_singleton.mp hb]; exact ⟨o, ho⟩
  · intro b hb
    rcases List.mem_cons.mp hb with e | hb
    · exact .inl (List.mem_singleton.mpr e)
    · exact .inr ⟨_, by rw [List.mem_singleton.mp hb]; exact List.mem_singleton.mpr rfl⟩
  · intro p hp hI
    exact absurd (Heap.lt_size (N p hp).1) ((List.mem_singleton.mp hI) ▸ Nat.lt_irrefl _)
theorem listV {l : Addr} {vs : List Value} {nn : Nat} {m₀ : Str → Option Value} (Led : σ → List (Addr × Obj)) (ps : σ → List (Str × Value)) (stored : List Str) (J : Nat → σ → Prop) (c₀ : σ)
    (hh : A.handled = none) (hl : ∀ c : σ, (l, listOf vs.toArray nn) ∈ Led c) (F : Fr h₀ env.locals s.heap m₀) (N : News h₀ env.locals s.heap (Led c₀)) (hk : Has m₀ (ps c₀)) (hj : J 0 c₀)
    (turn : ∀ i v c u h tk own, vs[i]? = some v → J i c → Apart ((Led c).map (·.1)) own → Fr h₀ env.locals h (fun y => if y = x then some v else LM stored u m₀ (ps c) y) → News h₀ env.locals h (Led c ++ own) →
      ∀ Qb, Cut (GPost h₀ env.locals Led ps [x] stored m₀ own (J (i + 1)) { s with heap := h, toks := tk } Q) Qb → wpAny (model prog w) A (execs body env) Qb E { s with heap := h, toks := tk })
    (done : ∀ c (u : Str → Option Value) h tk, J vs.length c → Fr h₀ env.locals h (fun y => if y = x then u y else LM stored u m₀ (ps c) y) → News h₀ env.locals h (Led c) → Q .next { s with heap := h, toks := tk }) :
    wpAny (model prog w) A (pyIter (.ref l)) (fun it s₂ => LoopAtV prog w A h₀ env x body Q E it s₂) E s := by
  refine listW hh (hl c₀) F N fun o I St _ W h1 h2 h3 h4 h5 h6 F' N' _ => ?_
  refine loopV Led ps stored J [(l, listOf vs.toArray nn)] c₀ W h1 h2 h3 h4 (fun _ c _ p hp => by rw [List.mem_singleton.mp hp]; exact hl c) h5 h6 F' N' hk hj ?_ done
  rintro i v c u h tk own hin hv hJ ha F'' N''
  exact turn i v c u h tk own hv hJ ha F'' N''
theorem listT {target : Expr} {l : Addr} {vs : List Value} {nn : Nat} {m₀ : Str → Option Value} (Led : σ → List (Addr × Obj)) (ps : σ → List (Str × Value)) (xs stored : List Str) (J : Nat → σ → Prop) (c₀ : σ)
    (hxs : ∀ y ∈ xs, stored.contains y = true)
    (hh : A.handled = none) (hl : ∀ c : σ, (l, listOf vs.toArray nn) ∈ Led c) (F : Fr h₀ env.locals s.heap m₀) (N : News h₀ env.locals s.heap (Led c₀)) (hk : Has m₀ (ps c₀)) (hj : J 0 c₀)
    (turn : ∀ i v c u (s₁ : Shared) own, vs[i]? = some v → J i c → Apart ((Led c).map (·.1)) own → Fr h₀ env.locals s₁.heap (LM stored u m₀ (ps c)) → News h₀ env.locals s₁.heap (Led c ++ own) →
      ∀ Qb, Cut (GPostT h₀ env.locals Led ps xs stored m₀ own (J (i + 1)) s₁) Qb → wpAny (model prog w) A (assign target env v) (fun _ s₃ => wpAny (model prog w) A (execs body env) Qb E s₃) E s₁)
    (done : ∀ c (u : Str → Option Value) h tk, J vs.length c → Fr h₀ env.locals h (LM stored u m₀ (ps c)) → News h₀ env.locals h (Led c) → Q .next { s with heap := h, toks := tk }) :
    wpAny (model prog w) A (pyIter (.ref l)) (fun it s₂ => LoopAtT prog w A h₀ env target body Q E it s₂) E s := by
  refine listW hh (hl c₀) F N fun o I St _ W h1 h2 h3 h4 h5 h6 F' N' hgo => ?_
  refine loopT Led ps xs stored J [(l, listOf vs.toArray nn)] c₀ hxs W h1 h2 h3 h4 (fun _ c _ p hp => by rw [List.mem_singleton.mp hp]; exact hl c) (hgo target) h5 h6 F' N' hk hj ?_ done
  rintro i v c u s₁ own hin hv hJ ha F'' N''
  exact turn i v c u s₁ own hv hJ ha F'' N''
/-! ### while -/
noncomputable def WEnd (h₀ : Heap) (L : Addr) (Led : σ → List (Addr × Obj)) (ps : σ → List (Str × Value)) (stored : List Str) (m₀ : Str → Option Value) (J : σ → Prop) (μ : σ → Nat) (c : σ) (s₁ s₂ : Shared) : Prop :=
  ∃ (c' : σ) (h' : Heap) (tk : Nat) (m' : Str → Option Value) (news' : List (Addr × Obj)), s₂ = { s₁ with heap := h', toks := tk } ∧ Fr h₀ L h' m' ∧ News h₀ L h' news' ∧ (∀ p ∈ Led c', p ∈ news') ∧ Agree stored m₀ m' [] (ps c') ∧ J c' ∧ μ c' < μ c
theorem WEnd.intro {h₀ : Heap} {L : Addr} {Led : σ → List (Addr × Obj)} {ps : σ → List (Str × Value)} {stored : List Str} {m₀ : Str → Option Value} {J : σ → Prop} {μ : σ → Nat} {c : σ} {s₁ : Shared}
    (c' : σ) {h' : Heap} {tk : Nat} {m' : Str → Option Value} {news' : List (Addr × Obj)} (F : Fr h₀ L h' m') (N : News h₀ L h' news') (h1 : ∀ p ∈ Led c', p ∈ news') (h4 : Agree stored m₀ m' [] (ps c')) (h5 : J c') (h6 : μ c' < μ c) :
    WEnd h₀ L Led ps stored m₀ J μ c s₁ { s₁ with heap := h', toks := tk } := ⟨c', h', tk, m', news', rfl, F, N, h1, h4, h5, h6⟩
noncomputable def WPost (h₀ : Heap) (L : Addr) (Led : σ → List (Addr × Obj)) (ps : σ → List (Str × Value)) (stored : List Str) (m₀ : Str → Option Value) (J : σ → Prop) (μ : σ → Nat) (c : σ) (s₁ : Shared) (Q : Flow → Shared → Prop) (f : Flow) (s₂ : Shared) : Prop :=
  match f with
  | .ret v => Q (.ret v) s₂
  | .brk => Q .next s₂
  | _ => WEnd h₀ L Led ps stored m₀ J μ c s₁ s₂
theorem whileV {test : Expr} {pos : Pos} {L : Addr} {m₀ : Str → Option Value} (Led : σ → List (Addr × Obj)) (ps : σ → List (Str × Value)) (stored : List Str) (J : σ → Prop) (μ : σ → Nat) (c₀ : σ)
    (F : Fr h₀ L s.heap m₀) (N : News h₀ L s.heap (Led c₀)) (hk : Has m₀ (ps c₀)) (hj : J c₀)
    (turn : ∀ c (u : Str → Option Value) h tk, J c → Fr h₀ L h (LM stored u m₀ (ps c)) → News h₀ L h (Led c) →
      ∀ Qb, Cut (WPost h₀ L Led ps stored m₀ J μ c s Q) Qb → wpAny (model prog w) A (isTrue test env (eval test env)) (fun b s₂ =>
        if b = true then wpAny (model prog w) A (execs body env) Qb E s₂ else Q .next s₂) E { s with heap := h, toks := tk })
    (hE : PassesOwn (model prog w) A env E := by passes_own) :
    wpAny (model prog w) A (exec (.While test body [] pos) env) Q E s := by
  refine While_inv2 (fun n m nx => ∃ c : σ, nx = Led c ∧ μ c = n ∧ Agree stored m₀ m [] (ps c) ∧ J c) F N ⟨c₀, rfl, rfl, ⟨hk, fun _ _ _ _ => rfl⟩, hj⟩ ?_ hE
  rintro n m₁ nx h tk F₁ N₁ ⟨c, rfl, rfl, hag, hJ⟩
  have F₂ : Fr h₀ L h (LM stored m₁ m₀ (ps c)) := by rw [lm_eqT hag (fun _ h => nomatch h)]; exact F₁
  refine wpAny_mono (turn c m₁ h tk hJ F₂ N₁ _ Cut.refl) (fun b s₂ p => ?_) fun _ _ x => x
  cases b with
  | false => simpa using p
  | true =>
    simp only [if_true] at p ⊢
    refine wpAny_mono p (fun f s₃ q => ?_) fun _ _ x => x
    cases f with
    | ret v => exact q
    | brk => exact q
    | next =>
      obtain ⟨c', h', tk', m', news', rfl, F', N', hn, ha, hJ', hm⟩ := q
      exact ⟨h', tk', m', Led c', μ c', rfl, F', fun p hp => N' p (hn p hp), hm, c', rfl, rfl, ha, hJ'⟩
    | cont =>
      obtain ⟨c', h', tk', m', news', rfl, F', N', hn, ha, hJ', hm⟩ := q
      exact ⟨h', tk', m', Led c', μ c', rfl, F', fun p hp => N' p (hn p hp), hm, c', rfl, rfl, ha, hJ'⟩
end
end Nn
end
end
-- P2
local macro_rules | `(tactic| ksw_less) => `(tactic| k_extra "ksw_less!")
theorem Nn.wP2 : True := by
  (k_with "pyIter ref!" => (refine Nn.halt ?_))
  (k_with "pyIter str!" => (refine Nn.halt ?_))
  (k_with "exec While!" => (refine Nn.halt ?_))
  (k_with "ksw_less!" => first | (with_reducible exact Nn.sub_refl) | (with_reducible exact Nn.sub_nil) | (with_reducible assumption) | ((with_reducible show ∀ p ∈ _ :: _, _); refine Nn.sub_cons (by k_mem) ?_; ksw_less) | ((fail_if_success (with_reducible show ∀ p ∈ _ :: _, _)); first | (with_reducible refine Nn.sub_app ?_ ?_ <;> ksw_less) | (with_reducible refine Nn.sub_tail ?_; ksw_less) | (with_reducible refine Nn.sub_l ?_; ksw_less) | (with_reducible refine Nn.sub_r ?_; ksw_less) | (dsimp only; ksw_less)) | exact Nn.sub_refl | assumption | fail)
  (k_with "ksw_same!" => (intro zzz zzh1 zzh2 zzh3; have zzh4 := zzh3; (try simp only [List.mem_cons, List.not_mem_nil, or_false, not_or, not_false_eq_true] at zzh1); (try simp only [List.forall_mem_cons, List.not_mem_nil, false_implies, implies_true, and_true, ne_eq] at zzh2); (try simp only [List.contains_cons, List.contains_nil, Bool.or_false, Bool.or_eq_false_iff, beq_eq_false_iff_ne, ne_eq] at zzh4); first | rfl | (simp only [Nn.LM, kstB, zzh1, zzh2, zzh3, zzh4, if_false, Bool.false_eq_true]; done) | (simp only [Nn.LM, kstB, zzh1, zzh2, zzh3, zzh4, if_false, Bool.false_eq_true]; rfl)))
  (k_with "ksw_same!" => first | (refine Nn.off_of (by repeat first | exact Nn.Keys.nil | apply Nn.Keys.cons) ?_; (repeat' first | (with_reducible exact Nn.OffA.refl) | ((with_reducible refine Nn.OffA.upd ?_ ?_); rotate_left; exact rfl) | ((with_reducible refine Nn.OffA.updO ?_ ?_); rotate_left; exact rfl) | ((with_reducible refine Nn.OffA.kcons ?_ ?_); rotate_left; exact rfl) | (with_reducible refine Nn.OffA.knil ?_) | ((with_reducible refine Nn.OffA.sto ?_ ?_); rotate_left; exact rfl)); done) | fail)
  (k_with "call builtin:str.join!" => (k_here; (with_reducible show wpAny _ _ (call (Value.builtin "str.join") [Value.str _ _, Value.ref _]) _ _ _); refine join_listW (News.isList (by k_asm) (by k_mem)) (by assumption) (by decide +kernel) (by assumption) ?_; intro _ _; (try dsimp only)))
  (k_with "call ref!" => (k_here; (with_reducible show wpAny _ _ (call (Value.ref 110) _) _ _ _); skip; k_dflt (refine' Nn.is_layout_s ?q67fb4_B ?q67fb4_F ?q67fb4_X ?q67fb4_T ?q67fb4_hk ?q67fb4_N  ?q67fb4_hd ?q67fb4_hu ?_; (case q67fb4_B => k_asm); (case q67fb4_F => k_asm); (case q67fb4_X => k_asm); (case q67fb4_T => k_asm); (case q67fb4_hk => first | exact rfl | assumption); (case q67fb4_N => k_asm); (case q67fb4_hd => ktr_room); (case q67fb4_hu => ktr_units); k_whole); intro zzh' zztk' zzF' zzN'; (try dsimp only)))
  (k_with "call ref!" => (k_here; (with_reducible show wpAny _ _ (call (Value.ref 89) _) _ _ _); skip; k_dflt (refine' Nn.extension_s ?qac272_B ?qac272_F ?qac272_X ?qac272_T ?qac272_hk ?qac272_N  ?qac272_hd ?qac272_hu ?_; (case qac272_B => k_asm); (case qac272_F => k_asm); (case qac272_X => k_asm); (case qac272_T => k_asm); (case qac272_hk => first | exact rfl | assumption); (case qac272_N => k_asm); (case qac272_hd => ktr_room); (case qac272_hu => ktr_units); k_whole); intro zzt' zzh' zztk' zzF' zzN'; (try dsimp only)))
  (k_with "call ref!" => (k_here; (with_reducible show wpAny _ _ (call (Value.ref 54) _) _ _ _); skip; k_dflt (refine' Nn.code_s ?q73547_B ?q73547_F ?q73547_X ?q73547_T ?q73547_hk ?q73547_N ?q73547_hv ?q73547_hi0 ?q73547_hd ?q73547_hu ?_; (case q73547_B => k_asm); (case q73547_F => k_asm); (case q73547_X => k_asm); (case q73547_T => k_asm); (case q73547_hk => first | exact rfl | assumption); (case q73547_N => k_asm); (case q73547_hv => k_mem); (case q73547_hi0 => first | assumption | omega); (case q73547_hd => ktr_room); (case q73547_hu => ktr_units); k_whole); intro zzt' zzh' zztk' zzF' zzN'; (try dsimp only)))
  trivial
section
local macro_rules | `(tactic| omega) => `(tactic| k_extra "oP2")
theorem Nn.oP2 : True := by
  (k_with "oP2" => with_reducible (k_whole; first | k_extra "omega!" | ((show (_ : Nat) ≤ _); first | exact Nn.q178 (by assumption) | exact Nn.q185 (by assumption) (by assumption) (by assumption) | fail) | ((show (_ : Int) < _); first | exact Nn.q177 (by assumption) | exact Nn.q183 (by assumption) | fail) | ((show (_ : Int) ≤ _); first | exact Nn.q179 (by assumption) | exact Nn.q184 (by assumption) | exact Nn.q186 (by assumption) (by assumption) | fail) | ((show (_ : Int) = _); first | exact Nn.q180 (by assumption) | exact Nn.q182 (by assumption) | fail) | ((show _ ∧ _); first | exact Nn.q181 | fail) | fail))
  trivial
namespace Nn
noncomputable def dg (k : Int) : Nat := (Txt.charAt (Str.ofString "01zx") k).getD 0
theorem item_dg (k : Int) : Txt.item (Str.ofString "01zx") k = one (dg k) := rfl
theorem and_one {x : Int} (h : 0 ≤ x) : Builtin.bitAnd x 1 = x % 2 := by
  unfold Builtin.bitAnd
  rw [decide_eq_true h, show decide ((0 : Int) ≤ 1) = true from rfl]
  show ((x.toNat &&& 1 : Nat) : Int) = _
  rw [Nat.and_one_is_mod]
  omega
theorem fdiv_nn {x : Int} (h : 0 ≤ x) (n : Nat) : 0 ≤ x.fdiv (2 ^ n) := by
  have e : (2 : Int) ^ n = ((2 ^ n : Nat) : Int) := by simp
  rw [e, Int.fdiv_eq_ediv_of_nonneg _ (Int.natCast_nonneg _)]
  exact Int.ediv_nonneg h (Int.natCast_nonneg _)
theorem codeI_b {lo hi : Int} (h : 0 ≤ lo ∧ 0 ≤ hi) (i : Int) : 0 ≤ codeI lo hi i ∧ codeI lo hi i < 4 := by
  unfold codeI
  rw [and_one (fdiv_nn h.1 _), and_one (fdiv_nn h.2 _)]
  omega
noncomputable def bitsL (lo hi wd : Int) (n : Nat) : List Nat := (List.range n).map fun i => dg (codeI lo hi (wd - 1 + (i : Nat) * (-1)))
theorem bitsL_succ (lo hi wd : Int) (n : Nat) : bitsL lo hi wd (n + 1) = bitsL lo hi wd n ++ [dg (codeI lo hi (wd - 1 + (n : Nat) * (-1)))] := by
  simp [bitsL, List.range_succ]
theorem bitsL_len (lo hi wd : Int) (n : Nat) : (bitsL lo hi wd n).length = n := by simp [bitsL]
theorem joinL : ∀ l : List Nat, Txt.join (Str.ofString "") (l.map one) = mk l := by
  have h : ∀ l : List Nat, Str.join (Str.ofString "") (l.map one) = mk l := by
    intro l
    induction l with
    | nil => rfl
    | cons a r ih =>
      cases r with
      | nil => rfl
      | cons b t =>
        show one a ++ Str.ofString "" ++ Str.join (Str.ofString "") ((b :: t).map one) = _
        rw [ih]
        show (⟨(#[a] ++ #[]) ++ (b :: t).toArray⟩ : Str) = ⟨(a :: b :: t).toArray⟩
        simp
  intro l
  unfold Txt.join
  rw [StrLaws.glued_eq_join, h]
theorem bits_text_s {w : World} {mean : ExcName → Option Value} {mg mb : Str → Option Value} {dp un : Nat} {gd : Option (List Code)} {cn : Str} {cs : Scope} {a : Addr} {ccd : Value} {cl : List (Str × Addr)} {outer : List Env} {A₀ : Around} {base h₀ : Heap} {L : Addr} {m : Str → Option Value} {news : List (Addr × Obj)} {s : Shared}
    {Q E : Value → Shared → Prop} {va : Nat} {wd lo hi : Int} {t1 t2 t3 : Tok}
    (B : Below A₀ base outer h₀) (F : Fr h₀ L s.heap m) (X : (K w.params).In h₀) (T : Top q looseN mean mg mb h₀) (hk : cs.kind = .function) (N : News h₀ L s.heap (news)) (hv : (va, tupO [.int wd t1, .int lo t2, .int hi t3]) ∈ news) (hw : 1 ≤ wd ∧ wd ≤ 1000) (hn : 0 ≤ lo ∧ 0 ≤ hi)
    (hd : dp + 12 < recursionLimit) (hu : un + 96 < cLine)
    (ret : ∀ t' h' tk', Fr h₀ L h' m → News h₀ L h' (news) → Q (.str (mk (bitsL lo hi wd wd.toNat)) t') { s with heap := h', toks := tk' }) :
    wpAny (model PySem.Challenge.rw_nn0316_01.prog w) (ktrTop dp un gd cn cs L a ccd cl outer) (call (.ref 68) [.ref va]) Q E s := by
  refine wpAny_call ?_
  ktr_call [("v", .ref va)] ()
  k_steps
  rename IsRange _ _ _ _ _ _ _ _ => rg
  rename Fr _ _ _ _ => F1
  rename News _ _ _ _ => N1
  obtain ⟨row, er⟩ := nm1 N1
  subst er
  rename (∀ (p : Addr × Obj), p ∈ news → p.fst < row) => lr
  refine go (rangeV (σ := List Value × Nat) (n := wd.toNat) (fun c => (row, listOf c.1.toArray c.2) :: news) (fun c => []) [] (fun i c => StrsAre c.1 ((bitsL lo hi wd i).map one)) ([], 0) rfl rg ?_ ?_ F1 N1 ag_nil ?_ ?_ ?_)
  · exact small_down (by omega) (by omega) (by omega) (by omega)
  · rw [rangeSize_downNat]; omega
  · exact .nil
  · intro i t c u h tk own hi' hJ ha F2 N2
    (repeat ((with_reducible show ∀ _, Nn.Cut _ _ → _); intro _ _))
    have hall := ne_app lr ha.head
    have cb := codeI_b hn (wd - 1 + (i : Nat) * (-1))
    have hz : c.1.toArray.size ≤ sizeLine := by
      have := sa_len hJ
      rw [List.length_map, bitsL_len] at this
      rw [sizeLine_eq, List.size_toArray]; omega
    clear F1 N1
    dsimp (config := {zetaDelta := true}) only [envOf] at F2 N2
    try simp only [List.cons_append] at N2
    k_steps
    rename Fr _ _ _ _ => F3
    rename News _ _ _ _ => N3
    rw [List.push_toArray] at N3
    refine GEnd.intro (c.1 ++ [_], c.2 + 1) F3 N3 (by ksw_less) (by ksw_less) ha ⟨ag_nil, by ksw_same⟩ ?_
    rw [bitsL_succ, List.map_append]
    exact sa_snoc (y := one _) hJ
  · intro c u h tk hJ F2 N2
    (repeat ((with_reducible show ∀ _, Nn.Cut _ _ → _); intro _ _))
    clear F1 N1
    have hw' : (((bitsL lo hi wd wd.toNat).map one).map (·.length)).sum + ((bitsL lo hi wd wd.toNat).map one).length ≤ 1048576 := by
      rw [ones_sum, List.length_map, bitsL_len]; omega
    dsimp (config := {zetaDelta := true}) only [envOf] at F2 N2
    k_steps
    rw [joinL]
    exact ret _ _ _ (by k_asm) (news_sub (by k_asm) (by ksw_less))
end Nn
end
-- NnTxt
section
open PySem PySem.W PySem.Spec PySem.Calls PyProof.Rows
set_option maxRecDepth 100000
section
local macro_rules | `(tactic| omega) => `(tactic| k_extra "oNnTxt")
theorem Nn.oNnTxt : True := by
  (k_with "oNnTxt" => with_reducible (k_whole; first | k_extra "omega!" | ((show (_ : Nat) < _); first | exact Nn.q5 (by assumption) (by assumption) | fail) | ((show (_ : Nat) ≤ _); first | exact Nn.q12 (by assumption) (by assumption) | fail) | ((show (_ : Int) < _); first | exact Nn.q13 (by assumption) | fail) | ((show (_ : Int) ≤ _); first | exact Nn.q8 | exact Nn.q11 | fail) | ((show (_ : Int) = _); first | exact Nn.q7 (by assumption) | exact Nn.q9 (by assumption) | fail) | ((show False); first | exact Nn.q6 (by assumption) (by assumption) (by assumption) | exact Nn.q10 (by assumption) (by assumption) | fail) | fail))
  trivial
namespace Nn
/-! ## Texts as lists of signs -/
theorem mk_len (l : List Nat) : (mk l).length = l.length := by simp [Str.length]
theorem mk_eta (y : Str) : y = mk y.cps.toList := by cases y; rfl
theorem len_l (y : Str) : y.length = y.cps.toList.length := by simp [Str.length]
theorem mk_inj {a b : List Nat} (h : mk a = mk b) : a = b := by injection h with h; injection h
theorem mk_beq (a b : List Nat) : (mk a == mk b) = decide (a = b) := by
  by_cases h : a = b
  · rw [h]; simp
  · rw [decide_eq_false h]; exact beq_eq_false_iff_ne.mpr fun e => h (mk_inj e)
theorem mk_app (a b : List Nat) : mk a ++ mk b = mk (a ++ b) := by
  show (⟨a.toArray ++ b.toArray⟩ : Str) = _
  simp
theorem item_mk {l : List Nat} {i : Int} (h0 : 0 ≤ i) (h : i < l.length) : Txt.item (mk l) i = one (l[i.toNat]'(by omega)) := by
  have e : Txt.charAt (mk l) i = some (l[i.toNat]'(by omega)) := by
    have hs : seqIndex? i (mk l).length = some i.toNat := by
      unfold seqIndex?
      rw [mk_len]
      simp only [show ¬ i < 0 by omega, if_false]
      simp only [h0, h, decide_true, Bool.and_self, if_true]
    unfold Txt.charAt
    rw [hs]
    show (mk l).cps[i.toNat]? = _
    simp [show i.toNat < l.length by omega]
  unfold Txt.item
  rw [e]; rfl
theorem slice_from {l : List Nat} {i : Int} (h0 : 0 ≤ i) (h : i ≤ l.length) : Txt.slice (mk l) (some i) none = mk (l.drop i.toNat) := by
  refine (StrLaws.sliceText_from (x := mk l) ⟨h0, by simpa using h⟩).trans ?_
  show mk _ = mk _
  congr 1
  rw [List.take_of_length_le]
  simp; omega
theorem slice_fromE {i : Int} {l : List Nat} (h0 : 0 ≤ i) (h : l.length ≤ i) : Txt.slice (mk l) (some i) none = mk [] := by
  have hc : Txt.slice (mk l) (some i) none = Txt.slice (mk l) (some (l.length : Int)) none := by
    have e : Builtin.Str.strSliceIndices (some i) none 1 (mk l).length = Builtin.Str.strSliceIndices (some (l.length : Int)) none 1 (mk l).length := by
      have e1 : max (0 : Int) (min i (l.length : Int)) = l.length := by omega
      have e2 : max (0 : Int) (min (l.length : Int) (l.length : Int)) = l.length := by omega
      simp only [Builtin.Str.strSliceIndices, mk_len, show ¬ i < 0 by omega, if_false, show ¬ ((l.length : Int) < 0) by omega, show (1 : Int) > 0 by decide, if_true, e1, e2]
    unfold Txt.slice
    rw [e]
  rw [hc, slice_from (by omega) (by omega)]
  simp
theorem slice_ft {l : List Nat} {i j : Int} (h0 : 0 ≤ i) (hij : i ≤ j) (h : j ≤ l.length) : Txt.slice (mk l) (some i) (some j) = mk ((l.drop i.toNat).take (j - i).toNat) :=
  StrLaws.sliceText_plain (x := mk l) ⟨h0, hij, by simpa using h⟩
theorem slice_to {l : List Nat} {j : Int} (h0 : 0 ≤ j) (h : j ≤ l.length) : Txt.slice (mk l) none (some j) = mk (l.take j.toNat) := by
  refine (StrLaws.sliceText_to (x := mk l) ⟨h0, by simpa using h⟩).trans ?_
  simp
end Nn
namespace Nn
theorem one_len (n : Nat) : (⟨#[n]⟩ : Str).length = 1 := rfl
theorem ext_one (n : Nat) : ext (one n) = one (if n = 49 then 48 else n) := by
  unfold ext
  have e1 : Str.ofString "1" = one 49 := by decide +kernel
  have e0 : Str.ofString "0" = one 48 := by decide +kernel
  rw [e1, e0]
  by_cases h : n = 49
  · rw [if_pos h, if_pos (by rw [h])]
  · rw [if_neg h, if_neg (fun e => h (by injection e with e; injection e with e; injection e))]
section
variable {prog : Program} {w : World} {A : Around} {E : Value → Shared → Prop} {s : Shared} {h₀ : Heap} {L : Addr} {led : List (Addr × Obj)}
theorem len_led {l n : Nat} {vs : List Value} {Q : Value → Shared → Prop} (N : News h₀ L s.heap led) (hm : (l, listOf vs.toArray n) ∈ led) (hz : vs.length ≤ 1000000000)
    (h : Q (.int vs.length (s.toks + 1)) { s with toks := s.toks + 1 + 1 }) : wpAny (model prog w) A (call (.builtin "len") [.ref l]) Q E s := by
  refine len_list (N.isList hm) ?_ ?_
  · simp; omega
  · simpa using h
end
end Nn
end
end
-- P3
theorem Nn.wP3 : True := by
  (k_with "exec For Name Name cons nil!" => (k_here; (rename Fr _ _ _ _ => zzlF'); (with_unfolding_all refine' For_invVF zzlF' ?qf4bf3_k1 ?qf4bf3_k2 ?_; (case qf4bf3_k1 => exact rfl); (case qf4bf3_k2 => exact rfl); k_whole)))
  (k_with "exec For Name Call cons nil!" => (k_here; (rename Fr _ _ _ _ => zzlF'); (with_unfolding_all refine' For_invVF zzlF' ?qf4bf3_k1 ?qf4bf3_k2 ?_; (case qf4bf3_k1 => exact rfl); (case qf4bf3_k2 => exact rfl); k_whole)))
  (k_with "exec For Name Attribute cons nil!" => (k_here; (rename Fr _ _ _ _ => zzlF'); (with_unfolding_all refine' For_invVF zzlF' ?qf4bf3_k1 ?qf4bf3_k2 ?_; (case qf4bf3_k1 => exact rfl); (case qf4bf3_k2 => exact rfl); k_whole)))
  (k_with "exec For Name Subscript cons nil!" => (k_here; (rename Fr _ _ _ _ => zzlF'); (with_unfolding_all refine' For_invVF zzlF' ?qf4bf3_k1 ?qf4bf3_k2 ?_; (case qf4bf3_k1 => exact rfl); (case qf4bf3_k2 => exact rfl); k_whole)))
  (k_with "subscriptTail Name UnaryOp ref int!" => walk_at "subscriptTail")
  (k_with "subscriptTail Name Constant ref int!" => walk_at "subscriptTail")
  (k_with "subscriptTail Subscript Name Constant Constant ref int!" => walk_at "subscriptTail")
  (k_with "subscriptTail Attribute Name Name ref str!" => walk_at "subscriptTail")
  (k_with "subscriptTail Name Name ref int!" => walk_at "subscriptTail")
  trivial
section
local macro_rules | `(tactic| omega) => `(tactic| k_extra "oP3")
theorem Nn.oP3 : True := by
  (k_with "oP3" => with_reducible (k_whole; first | k_extra "omega!" | ((show (_ : Nat) < _); first | exact Nn.q187 (by assumption) (by assumption) | exact Nn.q200 (by assumption) (by assumption) | fail) | ((show (_ : Nat) ≤ _); first | exact Nn.q199 (by assumption) (by assumption) | fail) | ((show (_ : Nat) ≠ _); first | exact Nn.q193 (by assumption) | fail) | ((show (_ : Int) < _); first | exact Nn.q188 | exact Nn.q189 (by assumption) | exact Nn.q190 | exact Nn.q195 (by assumption) (by assumption) | exact Nn.q197 (by assumption) (by assumption) | exact Nn.q198 (by assumption) (by assumption) (by assumption) | exact Nn.q204 (by assumption) (by assumption) (by assumption) | fail) | ((show (_ : Int) ≤ _); first | exact Nn.q191 (by assumption) | exact Nn.q192 (by assumption) (by assumption) (by assumption) | exact Nn.q196 | exact Nn.q201 (by assumption) | exact Nn.q202 (by assumption) (by assumption) | fail) | ((show False); first | exact Nn.q194 (by assumption) (by assumption) (by assumption) | exact Nn.q203 (by assumption) (by assumption) (by assumption) | fail) | fail))
  trivial
namespace Nn
noncomputable def shortL : List Nat → List Nat
  | a :: b :: r => if one a = ext (one b) then shortL (b :: r) else a :: b :: r
  | l => l
theorem drop2 {l : List Nat} {c : Nat} (h : c + 1 < l.length) : l.drop c = l[c] :: l[c + 1] :: l.drop (c + 2) := by
  rw [List.drop_eq_getElem_cons (by omega), List.drop_eq_getElem_cons h]
theorem short_step {l : List Nat} {c : Nat} (h : c + 1 < l.length) (e : one l[c] = ext (one l[c + 1])) : shortL (l.drop (c + 1)) = shortL (l.drop c) := by
  rw [drop2 h, List.drop_eq_getElem_cons h, shortL, if_pos e]
theorem short_stop1 {l : List Nat} {c : Nat} (h : ¬ c + 1 < l.length) : shortL (l.drop c) = l.drop c := by
  rcases hd : l.drop c with _ | ⟨a, _ | ⟨b, r⟩⟩
  · rfl
  · rfl
  · have := congrArg List.length hd
    simp at this; omega
theorem short_stop2 {l : List Nat} {c : Nat} (h : c + 1 < l.length) (e : one l[c] ≠ ext (one l[c + 1])) : shortL (l.drop c) = l.drop c := by
  rw [drop2 h, shortL, if_neg e]
theorem shortened_s {w : World} {mean : ExcName → Option Value} {mg mb : Str → Option Value} {dp un : Nat} {gd : Option (List Code)} {cn : Str} {cs : Scope} {a : Addr} {ccd : Value} {cl : List (Str × Addr)} {outer : List Env} {A₀ : Around} {base h₀ : Heap} {L : Addr} {m : Str → Option Value} {news : List (Addr × Obj)} {s : Shared}
    {Q E : Value → Shared → Prop} {l : List Nat} {t : Tok}
    (B : Below A₀ base outer h₀) (F : Fr h₀ L s.heap m) (X : (K w.params).In h₀) (T : Top q looseN mean mg mb h₀) (hk : cs.kind = .function) (N : News h₀ L s.heap (news)) (hl : l.length ≤ 1000)
    (hd : dp + 10 < recursionLimit) (hu : un + 80 < cLine)
    (ret : ∀ t' h' tk', Fr h₀ L h' m → News h₀ L h' (news) → Q (.str (mk (shortL l)) t') { s with heap := h', toks := tk' }) :
    wpAny (model PySem.Challenge.rw_nn0316_01.prog w) (ktrTop dp un gd cn cs L a ccd cl outer) (call (.ref 96) [.str (mk l) t]) Q E s := by
  have hml : (mk l).length = l.length := mk_len l
  refine wpAny_call ?_
  ktr_call [("text", .str (mk l) t)] ()
  k_steps
  rename Fr _ _ _ _ => F1
  rename News _ _ _ _ => N1
  refine go (whileV (σ := Nat × Tok) (fun _ => news) (fun c => [(Str.ofString "start", .int c.1 c.2)]) [] (fun c => (c.1 = 0 ∨ c.1 < l.length) ∧ shortL (l.drop c.1) = shortL l) (fun c => l.length - c.1) (0, _) F1 N1 (ag_cons rfl ag_nil) ?_ ?_)
  · exact ⟨.inl rfl, rfl⟩
  · intro c u h tk hJ F2 N2
    (repeat ((with_reducible show ∀ _, Nn.Cut _ _ → _); intro _ _))
    clear F1 N1
    k_steps
    · rename (_ == ext _) = true => he
      rename (c.1 : Int) + 1 < _ => hlt
      rename Fr _ _ _ _ => F3
      rename News _ _ _ _ => N3
      have h1 : c.1 + 1 < l.length := by omega
      rw [item_mk (by omega) (by omega), item_mk (by omega) (by omega)] at he
      refine WEnd.intro (c.1 + 1, _) F3 N3 (by ksw_less) ⟨ag_cons rfl ag_nil, by ksw_same⟩ ⟨.inr h1, ?_⟩ ?_
      · exact (short_step h1 (eq_of_beq he)).trans hJ.2
      · show l.length - (c.1 + 1) < l.length - c.1
        omega
    · rename (_ == ext _) = false => he
      rename (c.1 : Int) + 1 < _ => hlt
      have h1 : c.1 + 1 < l.length := by omega
      rw [item_mk (by omega) (by omega), item_mk (by omega) (by omega)] at he
      rw [slice_from (by omega) (by omega), Int.toNat_natCast, ← short_stop2 h1 (beq_eq_false_iff_ne.mp he), hJ.2]
      exact ret _ _ _ (by k_asm) (news_sub (by k_asm) (by ksw_less))
    · rename ¬ (c.1 : Int) + 1 < _ => hlt
      rw [slice_from (by omega) (by omega), Int.toNat_natCast, ← short_stop1 (l := l) (c := c.1) (by omega), hJ.2]
      exact ret _ _ _ (by k_asm) (news_sub (by k_asm) (by ksw_less))
end Nn
end
-- NnRaise
section
open PySem PySem.W PySem.Spec PySem.Calls PyProof.Rows
set_option maxRecDepth 100000
set_option maxHeartbeats 8000000
namespace Nn
/-- a FormatError of this kind and place is in flight -/
noncomputable def Fly (w : World) (base : Heap) (l : List Env) (e : Addr) (news : List (Addr × Obj)) (kind : Str) (at' : Int) (h : Heap) : Prop :=
  ∃ dx t1 t2 t3 tk ta vd, FlyD base l e dx ((dx, dictOf [kE w "kind" t1 (.str kind tk), kE w "at" t2 (.int at' ta), kE w "detail" t3 vd] 3) :: news) h
theorem Fly.sub {w base l e news news' kind at' h} (x : Fly w base l e news kind at' h) (hs : ∀ p ∈ news', p ∈ news) : Fly w base l e news' kind at' h := by
  obtain ⟨dx, t1, t2, t3, tk, ta, vd, x⟩ := x
  exact ⟨dx, t1, t2, t3, tk, ta, vd, x.sub (sub_cons (.head _) (sub_tail hs))⟩
section
variable {M : Model} {A : Around} {E : Value → Shared → Prop} {s s' : Shared} {base g g₂ h h₀ : Heap} {outer : List Env} {L a e dx t : Addr} {m : Str → Option Value} {name : Str} {scope : Scope} {cd : Value} {Q : Unit → Shared → Prop} {news : List (Addr × Obj)}
theorem raise_end {w : World} {kind : Str} {at' : Int} {tk ta t1 t2 t3 : Tok} {vd : Value} {vs : List Value}
    (B : Below A base outer g) (X : (K w.params).In g) (F : Fr g L s'.heap m)
    (N : News g L s'.heap ((e, excObj (some dx) (excVs t)) :: (dx, dictOf [kE w "kind" t1 (.str kind tk), kE w "at" t2 (.int at' ta), kE w "detail" t3 vd] 3) :: (t, tupO vs) :: news))
    (n1 : ∀ p ∈ news, p.1 ≠ e) (l2 : e < dx) (n3 : t ≠ e)
    (h : ∀ h', g.UpToSlots h' → Fly w base outer e news kind at' h' → E (.ref e) { s' with heap := h' }) (hk : scope.kind = .function) :
    FeUp (fun e s' => wpAny M (A.deeper (envOf name scope L a cd)) (leaving (envOf name scope L a cd) e) (fun _ s'' => E e s'') (fun e' s'' => E e' s'') s') (.ref e) s' := by
  refine ⟨w.params, e, dx, t, rfl, X.keeps F.keep, (N _ (.head _)).1, ?_⟩
  refine fe_leave1 B F N (fun p hp => ?_) (fun h' R hs => ?_) hk
  · rcases List.mem_cons.mp hp with rfl | hp
    · exact Nat.ne_of_gt l2
    · rcases List.mem_cons.mp hp with rfl | hp
      · exact n3
      · exact n1 p hp
  · exact h h' hs ⟨dx, t1, t2, t3, tk, ta, vd, R.sub (sub_cons (.head _) (sub_tail (sub_tail sub_refl)))⟩
theorem pass_on {w : World} {kind : Str} {at' : Int} (B : Below A base outer g) (F : Fr g L g₂ m) (hsm : g₂.UpToSlots s'.heap) (R : Fly w base (envOf name scope L a cd :: outer) e news kind at' s'.heap)
    (h : ∀ h', g.UpToSlots h' → Fly w base outer e news kind at' h' → E (.ref e) { s' with heap := h' }) :
    wpAny M (A.deeper (envOf name scope L a cd)) (leaving (envOf name scope L a cd) (.ref e)) (fun _ s'' => E (.ref e) s'') (fun e' s'' => E e' s'') s' := by
  obtain ⟨dx, t1, t2, t3, tk, ta, vd, R⟩ := R
  exact fe_leave B F R hsm fun h' R' hs => h h' hs ⟨dx, t1, t2, t3, tk, ta, vd, R'⟩
end
end Nn
end
-- P4
theorem Nn.wP4 : True := by
  (k_with "exec Raise some none!" => (k_here; refine Nn.raise_fe rfl ?_))
  (k_with "call ref!" => (k_here; (with_reducible show wpAny _ _ (call (Value.ref 45) [_, _, _]) _ _ _); k_dflt (refine' Nn.fe_spec3 ?qbcbcb_B ?qbcbcb_F ?qbcbcb_X ?qbcbcb_T ?qbcbcb_hk ?qbcbcb_N ?qbcbcb_hd ?_; (case qbcbcb_B => k_asm); (case qbcbcb_F => k_asm); (case qbcbcb_X => k_asm); (case qbcbcb_T => k_asm); (case qbcbcb_hk => first | exact rfl | assumption); (case qbcbcb_N => k_asm); (case qbcbcb_hd => ktr_room); k_whole); intro zze' zzt' zzdx' zzt1 zzt2 zzt3 zzh' zztk' zzF' zzN' zzn1 zzn2 zzn3 zzl2 zzl3 zzn4; (try dsimp only); refine' Nn.raise_end ?qbcbcb_B ?qbcbcb_X ?qbcbcb_F ?qbcbcb_N ?qbcbcb_n1 ?qbcbcb_l2 ?qbcbcb_n3 ?_ ?qbcbcb_hk; (case qbcbcb_B => k_asm); (case qbcbcb_X => assumption); (case qbcbcb_F => exact zzF'); (case qbcbcb_N => exact zzN'); (case qbcbcb_n1 => assumption); (case qbcbcb_l2 => exact zzl2); (case qbcbcb_n3 => exact zzn4); (case qbcbcb_hk => exact rfl); intro zzh'' zzhs zzR; (try dsimp only)))
  (k_with "call ref!" => (k_here; (with_reducible show wpAny _ _ (call (Value.ref 45) [_, _]) _ _ _); k_dflt (refine' Nn.fe_spec2 ?qc327b_B ?qc327b_F ?qc327b_X ?qc327b_T ?qc327b_hk ?qc327b_N ?qc327b_hd ?_; (case qc327b_B => k_asm); (case qc327b_F => k_asm); (case qc327b_X => k_asm); (case qc327b_T => k_asm); (case qc327b_hk => first | exact rfl | assumption); (case qc327b_N => k_asm); (case qc327b_hd => ktr_room); k_whole); intro zze' zzt' zzdx' zzt1 zzt2 zzt3 zzh' zztk' zzF' zzN' zzn1 zzn2 zzn3 zzl2 zzl3 zzn4; (try dsimp only); refine' Nn.raise_end ?qc327b_B ?qc327b_X ?qc327b_F ?qc327b_N ?qc327b_n1 ?qc327b_l2 ?qc327b_n3 ?_ ?qc327b_hk; (case qc327b_B => k_asm); (case qc327b_X => assumption); (case qc327b_F => exact zzF'); (case qc327b_N => exact zzN'); (case qc327b_n1 => assumption); (case qc327b_l2 => exact zzl2); (case qc327b_n3 => exact zzn4); (case qc327b_hk => exact rfl); intro zzh'' zzhs zzR; (try dsimp only)))
  (k_with "call ref!" => (k_here; (with_reducible show wpAny _ _ (call (Value.ref 110) _) _ _ _); skip; k_dflt (refine' Nn.is_layout_s ?q67fb4_B ?q67fb4_F ?q67fb4_X ?q67fb4_T ?q67fb4_hk ?q67fb4_N  ?q67fb4_hd ?q67fb4_hu ?_; (case q67fb4_B => k_asm); (case q67fb4_F => k_asm); (case q67fb4_X => k_asm); (case q67fb4_T => k_asm); (case q67fb4_hk => first | exact rfl | assumption); (case q67fb4_N => k_asm); (case q67fb4_hd => ktr_room); (case q67fb4_hu => ktr_units); k_whole); intro zzh' zztk' zzF' zzN'; (try dsimp only)))
  (k_with "call ref!" => (k_here; (with_reducible show wpAny _ _ (call (Value.ref 89) _) _ _ _); skip; k_dflt (refine' Nn.extension_s ?qac272_B ?qac272_F ?qac272_X ?qac272_T ?qac272_hk ?qac272_N  ?qac272_hd ?qac272_hu ?_; (case qac272_B => k_asm); (case qac272_F => k_asm); (case qac272_X => k_asm); (case qac272_T => k_asm); (case qac272_hk => first | exact rfl | assumption); (case qac272_N => k_asm); (case qac272_hd => ktr_room); (case qac272_hu => ktr_units); k_whole); intro zzt' zzh' zztk' zzF' zzN'; (try dsimp only)))
  (k_with "call ref!" => (k_here; (with_reducible show wpAny _ _ (call (Value.ref 54) _) _ _ _); skip; k_dflt (refine' Nn.code_s ?q73547_B ?q73547_F ?q73547_X ?q73547_T ?q73547_hk ?q73547_N ?q73547_hv ?q73547_hi0 ?q73547_hd ?q73547_hu ?_; (case q73547_B => k_asm); (case q73547_F => k_asm); (case q73547_X => k_asm); (case q73547_T => k_asm); (case q73547_hk => first | exact rfl | assumption); (case q73547_N => k_asm); (case q73547_hv => k_mem); (case q73547_hi0 => first | assumption | omega); (case q73547_hd => ktr_room); (case q73547_hu => ktr_units); k_whole); intro zzt' zzh' zztk' zzF' zzN'; (try dsimp only)))
  trivial
namespace Nn
noncomputable def okWord (l : List Nat) : Bool := !(mk l == Str.ofString "") && !(mk l == Str.ofString "$end") && l.all fun n => !isLay n
theorem okWord_lay {l : List Nat} {n : Nat} (h : n ∈ l) (e : isLay n = true) : okWord l = false := by
  have h2 : (l.all fun n => !isLay n) = false := by
    rw [List.all_eq_false]
    exact ⟨n, h, by simp [e]⟩
  unfold okWord
  rw [h2]; simp
theorem check_word_s {w : World} {mean : ExcName → Option Value} {mg mb : Str → Option Value} {dp un : Nat} {gd : Option (List Code)} {cn : Str} {cs : Scope} {a : Addr} {ccd : Value} {cl : List (Str × Addr)} {outer : List Env} {A₀ : Around} {base h₀ : Heap} {L : Addr} {m : Str → Option Value} {news : List (Addr × Obj)} {s : Shared}
    {Q E : Value → Shared → Prop} {l : List Nat} {kind : Str} {t t2 : Tok}
    (B : Below A₀ base outer h₀) (F : Fr h₀ L s.heap m) (X : (K w.params).In h₀) (T : Top q looseN mean mg mb h₀) (hk : cs.kind = .function) (N : News h₀ L s.heap (news)) (hl : l.length ≤ 100000)
    (hd : dp + 14 < recursionLimit) (hu : un + 112 < cLine)
    (ret : okWord l = true → ∀ h' tk', Fr h₀ L h' m → News h₀ L h' (news) → Q (.none) { s with heap := h', toks := tk' })
    (exc : okWord l = false → ∀ g e h' tk', g.UpToSlots h' → Fr h₀ L g m → Fly w base (envX cn cs L a ccd cl :: outer) e (news) (kind) (-1) h' → E (.ref e) { s with heap := h', toks := tk' }) :
    wpAny (model PySem.Challenge.rw_nn0316_01.prog w) (ktrTop dp un gd cn cs L a ccd cl outer) (call (.ref 117) [.str (mk l) t, .str kind t2]) Q E s := by
  have hml : (mk l).length = l.length := mk_len l
  refine wpAny_call ?_
  ktr_call [("word", .str (mk l) t), ("kind", .str kind t2)] ()
  k_steps
  · rename (_ == _) = true => he
    have hb : okWord l = false := by unfold okWord; rw [he]; rfl
    replace exc := exc hb
    exact exc _ _ _ _ (by assumption) (by assumption) (Fly.sub (by assumption) (by ksw_less))
  · rename (_ == _) = true => he
    have hb : okWord l = false := by unfold okWord; rw [he]; simp
    replace exc := exc hb
    exact exc _ _ _ _ (by assumption) (by assumption) (Fly.sub (by assumption) (by ksw_less))
  rename (_ == Str.ofString "") = false => he1
  rename (_ == Str.ofString "$end") = false => he2
  rename Fr _ _ _ _ => F1
  rename News _ _ _ _ => N1
  refine go (strV (σ := Unit) (fun _ => news) (fun _ => []) [] (fun i _ => ∀ d ∈ l.take i, isLay d = false) () rfl F1 N1 ag_nil (by simp) ?_ ?_)
  · intro i d t c u h tk own hd' hJ ha F2 N2
    (repeat ((with_reducible show ∀ _, Nn.Cut _ _ → _); intro _ _))
    clear F1 N1
    have hd2 : l[i]? = some d := by simpa using hd'
    dsimp (config := {zetaDelta := true}) only [envOf] at F2 N2
    k_steps
    · rename isLay d = true => he
      have hb := okWord_lay (List.mem_of_getElem? hd2) he
      replace exc := exc hb
      exact exc _ _ _ _ (by assumption) (by assumption) (Fly.sub (by assumption) (by ksw_less))
    · rename isLay d = false => he
      rename Fr _ _ _ _ => F3
      rename News _ _ _ _ => N3
      refine GEnd.intro () F3 N3 (by ksw_less) (by ksw_less) ha ⟨ag_nil, by ksw_same⟩ ?_
      intro d' hd3
      rw [List.take_add_one, hd2] at hd3
      rcases List.mem_append.mp hd3 with h | h
      · exact hJ _ h
      · rw [List.mem_singleton.mp h]; exact he
  · intro c u h tk hJ F2 N2
    (repeat ((with_reducible show ∀ _, Nn.Cut _ _ → _); intro _ _))
    clear F1 N1
    dsimp (config := {zetaDelta := true}) only [envOf] at F2 N2
    have hb : okWord l = true := by
      unfold okWord
      rw [he1, he2, List.all_eq_true.mpr (fun d hd => by rw [hJ d (by rw [List.take_of_length_le (by simp)]; exact hd)]; rfl)]
      rfl
    k_steps
    exact ret hb _ _ (by k_asm) (news_sub (by k_asm) (by ksw_less))
end Nn
-- NnOps
section
open PySem PySem.W PySem.Spec PySem.Calls PyProof.Rows
set_option maxRecDepth 100000
section
local macro_rules | `(tactic| omega) => `(tactic| k_extra "oNnOps")
theorem Nn.oNnOps : True := by
  (k_with "oNnOps" => with_reducible (k_whole; first | k_extra "omega!" | ((show (_ : Nat) = _); first | exact Nn.q14 (by assumption) (by assumption) | fail) | ((show (_ : Int) ≤ _); first | exact Nn.q15 (by assumption) | exact Nn.q16 (by assumption) | fail) | fail))
  trivial
namespace Nn
/-! ## Texts: the operations, in lists of signs -/
noncomputable def S (s : String) : List Nat := s.toList.map Char.toNat
theorem lit_eq (s : String) : Str.ofString s = mk (S s) := by
  exact Str.ofString_eq_toList s
theorem mk_rfl (l : List Nat) : mk l = mk l := rfl
theorem one_mk (n : Nat) : one n = mk [n] := rfl
theorem fold_rep (n : Nat) : ∀ (k : Nat) (acc : List Nat), (List.replicate k (#[n] : Array Nat)).foldl (· ++ ·) acc.toArray = (acc ++ List.replicate k n).toArray
  | 0, acc => by simp
  | k + 1, acc => by
    rw [List.replicate_succ, List.foldl_cons]
    have e : acc.toArray ++ #[n] = (acc ++ [n]).toArray := by simp
    rw [e, fold_rep n k, List.replicate_succ, List.append_assoc]
    rfl
theorem mul_eq (n : Nat) {k : Int} (hk : 0 ≤ k) : Txt.mul (mk [n]) k = mk (List.replicate k.toNat n) := by
  unfold Txt.mul
  by_cases h1 : k < 1
  · rw [if_pos h1, show k.toNat = 0 by omega]; rfl
  · rw [if_neg h1]
    by_cases h2 : k = 1
    · subst h2; rfl
    · have e : (k == 1 || (mk [n]).length == 0) = false := by
        rw [mk_len]; simp [h2]
      rw [e]
      show (⟨(List.replicate k.toNat (#[n] : Array Nat)).foldl (· ++ ·) ([] : List Nat).toArray⟩ : Str) = _
      rw [fold_rep]; rfl
section
variable {prog : Program} {w : World} {A : Around} {E : Value → Shared → Prop} {s : Shared} {Q : Value → Shared → Prop} {x y : Str} {a b : List Nat} {t u : Tok}
theorem add_l (hx : x = mk a) (hy : y = mk b) (hz : a.length + b.length ≤ 16777216) (h : ∀ t' k, Q (.str (mk (a ++ b)) t') { s with toks := k }) : wpAny (model prog w) A (binaryOp .Add (.str x t) (.str y u)) Q E s := by
  subst hx hy
  refine SB.add (fun t' k => ?_) (by rw [mk_len, mk_len, sizeLine_eq]; exact hz)
  rw [mk_app]; exact h t' k
theorem iadd_l (hx : x = mk a) (hy : y = mk b) (hz : a.length + b.length ≤ 16777216) (h : ∀ t' k, Q (.str (mk (a ++ b)) t') { s with toks := k }) : wpAny (model prog w) A (inplaceOp .Add (.str x t) (.str y u)) Q E s := by
  subst hx hy
  refine SB.iadd (fun t' k => ?_) (by rw [mk_len, mk_len, sizeLine_eq]; exact hz)
  rw [mk_app]; exact h t' k
theorem mul_l {n : Nat} {k : Int} (hx : x = mk [n]) (hk : 0 ≤ k ∧ k ≤ 1000000) (h : ∀ t' j, Q (.str (mk (List.replicate k.toNat n)) t') { s with toks := j }) : wpAny (model prog w) A (binaryOp .Mult (.str x t) (.int k u)) Q E s := by
  subst hx
  refine SB.mul (mulOk_of 1 1000000 (by rw [mk_len]; simp) (by omega) (by omega) (by decide) (by decide)) fun t' j => ?_
  have e : Txt.mul (mk [n]) k = mk (List.replicate k.toNat n) := mul_eq n hk.1
  rw [e]; exact h t' j
end
theorem rangeK {σ : Type} {prog : Program} {w : World} {A : Around} {E : Value → Shared → Prop} {s : Shared} {env : Env} {h₀ : Heap} {x : Str} {body : List Stmt} {Q : Flow → Shared → Prop} {r : Addr} {a₀ b₀ st : Int} {t₀ u₀ v₀ : Tok} {n : Nat} {m₀ : Str → Option Value} (Led : σ → List (Addr × Obj)) (ps : σ → List (Str × Value)) (stored : List Str) (J : Nat → σ → Prop) (c₀ : σ)
    (hh : A.handled = none) (hr : IsRange s.heap r a₀ b₀ st t₀ u₀ v₀) (hsmall : Builtin.Range.small a₀ b₀ st = true) (hn : Builtin.Range.rangeSize a₀ b₀ st = (n : Int))
    (F : Fr h₀ env.locals s.heap m₀) (N : News h₀ env.locals s.heap (Led c₀)) (hk : Has m₀ (ps c₀)) (hj : J 0 c₀)
    (turn : ∀ i k t c u h tk own, k = a₀ + (i : Nat) * st → i < n → J i c → Apart ((Led c).map (·.1)) own → Fr h₀ env.locals h (fun y => if y = x then some (.int k t) else LM stored u m₀ (ps c) y) → News h₀ env.locals h (Led c ++ own) →
      ∀ Qb, Cut (GPost h₀ env.locals Led ps [x] stored m₀ own (J (i + 1)) { s with heap := h, toks := tk } Q) Qb → wpAny (model prog w) A (execs body env) Qb E { s with heap := h, toks := tk })
    (done : ∀ c (u : Str → Option Value) h tk, J n c → Fr h₀ env.locals h (fun y => if y = x then u y else LM stored u m₀ (ps c) y) → News h₀ env.locals h (Led c) → Q .next { s with heap := h, toks := tk }) :
    wpAny (model prog w) A (pyIter (.ref r)) (fun it s₂ => LoopAtV prog w A h₀ env x body Q E it s₂) E s :=
  rangeV Led ps stored J c₀ hh hr hsmall hn F N hk hj (fun i t c u h tk own => turn i _ t c u h tk own rfl) done
/-! lengths of the written texts -/
theorem sl0 : (S "").length = 0 := by decide +kernel
theorem sl1 : (S "b").length = 1 := by decide +kernel
theorem sl2 : (S " ").length = 1 := by decide +kernel
theorem sl3 : (S "#").length = 1 := by decide +kernel
theorem sl4 : (S "\n").length = 1 := by decide +kernel
theorem sl5 : (S "$timescale ").length = 11 := by decide +kernel
theorem sl6 : (S " $end").length = 5 := by decide +kernel
theorem sl7 : (S "$scope module ").length = 14 := by decide +kernel
theorem sl8 : (S " [").length = 2 := by decide +kernel
theorem sl9 : (S ":0]").length = 3 := by decide +kernel
theorem sl10 : (S "$enddefinitions $end").length = 20 := by decide +kernel
theorem sl11 : (S "$upscope $end").length = 13 := by decide +kernel
theorem sl12 : (S "$var ").length = 5 := by decide +kernel
theorem sl13 : (S ".").length = 1 := by decide +kernel
end Nn
end
end
-- P5
local macro_rules | `(tactic| size_fits) => `(tactic| k_extra "size_fits!")
local macro_rules | `(tactic| is_list) => `(tactic| k_extra "is_list!")
local macro_rules | `(tactic| lcg_off) => `(tactic| k_extra "lcg_off!")
local macro_rules | `(tactic| one_sign) => `(tactic| k_extra "one_sign!")
theorem Nn.wP5 : True := by
  (k_with "size_fits!" => (simp only [Nn.mk_len, Nn.one_len, PySem.Str.length_append, PySem.ofString_length, PySem.sizeLine_eq, List.length_append, List.length_cons, List.length_nil, List.size_toArray]; omega))
  (k_with "is_list!" => exact News.isList (by k_asm) (by k_mem))
  (k_with "call builtin:len!" => (k_here; (with_reducible show wpAny _ _ (call (Value.builtin "len") [Value.ref _]) _ _ _); refine Nn.len_led (by k_asm) (by k_mem) (by first | assumption | size_fits | omega) ?_; (try dsimp only)))
  (k_with "lcg_off!" => first | assumption | omega | (simp only [List.length_append, List.length_cons, List.length_nil, List.length_replicate, List.length_take, List.length_drop, Nn.sl0, Nn.sl1, Nn.sl2, Nn.sl3, Nn.sl4, Nn.sl5, Nn.sl6, Nn.sl7, Nn.sl8, Nn.sl9, Nn.sl10, Nn.sl11, Nn.sl12, Nn.sl13]; omega))
  (k_with "one_sign!" => first | with_reducible assumption | with_reducible exact Nn.lit_eq _ | with_reducible exact Nn.mk_rfl _ | with_reducible exact Nn.one_mk _)
  (k_with "binaryOp Add str str!" => (k_here; refine' Nn.add_l ?qff36e_h1 ?qff36e_h2 ?qff36e_h3 ?_; (case qff36e_h1 => one_sign); (case qff36e_h2 => one_sign); (case qff36e_h3 => lcg_off); intro _ _))
  (k_with "inplaceOp Add str str!" => (k_here; refine' Nn.iadd_l ?qef24a_h1 ?qef24a_h2 ?qef24a_h3 ?_; (case qef24a_h1 => one_sign); (case qef24a_h2 => one_sign); (case qef24a_h3 => lcg_off); intro _ _))
  (k_with "binaryOp Mult str int!" => (k_here; refine' Nn.mul_l ?q270cd_h1 ?q270cd_h2 ?_; (case q270cd_h1 => one_sign); (case q270cd_h2 => omega); intro _ _))
  (k_with "call ref!" => (k_here; (with_reducible show wpAny _ _ (call (Value.ref 68) _) _ _ _); skip; k_dflt (refine' Nn.bits_text_s ?q27510_B ?q27510_F ?q27510_X ?q27510_T ?q27510_hk ?q27510_N ?q27510_hv ?q27510_hw ?q27510_hn ?q27510_hd ?q27510_hu ?_; (case q27510_B => k_asm); (case q27510_F => k_asm); (case q27510_X => k_asm); (case q27510_T => k_asm); (case q27510_hk => first | exact rfl | assumption); (case q27510_N => k_asm); (case q27510_hv => k_mem); (case q27510_hw => first | assumption | omega); (case q27510_hn => first | assumption | omega); (case q27510_hd => ktr_room); (case q27510_hu => ktr_units); k_whole); intro zzt' zzh' zztk' zzF' zzN'; (try dsimp only)))
  (k_with "call ref!" => (k_here; (with_reducible show wpAny _ _ (call (Value.ref 96) _) _ _ _); skip; k_dflt (refine' Nn.shortened_s ?qd50c1_B ?qd50c1_F ?qd50c1_X ?qd50c1_T ?qd50c1_hk ?qd50c1_N ?qd50c1_hl ?qd50c1_hd ?qd50c1_hu ?_; (case qd50c1_B => k_asm); (case qd50c1_F => k_asm); (case qd50c1_X => k_asm); (case qd50c1_T => k_asm); (case qd50c1_hk => first | exact rfl | assumption); (case qd50c1_N => k_asm); (case qd50c1_hl => first | assumption | k_asm); (case qd50c1_hd => ktr_room); (case qd50c1_hu => ktr_units); k_whole); intro zzt' zzh' zztk' zzF' zzN'; (try dsimp only)))
  trivial
section
local macro_rules | `(tactic| omega) => `(tactic| k_extra "oP5")
theorem Nn.oP5 : True := by
  (k_with "oP5" => with_reducible (k_whole; first | k_extra "omega!" | ((show (_ : Nat) < _); first | exact Nn.q222 (by assumption) | fail) | ((show (_ : Nat) ≤ _); first | exact Nn.q205 (by assumption) | exact Nn.q206 (by assumption) (by assumption) (by assumption) | exact Nn.q213 (by assumption) (by assumption) | exact Nn.q215 (by assumption) (by assumption) (by assumption) | exact Nn.q217 (by assumption) (by assumption) (by assumption) (by assumption) | exact Nn.q221 (by assumption) (by assumption) (by assumption) | exact Nn.q224 (by assumption) (by assumption) (by assumption) | fail) | ((show (_ : Nat) = _); first | exact Nn.q210 (by assumption) | exact Nn.q212 (by assumption) (by assumption) | fail) | ((show (_ : Int) < _); first | exact Nn.q208 (by assumption) (by assumption) | exact Nn.q218 (by assumption) (by assumption) | fail) | ((show (_ : Int) ≤ _); first | exact Nn.q214 | exact Nn.q219 (by assumption) (by assumption) | exact Nn.q223 | fail) | ((show (_ : Int) ≠ _); first | exact Nn.q211 (by assumption) (by assumption) | fail) | ((show (_ : Int) = _); first | exact Nn.q216 | exact Nn.q220 (by assumption) | fail) | ((show _ ∧ _); first | exact Nn.q209 (by assumption) (by assumption) (by assumption) | fail) | ((show False); first | exact Nn.q207 (by assumption) (by assumption) (by assumption) (by assumption) | fail) | fail))
  trivial
namespace Nn
noncomputable def extN (n : Nat) : Nat := if n = 49 then 48 else n
noncomputable def longL (l : List Nat) (wd : Nat) : List Nat := List.replicate (wd - l.length) (extN (l.headD 0)) ++ l
theorem lengthened_s {w : World} {mean : ExcName → Option Value} {mg mb : Str → Option Value} {dp un : Nat} {gd : Option (List Code)} {cn : Str} {cs : Scope} {a : Addr} {ccd : Value} {cl : List (Str × Addr)} {outer : List Env} {A₀ : Around} {base h₀ : Heap} {L : Addr} {m : Str → Option Value} {news : List (Addr × Obj)} {s : Shared}
    {Q E : Value → Shared → Prop} {l : List Nat} {wd : Nat} {t t2 : Tok}
    (B : Below A₀ base outer h₀) (F : Fr h₀ L s.heap m) (X : (K w.params).In h₀) (T : Top q looseN mean mg mb h₀) (hk : cs.kind = .function) (N : News h₀ L s.heap (news)) (hl : 0 < l.length ∧ l.length ≤ wd) (hw : wd ≤ 1000)
    (hd : dp + 10 < recursionLimit) (hu : un + 80 < cLine)
    (ret : ∀ t' h' tk', Fr h₀ L h' m → News h₀ L h' (news) → Q (.str (mk (longL l wd)) t') { s with heap := h', toks := tk' }) :
    wpAny (model PySem.Challenge.rw_nn0316_01.prog w) (ktrTop dp un gd cn cs L a ccd cl outer) (call (.ref 103) [.str (mk l) t, .int wd t2]) Q E s := by
  have hml : (mk l).length = l.length := mk_len l
  have hx : ext (Txt.item (mk l) 0) = mk [extN (l[0]'hl.1)] := by
    rw [item_mk (by omega) (by omega), ext_one]; rfl
  refine wpAny_call ?_
  ktr_call [("text", .str (mk l) t), ("width", .int wd t2)] ()
  k_steps
  have e : List.replicate ((wd : Int) - ((mk l).length : Int)).toNat (extN (l[0]'hl.1)) ++ l = longL l wd := by
    have e1 : ((wd : Int) - ((mk l).length : Int)).toNat = wd - l.length := by omega
    have e2 : l.headD 0 = l[0]'hl.1 := by
      cases l with
      | nil => exact absurd hl.1 (Nat.lt_irrefl _)
      | cons a r => rfl
    rw [e1, longL, e2]
  rw [e]
  exact ret _ _ _ (by k_asm) (news_sub (by k_asm) (by ksw_less))
theorem id_text_s {w : World} {mean : ExcName → Option Value} {mg mb : Str → Option Value} {dp un : Nat} {gd : Option (List Code)} {cn : Str} {cs : Scope} {a : Addr} {ccd : Value} {cl : List (Str × Addr)} {outer : List Env} {A₀ : Around} {base h₀ : Heap} {L : Addr} {m : Str → Option Value} {news : List (Addr × Obj)} {s : Shared}
    {Q E : Value → Shared → Prop} {n : Int} {t : Tok}
    (B : Below A₀ base outer h₀) (F : Fr h₀ L s.heap m) (X : (K w.params).In h₀) (T : Top q looseN mean mg mb h₀) (hk : cs.kind = .function) (N : News h₀ L s.heap (news)) (hn : 0 ≤ n ∧ n < 94)
    (hd : dp + 10 < recursionLimit) (hu : un + 80 < cLine)
    (ret : ∀ t' h' tk', Fr h₀ L h' m → News h₀ L h' (news) → Q (.str (mk [33 + n.toNat]) t') { s with heap := h', toks := tk' }) :
    wpAny (model PySem.Challenge.rw_nn0316_01.prog w) (ktrTop dp un gd cn cs L a ccd cl outer) (call (.ref 82) [.int n t]) Q E s := by
  refine wpAny_call ?_
  ktr_call [("number", .int n t)] ()
  k_steps
  rename Fr _ _ _ _ => F1
  rename News _ _ _ _ => N1
  refine go (whileV (σ := Int × Tok × Str × Tok) (fun _ => news) (fun c => [(Str.ofString "text", .str c.2.2.1 c.2.2.2), (Str.ofString "rest", .int c.1 c.2.1)]) [] (fun c => (c.1 = n + 1 ∧ c.2.2.1 = mk []) ∨ (c.1 = 0 ∧ c.2.2.1 = mk [33 + n.toNat])) (fun c => c.1.toNat) (n + 1, _, _, _) F1 N1 (ag_cons rfl (ag_cons rfl ag_nil)) ?_ ?_)
  · exact .inl ⟨rfl, rfl⟩
  · rintro ⟨rs, tr, tx, tt⟩ u h tk hJ F2 N2
    (repeat ((with_reducible show ∀ _, Nn.Cut _ _ → _); intro _ _))
    clear F1 N1
    dsimp only at hJ F2 N2
    have hx : ∃ b, tx = mk b ∧ b.length ≤ 1 := by
      rcases hJ with ⟨_, h⟩ | ⟨_, h⟩
      · exact ⟨_, h, by simp⟩
      · exact ⟨_, h, by simp⟩
    obtain ⟨b, hxb, hbl⟩ := hx
    k_steps
    · rename 0 < rs => h0
      rename Fr _ _ _ _ => F3
      rename News _ _ _ _ => N3
      rcases hJ with ⟨h1, h2⟩ | ⟨h1, h2⟩
      · have e0 : b = [] := mk_inj (hxb.symm.trans h2)
        subst h1 e0
        have e1 : (33 + (n + 1 - 1).fmod 94).toNat = 33 + n.toNat := by
          rw [show n + 1 - 1 = n by omega, Int.fmod_eq_emod_of_nonneg _ (by decide)]; omega
        have e2 : (n + 1 - 1).fdiv 94 = 0 := by
          rw [show n + 1 - 1 = n by omega, Int.fdiv_eq_ediv_of_nonneg _ (by decide)]; omega
        rw [e1, e2] at F3
        refine WEnd.intro (0, _, _, _) F3 N3 (by ksw_less) ⟨ag_cons rfl (ag_cons rfl ag_nil), by ksw_same⟩ (.inr ⟨rfl, rfl⟩) ?_
        show (0 : Int).toNat < (n + 1).toNat
        omega
      · exact absurd h0 (by rw [h1]; decide)
    · rename ¬ 0 < rs => h0
      rcases hJ with ⟨h1, h2⟩ | ⟨h1, h2⟩
      · exact absurd (by omega) h0
      · rw [h2]
        exact ret _ _ _ (by k_asm) (news_sub (by k_asm) (by ksw_less))
noncomputable def rowL (wd lo hi : Int) (name : List Nat) : List Nat := if wd = 1 then bitsL lo hi wd wd.toNat ++ name else S "b" ++ shortL (bitsL lo hi wd wd.toNat) ++ S " " ++ name
theorem shortL_len : ∀ l : List Nat, (shortL l).length ≤ l.length
  | [] => Nat.le_refl _
  | [_] => Nat.le_refl _
  | a :: b :: r => by
    rw [shortL]
    split
    · exact Nat.le_trans (shortL_len (b :: r)) (Nat.le_succ _)
    · exact Nat.le_refl _
theorem change_row_s {w : World} {mean : ExcName → Option Value} {mg mb : Str → Option Value} {dp un : Nat} {gd : Option (List Code)} {cn : Str} {cs : Scope} {a : Addr} {ccd : Value} {cl : List (Str × Addr)} {outer : List Env} {A₀ : Around} {base h₀ : Heap} {L : Addr} {m : Str → Option Value} {news : List (Addr × Obj)} {s : Shared}
    {Q E : Value → Shared → Prop} {va : Nat} {wd lo hi : Int} {t1 t2 t3 t4 t5 : Tok} {l : List Nat}
    (B : Below A₀ base outer h₀) (F : Fr h₀ L s.heap m) (X : (K w.params).In h₀) (T : Top q looseN mean mg mb h₀) (hk : cs.kind = .function) (N : News h₀ L s.heap (news)) (hl : l.length ≤ 1000) (hv : (va, tupO [.int wd t1, .int lo t2, .int hi t3]) ∈ news) (hw : 1 ≤ wd ∧ wd ≤ 1000) (hn : 0 ≤ lo ∧ 0 ≤ hi)
    (hd : dp + 16 < recursionLimit) (hu : un + 128 < cLine)
    (ret : ∀ t' h' tk', Fr h₀ L h' m → News h₀ L h' (news) → Q (.str (mk (rowL wd lo hi l)) t') { s with heap := h', toks := tk' }) :
    wpAny (model PySem.Challenge.rw_nn0316_01.prog w) (ktrTop dp un gd cn cs L a ccd cl outer) (call (.ref 124) [.int wd t4, .str (mk l) t5, .ref va]) Q E s := by
  have hbl := bitsL_len lo hi wd wd.toNat
  have hsl := shortL_len (bitsL lo hi wd wd.toNat)
  have hbl2 : (bitsL lo hi wd wd.toNat).length ≤ 1000 := by omega
  refine wpAny_call ?_
  ktr_call [("width", .int wd t4), ("name", .str (mk l) t5), ("value", .ref va)] ()
  k_steps
  · rename wd = 1 => h1
    rw [show bitsL lo hi wd wd.toNat ++ l = rowL wd lo hi l by rw [rowL, if_pos h1]]
    exact ret _ _ _ (by k_asm) (news_sub (by k_asm) (by ksw_less))
  · rename wd ≠ 1 => h1
    rw [show S "b" ++ shortL (bitsL lo hi wd wd.toNat) ++ S " " ++ l = rowL wd lo hi l by rw [rowL, if_neg h1]]
    exact ret _ _ _ (by k_asm) (news_sub (by k_asm) (by ksw_less))
end Nn
end
-- P6
theorem Nn.wP6 : True := by
  (k_with "binaryOp LShift int int!" => (k_here; refine lshift_int_small (by omega) (by omega) (by assumption) ?_))
  trivial
section
local macro_rules | `(tactic| omega) => `(tactic| k_extra "oP6")
theorem Nn.oP6 : True := by
  (k_with "oP6" => with_reducible (k_whole; first | k_extra "omega!" | ((show (_ : Nat) < _); first | exact Nn.q237 (by assumption) | exact Nn.q239 (by assumption) | exact Nn.q240 (by assumption) (by assumption) | fail) | ((show (_ : Nat) ≤ _); first | exact Nn.q227 (by assumption) (by assumption) | fail) | ((show (_ : Nat) = _); first | exact Nn.q226 (by assumption) | exact Nn.q235 (by assumption) (by assumption) (by assumption) | fail) | ((show (_ : Int) < _); first | exact Nn.q228 (by assumption) (by assumption) | exact Nn.q233 (by assumption) (by assumption) (by assumption) (by assumption) (by assumption) | exact Nn.q234 (by assumption) (by assumption) (by assumption) (by assumption) | fail) | ((show (_ : Int) ≤ _); first | exact Nn.q231 | exact Nn.q236 (by assumption) (by assumption) | exact Nn.q244 (by assumption) | exact Nn.q246 (by assumption) (by assumption) (by assumption) (by assumption) (by assumption) | fail) | ((show (_ : Int) = _); first | exact Nn.q229 | exact Nn.q230 | exact Nn.q241 | exact Nn.q243 (by assumption) | fail) | ((show _ ∧ _); first | exact Nn.q225 (by assumption) | exact Nn.q232 | exact Nn.q238 (by assumption) (by assumption) | exact Nn.q242 (by assumption) (by assumption) (by assumption) | fail) | ((show False); first | exact Nn.q245 (by assumption) (by assumption) | fail) | fail))
  trivial
namespace Nn
noncomputable def packS (f : Int → Int) : List Int → Int
  | [] => 0
  | k :: r => f k + 2 * packS f r
theorem packS_snoc (f : Int → Int) (k : Int) : ∀ l : List Int, packS f (l ++ [k]) = packS f l + f k * 2 ^ l.length
  | [] => by simp [packS]
  | a :: r => by
    show f a + 2 * packS f (r ++ [k]) = f a + 2 * packS f r + f k * 2 ^ (r.length + 1)
    rw [packS_snoc f k r, Int.pow_succ]
    rw [Int.mul_add, ← Int.mul_assoc, Int.mul_comm 2 (f k), Int.mul_assoc (f k), Int.mul_comm 2 (2 ^ r.length)]
    omega
theorem packS_b {f : Int → Int} : ∀ {l : List Int}, (∀ k ∈ l, 0 ≤ f k ∧ f k < 2) → 0 ≤ packS f l ∧ packS f l < 2 ^ l.length
  | [], _ => by simp [packS]
  | a :: r, h => by
    have h1 := h a (.head _)
    have h2 := packS_b (l := r) fun k hk => h k (.tail _ hk)
    have e : (2 : Int) ^ (a :: r).length = 2 * 2 ^ r.length := by rw [List.length_cons, Int.pow_succ, Int.mul_comm]
    rw [e]
    show 0 ≤ f a + 2 * packS f r ∧ f a + 2 * packS f r < 2 * 2 ^ r.length
    omega
theorem bitOr_nn {x y : Int} (hx : 0 ≤ x) (hy : 0 ≤ y) : Builtin.bitOr x y = ((x.toNat ||| y.toNat : Nat) : Int) := by
  have hb : ∀ z : Int, 0 ≤ z → decide (0 ≤ Builtin.bitNot z) = false := fun z hz => decide_eq_false (by unfold Builtin.bitNot; omega)
  have hn : ∀ z : Int, Builtin.bitNot (Builtin.bitNot z) = z := fun z => by unfold Builtin.bitNot; omega
  unfold Builtin.bitOr Builtin.bitAnd
  rw [hb x hx, hb y hy]
  show Builtin.bitNot (Builtin.bitNot _) = _
  rw [hn, hn, hn]
theorem bitOr_add {x y : Int} {k : Nat} (hx : 0 ≤ x) (hk : x < 2 ^ k) (hy : 0 ≤ y) : Builtin.bitOr x (y * 2 ^ k) = x + y * 2 ^ k := by
  obtain ⟨a, rfl⟩ := Int.eq_ofNat_of_zero_le hx
  obtain ⟨b, rfl⟩ := Int.eq_ofNat_of_zero_le hy
  have e : (b : Int) * 2 ^ k = ((b * 2 ^ k : Nat) : Int) := by simp
  have ha : a < 2 ^ k := by
    have : ((2 ^ k : Nat) : Int) = (2 : Int) ^ k := by simp
    omega
  rw [e, bitOr_nn (Int.natCast_nonneg _) (Int.natCast_nonneg _), Int.toNat_natCast, Int.toNat_natCast, ← Nat.shiftLeft_eq, Nat.or_comm, ← Nat.shiftLeft_add_eq_or_of_lt ha]
  omega
theorem from_codes_s {w : World} {mean : ExcName → Option Value} {mg mb : Str → Option Value} {dp un : Nat} {gd : Option (List Code)} {cn : Str} {cs : Scope} {a : Addr} {ccd : Value} {cl : List (Str × Addr)} {outer : List Env} {A₀ : Around} {base h₀ : Heap} {L : Addr} {m : Str → Option Value} {news : List (Addr × Obj)} {s : Shared}
    {Q E : Value → Shared → Prop} {va nn : Nat} {vs : List Value} {ks : List Int}
    (B : Below A₀ base outer h₀) (F : Fr h₀ L s.heap m) (X : (K w.params).In h₀) (T : Top q looseN mean mg mb h₀) (hk : cs.kind = .function) (N : News h₀ L s.heap (news)) (hv : (va, listOf vs.toArray nn) ∈ news) (hi : IntsAre vs ks) (hk4 : ∀ k ∈ ks, 0 ≤ k ∧ k < 4) (hkl : ks.length ≤ 1000)
    (hd : dp + 12 < recursionLimit) (hu : un + 96 < cLine)
    (ret : ∀ p t1 t2 t3 h' tk', Fr h₀ L h' m → News h₀ L h' ((p, tupO [.int ks.length t1, .int (packS (· % 2) ks) t2, .int (packS (· / 2) ks) t3]) :: news) → (∀ q ∈ news, q.1 < p) → Q (.ref p) { s with heap := h', toks := tk' }) :
    wpAny (model PySem.Challenge.rw_nn0316_01.prog w) (ktrTop dp un gd cn cs L a ccd cl outer) (call (.ref 61) [.ref va]) Q E s := by
  have hil := hi.length
  refine wpAny_call ?_
  ktr_call [("row", .ref va)] ()
  k_steps
  rename IsRange _ _ _ _ _ _ _ _ => rg
  rename Fr _ _ _ _ => F1
  rename News _ _ _ _ => N1
  refine go (rangeK (σ := Int × Tok × Int × Tok) (n := ks.length) (fun _ => news) (fun c => [(Str.ofString "b", .int c.2.2.1 c.2.2.2), (Str.ofString "a", .int c.1 c.2.1)]) [] (fun i c => c.1 = packS (· % 2) (ks.take i) ∧ c.2.2.1 = packS (· / 2) (ks.take i)) (0, _, 0, _) rfl rg ?_ ?_ F1 N1 (ag_cons rfl (ag_cons rfl ag_nil)) ?_ ?_ ?_)
  · exact small_one (by omega) (by omega) (by omega) (by omega)
  · exact rangeSize_nat _ _
  · exact ⟨rfl, rfl⟩
  · rintro i k t ⟨av, ta, bv, tb⟩ u h tk own hki hi' hJ ha F2 N2
    (repeat ((with_reducible show ∀ _, Nn.Cut _ _ → _); intro _ _))
    clear F1 N1
    dsimp (config := {zetaDelta := true}) only [envOf] at F2 N2 hJ
    have hlen : (i : Int) < ks.length := by omega
    have hk0 : k = (i : Int) := by omega
    have hkr : 0 ≤ k ∧ k < ks.length := by omega
    have hkn : k.toNat = i := by omega
    have hgi : ks[i]? = some (ks.getD k.toNat 0) := by rw [hkn, List.getD_eq_getElem?_getD, List.getElem?_eq_getElem hi']; rfl
    have hg : 0 ≤ ks.getD k.toNat 0 ∧ ks.getD k.toNat 0 < 4 := hk4 _ (List.mem_of_getElem? hgi)
    generalize hx : ks.getD k.toNat 0 = x at hg hgi
    have hA1 : (Builtin.bitAnd x 1).natAbs < 2 ^ 64 := by rw [and_one hg.1]; omega
    have hA2' : x.fdiv (2 ^ (1 : Int).toNat) = x / 2 := by rw [Int.fdiv_eq_ediv_of_nonneg _ (by decide)]; rfl
    have hA2 : (x.fdiv (2 ^ (1 : Int).toNat)).natAbs < 2 ^ 64 := by rw [hA2']; omega
    rw [← hx] at hA1 hA2
    k_steps
    rename Fr _ _ _ _ => F3
    rename News _ _ _ _ => N3
    have hlk : (ks.take i).length = k.toNat := by rw [List.length_take, hkn]; omega
    have hsm : ∀ z ∈ ks.take i, 0 ≤ z ∧ z < 4 := fun z hz => hk4 z (List.mem_of_mem_take hz)
    have b1 := packS_b (f := (· % 2)) (l := ks.take i) fun z hz => by omega
    have b2 := packS_b (f := (· / 2)) (l := ks.take i) fun z hz => by have := hsm z hz; omega
    rw [hlk, ← hJ.1] at b1
    rw [hlk, ← hJ.2] at b2
    have ht : ks.take (i + 1) = ks.take i ++ [x] := by rw [List.take_add_one, hgi]; rfl
    rw [hx, hA2', and_one hg.1, bitOr_add b1.1 b1.2 (by omega), bitOr_add b2.1 b2.2 (by omega)] at F3
    refine GEnd.intro (_, _, _, _) F3 N3 (by ksw_less) (by ksw_less) ha ⟨ag_cons rfl (ag_cons rfl ag_nil), by ksw_same⟩ ?_
    (try dsimp only)
    rw [ht, packS_snoc, packS_snoc, hlk, ← hJ.1, ← hJ.2]
    exact ⟨rfl, rfl⟩
  · rintro ⟨av, ta, bv, tb⟩ u h tk hJ F2 N2
    (repeat ((with_reducible show ∀ _, Nn.Cut _ _ → _); intro _ _))
    clear F1 N1
    dsimp (config := {zetaDelta := true}) only [envOf] at F2 N2 hJ
    k_steps
    rename News h₀ _ _ _ => N3
    rename (∀ (p : Addr × Obj), p ∈ news → p.fst < _) => lp
    rw [List.take_of_length_le (Nat.le_refl _)] at hJ
    rw [hJ.1, hJ.2, hil] at N3
    exact ret _ _ _ _ _ _ (by k_asm) N3 lp
end Nn
end
-- P7
theorem Nn.wP7 : True := by
  (k_with "subscriptTail!" => ((with_reducible show wpAny _ _ (subscriptTail _ _ (Value.ref _) (Value.int (Txt.find _ _) _)) _ _ _); refine Nn.halt ?_))
  (k_with "callWith!" => ((with_reducible show wpAny _ _ (callWith _ (Value.builtin _) (_ :: _) _ _) _ _ _); refine callWith_method1 ?_))
  (k_with "call ref!" => (k_here; (with_reducible show wpAny _ _ (call (Value.ref 61) _) _ _ _); skip; k_dflt (refine' Nn.from_codes_s ?q97284_B ?q97284_F ?q97284_X ?q97284_T ?q97284_hk ?q97284_N ?q97284_hv ?q97284_hi ?q97284_hk4 ?q97284_hkl ?q97284_hd ?q97284_hu ?_; (case q97284_B => k_asm); (case q97284_F => k_asm); (case q97284_X => k_asm); (case q97284_T => k_asm); (case q97284_hk => first | exact rfl | assumption); (case q97284_N => k_asm); (case q97284_hv => k_mem); (case q97284_hi => assumption); (case q97284_hk4 => assumption); (case q97284_hkl => assumption); (case q97284_hd => ktr_room); (case q97284_hu => ktr_units); k_whole); intro zzp' zzt1' zzt2' zzt3' zzh' zztk' zzF' zzN' zzlp; (try dsimp only)))
  trivial
section
local macro_rules | `(tactic| omega) => `(tactic| k_extra "oP7")
theorem Nn.oP7 : True := by
  (k_with "oP7" => with_reducible (k_whole; first | k_extra "omega!" | ((show (_ : Nat) < _); first | exact Nn.q260 (by assumption) (by assumption) (by assumption) (by assumption) | exact Nn.q262 (by assumption) (by assumption) (by assumption) (by assumption) (by assumption) | fail) | ((show (_ : Nat) ≤ _); first | exact Nn.q250 (by assumption) (by assumption) (by assumption) (by assumption) | exact Nn.q253 (by assumption) (by assumption) (by assumption) (by assumption) (by assumption) | fail) | ((show (_ : Nat) = _); first | exact Nn.q261 (by assumption) (by assumption) (by assumption) (by assumption) (by assumption) | fail) | ((show (_ : Int) < _); first | exact Nn.q251 (by assumption) (by assumption) | exact Nn.q254 (by assumption) (by assumption) (by assumption) (by assumption) | exact Nn.q255 (by assumption) (by assumption) (by assumption) (by assumption) (by assumption) | exact Nn.q258 (by assumption) (by assumption) (by assumption) (by assumption) (by assumption) | exact Nn.q259 (by assumption) (by assumption) (by assumption) (by assumption) | fail) | ((show (_ : Int) ≤ _); first | exact Nn.q252 (by assumption) (by assumption) (by assumption) (by assumption) (by assumption) | exact Nn.q256 (by assumption) (by assumption) | exact Nn.q257 (by assumption) (by assumption) (by assumption) (by assumption) (by assumption) | fail) | ((show (_ : Int) = _); first | exact Nn.q249 (by assumption) (by assumption) | fail) | ((show _ ∧ _); first | exact Nn.q247 (by assumption) (by assumption) (by assumption) (by assumption) | fail) | ((show False); first | exact Nn.q248 (by assumption) (by assumption) (by assumption) (by assumption) (by assumption) (by assumption) (by assumption) | exact Nn.q194 (by assumption) (by assumption) (by assumption) | fail) | fail))
  trivial
namespace Nn
theorem ints_snoc {k : Int} {t : Tok} : ∀ {vs : List Value} {ks : List Int}, IntsAre vs ks → IntsAre (vs ++ [.int k t]) (ks ++ [k])
  | _, _, .nil => .cons k t .nil
  | _, _, .cons z u h => .cons z u (ints_snoc h)
noncomputable def goodD (l : List Nat) : Prop := ∀ d ∈ l, d = 48 ∨ d = 49 ∨ d = 122 ∨ d = 120
noncomputable def dcode (d : Nat) : Int := if d = 48 then 0 else if d = 49 then 1 else if d = 122 then 2 else 3
noncomputable def lowT (l : List Nat) : Int := packS (· % 2) (l.reverse.map dcode)
noncomputable def highT (l : List Nat) : Int := packS (· / 2) (l.reverse.map dcode)
theorem from_text_s {w : World} {mean : ExcName → Option Value} {mg mb : Str → Option Value} {dp un : Nat} {gd : Option (List Code)} {cn : Str} {cs : Scope} {a : Addr} {ccd : Value} {cl : List (Str × Addr)} {outer : List Env} {A₀ : Around} {base h₀ : Heap} {L : Addr} {m : Str → Option Value} {news : List (Addr × Obj)} {s : Shared}
    {Q E : Value → Shared → Prop} {l : List Nat} {t : Tok}
    (B : Below A₀ base outer h₀) (F : Fr h₀ L s.heap m) (X : (K w.params).In h₀) (T : Top q looseN mean mg mb h₀) (hk : cs.kind = .function) (N : News h₀ L s.heap (news)) (hl : l.length ≤ 1000) (hg : goodD l)
    (hd : dp + 20 < recursionLimit) (hu : un + 160 < cLine)
    (ret : ∀ p t1 t2 t3 h' tk', Fr h₀ L h' m → News h₀ L h' ((p, tupO [.int l.length t1, .int (lowT l) t2, .int (highT l) t3]) :: news) → (∀ q ∈ news, q.1 < p) → Q (.ref p) { s with heap := h', toks := tk' }) :
    wpAny (model PySem.Challenge.rw_nn0316_01.prog w) (ktrTop dp un gd cn cs L a ccd cl outer) (call (.ref 75) [.str (mk l) t]) Q E s := by
  have hml : (mk l).length = l.length := mk_len l
  refine wpAny_call ?_
  ktr_call [("text", .str (mk l) t)] ()
  k_steps
  rename IsRange _ _ _ _ _ _ _ _ => rg
  rename Fr _ _ _ _ => F1
  rename News _ _ _ _ => N1
  obtain ⟨row, er⟩ := nm1 N1
  subst er
  rename (∀ (p : Addr × Obj), p ∈ news → p.fst < row) => lr
  refine go (rangeK (σ := List Value × Nat × Option (Value)) (n := l.length) (fun c => (row, listOf c.1.toArray c.2.1) :: news) (fun c => []) [Str.ofString "found"] (fun i c => IntsAre c.1 ((l.reverse.take i).map dcode)) ([], 0, none) rfl rg ?_ ?_ F1 N1 ag_nil ?_ ?_ ?_)
  · rw [hml]; exact small_down (by omega) (by omega) (by omega) (by omega)
  · rw [rangeSize_downNat]; omega
  · exact .nil
  · intro i k t c u h tk own hki hi' hJ ha F2 N2
    (repeat ((with_reducible show ∀ _, Nn.Cut _ _ → _); intro _ _))
    have hall := ne_app lr ha.head
    have hz : c.1.length ≤ 1000 := by rw [hJ.length, List.length_map, List.length_take]; omega
    clear F1 N1
    dsimp (config := {zetaDelta := true}) only [envOf] at F2 N2
    try simp only [List.cons_append] at N2
    have hkr : 0 ≤ k ∧ k < l.length := by omega
    have hit := item_mk hkr.1 hkr.2
    generalize hd : l[k.toNat]'(by omega) = d at hit
    have hdl : d ∈ l := hd ▸ List.getElem_mem _
    have hf : Txt.find (Str.ofString "01zxZX?") (Txt.item (mk l) k) = dcode d := by
      rw [hit]; rcases hg d hdl with rfl | rfl | rfl | rfl <;> decide +kernel
    have hsel : ∀ t0 t1 t2 t3 t4 t5 t6 : Tok, ∃ j x, seqIndex? (dcode d) 7 = some j ∧ [Value.int 0 t0, .int 1 t1, .int 2 t2, .int 3 t3, .int 2 t4, .int 3 t5, .int 2 t6][j]? = some x ∧ ∃ t, x = .int (dcode d) t := by
      intro t0 t1 t2 t3 t4 t5 t6
      rcases hg d hdl with rfl | rfl | rfl | rfl
      · exact ⟨0, _, rfl, rfl, t0, rfl⟩
      · exact ⟨1, _, rfl, rfl, t1, rfl⟩
      · exact ⟨2, _, rfl, rfl, t2, rfl⟩
      · exact ⟨3, _, rfl, rfl, t3, rfl⟩
    have hf0 : 0 ≤ dcode d ∧ dcode d < 4 := by unfold dcode; split <;> (try split) <;> (try split) <;> decide
    k_steps
    · rename Fr _ _ _ _ => F3
      rename News _ _ _ _ => N3
      rename (row < _ ∧ _) => l1
      rw [hf]
      obtain ⟨jx, vx, hs1, hs2, tx, rfl⟩ : ∃ j x, seqIndex? (dcode d) 7 = some j ∧ (_ : List Value)[j]? = some x ∧ ∃ t, x = .int (dcode d) t := hsel _ _ _ _ _ _ _
      refine go (item_tupleT (tup_at N3 (.head _)) (by omega) (by omega) hs1 hs2 ?_)
      k_steps
      rename Fr _ _ _ _ => F4
      rename News _ _ _ _ => N4
      rw [List.push_toArray] at N4
      refine GEnd.intro (c.1 ++ [_], c.2.1 + 1, none) F4 N4 (by ksw_less) (by ksw_less) ha ⟨ag_nil, by ksw_same⟩ ?_
      have hrev : l.reverse[i]? = some d := by
        rw [List.getElem?_reverse hi', List.getElem?_eq_getElem (by omega), ← hd]
        congr 2
        omega
      have ht : (l.reverse.take (i + 1)).map dcode = (l.reverse.take i).map dcode ++ [dcode d] := by rw [List.take_add_one, hrev, List.map_append]; rfl
      show IntsAre (c.1 ++ [_]) _
      rw [ht]
      exact ints_snoc hJ
  · intro c u h tk hJ F2 N2
    (repeat ((with_reducible show ∀ _, Nn.Cut _ _ → _); intro _ _))
    clear F1 N1
    dsimp (config := {zetaDelta := true}) only [envOf] at F2 N2
    rw [List.take_of_length_le (by simp)] at hJ
    have hk4 : ∀ k ∈ l.reverse.map dcode, 0 ≤ k ∧ k < 4 := by
      intro k hk
      obtain ⟨d, _, rfl⟩ := List.mem_map.mp hk
      unfold dcode; split <;> (try split) <;> (try split) <;> decide
    have hkl : (l.reverse.map dcode).length ≤ 1000 := by simp; omega
    k_steps
    rename News h₀ _ _ _ => N3
    rename (∀ q : Addr × Obj, q ∈ _ → q.1 < _) => lp
    rw [List.length_map, List.length_reverse] at N3
    exact ret _ _ _ _ _ _ (by k_asm) (news_sub N3 (by ksw_less)) (fun q hq => lp q (.tail _ hq))
end Nn
end
-- NnPick
section
open PySem PySem.W PySem.Spec PySem.Calls PyProof.Rows
set_option maxRecDepth 100000
section
local macro_rules | `(tactic| omega) => `(tactic| k_extra "oNnPick")
theorem Nn.oNnPick : True := by
  (k_with "oNnPick" => with_reducible (k_whole; first | k_extra "omega!" | ((show (_ : Nat) < _); first | exact Nn.q23 (by assumption) (by assumption) (by assumption) (by assumption) | fail) | ((show (_ : Nat) ≤ _); first | exact Nn.q18 (by assumption) (by assumption) | fail) | ((show (_ : Nat) = _); first | exact Nn.q17 | fail) | ((show (_ : Int) < _); first | exact Nn.q19 (by assumption) (by assumption) (by assumption) | exact Nn.q21 (by assumption) (by assumption) | exact Nn.q22 (by assumption) | fail) | ((show (_ : Int) ≤ _); first | exact Nn.q20 (by assumption) (by assumption) (by assumption) | fail) | fail))
  trivial
namespace Nn
/-! ## Picking an object out of a ledger -/
inductive Pick (a : Addr × Obj) : List (Addr × Obj) → List (Addr × Obj) → Prop
  | here {l} : Pick a (a :: l) l
  | there {b l r} (h : Pick a l r) : Pick a (b :: l) (b :: r)
  | left {l r k} (h : Pick a l r) : Pick a (l ++ k) (r ++ k)
theorem Pick.sub {a l r} (h : Pick a l r) : ∀ p ∈ a :: r, p ∈ l := by
  induction h with
  | here => exact fun p hp => hp
  | there h ih =>
    intro p hp
    rcases List.mem_cons.mp hp with rfl | hp
    · exact .tail _ (ih _ (.head _))
    · rcases List.mem_cons.mp hp with rfl | hp
      · exact .head _
      · exact .tail _ (ih _ (.tail _ hp))
  | left h ih =>
    intro p hp
    rcases List.mem_cons.mp hp with rfl | hp
    · exact List.mem_append.mpr (.inl (ih _ (.head _)))
    · rcases List.mem_append.mp hp with hp | hp
      · exact List.mem_append.mpr (.inl (ih _ (.tail _ hp)))
      · exact List.mem_append.mpr (.inr hp)
theorem Pick.news {a l r} {h₀ h : Heap} {L : Addr} (k : Pick a l r) (N : News h₀ L h l) : News h₀ L h (a :: r) := news_sub N k.sub
theorem Pick.deep {a l r} {h₀ h : Heap} {L : Addr} (k : Pick a l r) {c : Addr × Obj} (N : News h₀ L h (c :: l)) : News h₀ L h (c :: a :: r) :=
  news_sub N (sub_cons (.head _) (sub_tail k.sub))
theorem off_nil {d : Addr} : ∀ p ∈ ([] : List (Addr × Obj)), p.1 ≠ d := fun _ h => nomatch h
theorem off_cons {d a : Nat} {o : Obj} {l : List (Addr × Obj)} (h : a ≠ d) (t : ∀ p ∈ l, p.1 ≠ d) : ∀ p ∈ (a, o) :: l, p.1 ≠ d := fun p hp => by
  rcases List.mem_cons.mp hp with rfl | hp
  · exact h
  · exact t p hp
theorem off_app {d : Addr} {l k : List (Addr × Obj)} (h : ∀ p ∈ l, p.1 ≠ d) (t : ∀ p ∈ k, p.1 ≠ d) : ∀ p ∈ l ++ k, p.1 ≠ d := fun p hp => (List.mem_append.mp hp).elim (h p) (t p)
theorem off_lt {d e : Nat} {l : List (Addr × Obj)} (h : ∀ p ∈ l, p.1 < d) (he : d ≤ e) : ∀ p ∈ l, p.1 ≠ e := fun p hp => Nat.ne_of_lt (Nat.lt_of_lt_of_le (h p hp) he)
theorem lt_cons {d a : Nat} {o : Obj} {l : List (Addr × Obj)} (h : a < d) (t : ∀ p ∈ l, p.1 < d) : ∀ p ∈ (a, o) :: l, p.1 < d := fun p hp => by
  rcases List.mem_cons.mp hp with rfl | hp
  · exact h
  · exact t p hp
section
variable {prog : Program} {w : World} {A : Around} {E : Value → Shared → Prop} {s : Shared} {Q : Value → Shared → Prop} {l : List Nat} {t u : Tok} {k : Int}
theorem item_l {value slice : Expr} (h0 : 0 ≤ k) (h1 : k < l.length) (h2 : l.length ≤ 1000000000) (h : ∀ t' j, Q (.str (one (l.getD k.toNat 0)) t') { s with toks := j })
    (hs : subscripted slice false (.str (mk l) t) (.int k u) = operate [.str (mk l) t, .int k u] (getItem (.str (mk l) t) (.int k u)) := by with_unfolding_all rfl)
    (ht : ∀ r, letTemporaryGo value (.str (mk l) t) r = pure () := by intro _; with_unfolding_all rfl) :
    wpAny (model prog w) A (subscriptTail value slice (.str (mk l) t) (.int k u)) Q E s := by
  have hml := mk_len l
  refine item_str (fitsSsize_of (N := 9223372036854775808) (by omega) (by omega) (Int.le_refl _)) (by omega) (by omega) (fun _ => ?_) hs ht
  rw [item_mk h0 h1]
  have e : l[k.toNat]'(by omega) = l.getD k.toNat 0 := by rw [List.getD_eq_getElem?_getD, List.getElem?_eq_getElem (by omega)]; rfl
  rw [e]
  exact h _ _
end
theorem allLt_of' {d : Nat} : ∀ {l : List (Addr × Obj)}, AllLt d l → ∀ p ∈ l, p.1 < d
  | [], _ => fun _ h => nomatch h
  | a :: r, h => fun p hp => by
    rcases List.mem_cons.mp hp with rfl | hp
    · exact h.1
    · exact allLt_of' h.2 p hp
/-! ## A while whose ends are told in one word -/
section
variable {σ : Type} {prog : Program} {w : World} {A : Around} {E : Value → Shared → Prop} {s : Shared} {env : Env} {h₀ : Heap} {x : Str} {body : List Stmt} {Q : Flow → Shared → Prop}
noncomputable def WExit (h₀ : Heap) (L : Addr) (Led : σ → List (Addr × Obj)) (ps : σ → List (Str × Value)) (stored : List Str) (m₀ : Str → Option Value) (X : σ → Prop) (s₁ s₂ : Shared) : Prop :=
  ∃ (c : σ) (h' : Heap) (tk : Nat) (m' : Str → Option Value) (news' : List (Addr × Obj)), s₂ = { s₁ with heap := h', toks := tk } ∧ Fr h₀ L h' m' ∧ News h₀ L h' news' ∧ (∀ p ∈ Led c, p ∈ news') ∧ Agree stored m₀ m' [] (ps c) ∧ X c
theorem WExit.intro {L : Addr} {Led : σ → List (Addr × Obj)} {ps : σ → List (Str × Value)} {stored : List Str} {m₀ : Str → Option Value} {X : σ → Prop} {s₁ : Shared}
    (c : σ) {h' : Heap} {tk : Nat} {m' : Str → Option Value} {news' : List (Addr × Obj)} (F : Fr h₀ L h' m') (N : News h₀ L h' news') (h1 : ∀ p ∈ Led c, p ∈ news') (h4 : Agree stored m₀ m' [] (ps c)) (h5 : X c) :
    WExit h₀ L Led ps stored m₀ X s₁ { s₁ with heap := h', toks := tk } := ⟨c, h', tk, m', news', rfl, F, N, h1, h4, h5⟩
theorem whileX {test : Expr} {pos : Pos} {L : Addr} {m₀ : Str → Option Value} (Led : σ → List (Addr × Obj)) (ps : σ → List (Str × Value)) (stored : List Str) (J : σ → Prop) (X : σ → Prop) (μ : σ → Nat) (c₀ : σ)
    (F : Fr h₀ L s.heap m₀) (N : News h₀ L s.heap (Led c₀)) (hk : Has m₀ (ps c₀)) (hj : J c₀)
    (turn : ∀ c (u : Str → Option Value) h tk, J c → Fr h₀ L h (LM stored u m₀ (ps c)) → News h₀ L h (Led c) →
      ∀ Qb, Cut (WPost h₀ L Led ps stored m₀ J μ c s Q) Qb → ∀ Qx : Unit → Shared → Prop, Cut (fun _ s₂ => WExit h₀ L Led ps stored m₀ X s s₂) Qx → wpAny (model prog w) A (isTrue test env (eval test env)) (fun b s₂ =>
        if b = true then wpAny (model prog w) A (execs body env) Qb E s₂ else Qx () s₂) E { s with heap := h, toks := tk })
    (done : ∀ c (u : Str → Option Value) h tk, X c → Fr h₀ L h (LM stored u m₀ (ps c)) → News h₀ L h (Led c) → Q .next { s with heap := h, toks := tk })
    (hE : PassesOwn (model prog w) A env E := by passes_own) :
    wpAny (model prog w) A (exec (.While test body [] pos) env) Q E s := by
  refine whileV Led ps stored J μ c₀ F N hk hj (fun c u h tk hJ F₁ N₁ Qb hQb => wpAny_mono (turn c u h tk hJ F₁ N₁ Qb hQb _ Cut.refl) (fun b s₂ p => ?_) fun _ _ x => x) hE
  cases b with
  | true => simpa using p
  | false =>
    simp only [Bool.false_eq_true, if_false] at p ⊢
    obtain ⟨c', h', tk', m', news', rfl, F', N', hs, ha, hX⟩ := p
    exact done c' m' h' tk' hX (by rw [lm_eqT ha (fun _ h => nomatch h)]; exact F') (news_sub N' hs)
end
/-! ## Where a word starts, where it ends -/
noncomputable def skipL (p : Nat → Bool) (l : List Nat) (i : Nat) : Nat := i + ((l.drop i).takeWhile p).length
theorem skip_step {p : Nat → Bool} {l : List Nat} {i : Nat} (h : i < l.length) (hp : p l[i] = true) : skipL p l (i + 1) = skipL p l i := by
  unfold skipL
  rw [List.drop_eq_getElem_cons h, List.takeWhile_cons, if_pos hp, List.length_cons]; omega
theorem skip_stop {p : Nat → Bool} {l : List Nat} {i : Nat} (h : i < l.length) (hp : p l[i] = false) : skipL p l i = i := by
  unfold skipL
  rw [List.drop_eq_getElem_cons h, List.takeWhile_cons, hp]; rfl
theorem skip_end {p : Nat → Bool} {l : List Nat} {i : Nat} (h : l.length ≤ i) : skipL p l i = i := by
  unfold skipL
  rw [List.drop_of_length_le h]; rfl
theorem skip_le {p : Nat → Bool} {l : List Nat} {i : Nat} (h : i ≤ l.length) : skipL p l i ≤ l.length := by
  unfold skipL
  have := (List.takeWhile_sublist p (l := l.drop i)).length_le
  rw [List.length_drop] at this; omega
theorem skip_ge {p : Nat → Bool} {l : List Nat} {i : Nat} : i ≤ skipL p l i := Nat.le_add_right _ _
/-! where the next word starts; where it ends; the word (each a choice, so that no unifier looks into it) -/
theorem wAt_ex : ∃ f : List Nat → Nat → Nat, f = fun l i => skipL isLay l i := ⟨_, rfl⟩
noncomputable def wAt : List Nat → Nat → Nat := Classical.choose wAt_ex
theorem wAt_eq (l : List Nat) (i : Nat) : wAt l i = skipL isLay l i := congrFun (congrFun (Classical.choose_spec wAt_ex) l) i
theorem wEnd_ex : ∃ f : List Nat → Nat → Nat, f = fun l i => skipL (fun n => !isLay n) l (wAt l i) := ⟨_, rfl⟩
noncomputable def wEnd : List Nat → Nat → Nat := Classical.choose wEnd_ex
theorem wEnd_eq (l : List Nat) (i : Nat) : wEnd l i = skipL (fun n => !isLay n) l (wAt l i) := congrFun (congrFun (Classical.choose_spec wEnd_ex) l) i
theorem wTok_ex : ∃ f : List Nat → Nat → List Nat, f = fun l i => (l.drop (wAt l i)).take (wEnd l i - wAt l i) := ⟨_, rfl⟩
noncomputable def wTok : List Nat → Nat → List Nat := Classical.choose wTok_ex
theorem wTok_eq (l : List Nat) (i : Nat) : wTok l i = (l.drop (wAt l i)).take (wEnd l i - wAt l i) := congrFun (congrFun (Classical.choose_spec wTok_ex) l) i
end Nn
end
end
-- P9
local macro_rules | `(tactic| lcg_sub) => `(tactic| k_extra "lcg_sub!")
local macro_rules | `(tactic| krn_off) => `(tactic| k_extra "krn_off!")
local macro_rules | `(tactic| k_ne) => `(tactic| k_extra "k_ne!")
theorem Nn.wP9 : True := by
  (k_with "k_all!" => krn_off)
  (k_with "subscriptTail!" => ((with_reducible show wpAny _ _ (subscriptTail _ _ (Value.str (Nn.mk _) _) (Value.int _ _)) _ _ _); refine Nn.item_l (by first | assumption | omega) (by first | assumption | omega) (by omega) ?_; intro _ _))
  (k_with "lcg_sub!" => first | exact Nn.Pick.here | (apply Nn.Pick.there; lcg_sub) | (apply Nn.Pick.left; lcg_sub))
  (k_with "krn_off!" => first | assumption | exact Nn.off_nil | exact Nn.ne_of_ltAll (by assumption) | (refine Nn.off_cons (by omega) ?_; krn_off) | (refine Nn.off_app ?_ ?_ <;> krn_off) | exact Nn.off_lt (by assumption) (by omega))
  (k_with "k_ne!" => first | assumption | exact Ne.symm (by assumption) | exact Nat.ne_of_lt (by assumption) | exact Nat.ne_of_gt (by assumption) | exact Nat.ne_of_lt (Nat.lt_trans (by assumption) (by assumption)) | exact Nat.ne_of_gt (Nat.lt_trans (by assumption) (by assumption)) | exact (show (_ : Nat) ≠ _ by omega))
  trivial
section
local macro_rules | `(tactic| omega) => `(tactic| k_extra "oP9")
theorem Nn.oP9 : True := by
  (k_with "oP9" => with_reducible (k_whole; first | k_extra "omega!" | ((show (_ : Nat) < _); first | exact Nn.q265 (by assumption) (by assumption) | exact Nn.q269 (by assumption) (by assumption) | fail) | ((show (_ : Nat) ≤ _); first | exact Nn.q263 (by assumption) (by assumption) (by assumption) | exact Nn.q266 (by assumption) (by assumption) | exact Nn.q267 (by assumption) (by assumption) | fail) | ((show (_ : Nat) = _); first | exact Nn.q272 (by assumption) | fail) | ((show (_ : Int) < _); first | exact Nn.q270 (by assumption) (by assumption) | fail) | ((show (_ : Int) ≤ _); first | exact Nn.q264 (by assumption) (by assumption) | exact Nn.q268 (by assumption) | fail) | ((show False); first | exact Nn.q271 (by assumption) (by assumption) (by assumption) | fail) | fail))
  trivial
namespace Nn
theorem wordrow_new {w : World} {mean : ExcName → Option Value} {mg mb : Str → Option Value} {dp un : Nat} {gd : Option (List Code)} {cn : Str} {cs : Scope} {a : Addr} {ccd : Value} {cl : List (Str × Addr)} {outer : List Env} {A₀ : Around} {base h₀ : Heap} {L : Addr} {m : Str → Option Value} {news : List (Addr × Obj)} {s : Shared}
    {Q E : Value → Shared → Prop} {l : List Nat} {t : Tok}
    (B : Below A₀ base outer h₀) (F : Fr h₀ L s.heap m) (X : (K w.params).In h₀) (T : Top q looseN mean mg mb h₀) (hk : cs.kind = .function) (N : News h₀ L s.heap (news)) 
    (hd : dp + 20 < recursionLimit) (hu : un + 160 < cLine)
    (ret : ∀ x dx t1 t2 t3 t4 t5 t6 h' tk', Fr h₀ L h' m → News h₀ L h' ((x, instObj 211 dx) :: (dx, dictOf [kE w "text" t1 (.str (mk l) t2), kE w "place" t3 (.int 0 t4), kE w "at" t5 (.int 0 t6)] 3) :: news) → (∀ p ∈ news, p.1 < dx) → dx < x → Q (.ref x) { s with heap := h', toks := tk' }) :
    wpAny (model PySem.Challenge.rw_nn0316_01.prog w) (ktrTop dp un gd cn cs L a ccd cl outer) (call (.ref 211) [.str (mk l) t]) Q E s := by
  refine call_cls F X N (by k_is) (by k_is) (by k_is) fun x dx h' F' N' l1 l2 => ?_
  clear F N
  have n1 := ne_of_ltAll l1
  ktr_call [("self", .ref x), ("text", .str (mk l) t)] ()
  k_steps
  exact ret _ _ _ _ _ _ _ _ _ _ (by k_asm) (by k_asm) (by assumption) (by assumption)
theorem take_s {w : World} {mean : ExcName → Option Value} {mg mb : Str → Option Value} {dp un : Nat} {gd : Option (List Code)} {cn : Str} {cs : Scope} {a : Addr} {ccd : Value} {cl : List (Str × Addr)} {outer : List Env} {A₀ : Around} {base h₀ : Heap} {L : Addr} {m : Str → Option Value} {news : List (Addr × Obj)} {s : Shared}
    {Q E : Value → Shared → Prop} {l : List Nat} {x dx pl : Nat} {at0 : Int} {t1 t2 t3 t4 t5 t6 : Tok} {led r1 : List (Addr × Obj)}
    (B : Below A₀ base outer h₀) (F : Fr h₀ L s.heap m) (X : (K w.params).In h₀) (T : Top q looseN mean mg mb h₀) (hk : cs.kind = .function) (N : News h₀ L s.heap (led)) (p1 : Pick (x, instObj 211 dx) led r1) (p2 : Pick (dx, dictOf [kE w "text" t1 (.str (mk l) t2), kE w "place" t3 (.int pl t4), kE w "at" t5 (.int at0 t6)] 3) r1 news) (hl : l.length ≤ 100000) (hp : pl ≤ l.length) (hx : x ≠ dx) (hn : ∀ p ∈ news, p.1 ≠ dx)
    (hd : dp + 20 < recursionLimit) (hu : un + 160 < cLine)
    (ret : ∀ t' u4 u6 h' tk', Fr h₀ L h' m → News h₀ L h' ((x, instObj 211 dx) :: (dx, dictOf [kE w "text" t1 (.str (mk l) t2), kE w "place" t3 (.int (wEnd l pl) u4), kE w "at" t5 (.int (wAt l pl) u6)] 3) :: news) → Q (.str (mk (wTok l pl)) t') { s with heap := h', toks := tk' }) :
    wpAny (model PySem.Challenge.rw_nn0316_01.prog w) (ktrTop dp un gd cn cs L a ccd cl outer) (call (.ref 201) [.ref x]) Q E s := by
  replace N := p2.deep (p1.news N)
  clear p1 p2
  have hml : (mk l).length = l.length := mk_len l
  refine wpAny_call ?_
  ktr_call [("self", .ref x)] ()
  k_steps
  rename Fr _ _ _ _ => F1
  rename News _ _ _ _ => N1
  refine go (whileX (σ := Nat × Tok) (fun c => (x, instObj 211 dx) :: (dx, dictOf [kE w "text" t1 (.str (mk l) t2), kE w "place" t3 (.int c.1 c.2), kE w "at" t5 (.int at0 t6)] 3) :: news) (fun c => []) [] (fun c => c.1 ≤ l.length ∧ skipL isLay l c.1 = wAt l pl) (fun c => c.1 = wAt l pl) (fun c => l.length - c.1) (pl, t4) F1 N1 ag_nil ⟨hp, (wAt_eq l pl).symm⟩ ?_ ?_)
  · rintro ⟨i, ti⟩ u h tk hJ F2 N2
    (repeat ((with_reducible show ∀ _, Nn.Cut _ _ → _); intro _ _))
    clear F1 N1
    dsimp only at hJ F2 N2
    have hg : ∀ h : i < l.length, l.getD (i : Int).toNat 0 = l[i] := fun h => by
      rw [Int.toNat_natCast, List.getD_eq_getElem?_getD, List.getElem?_eq_getElem h]; rfl
    k_steps
    · rename isLay _ = true => he
      rename (i : Int) < _ => hlt
      rename Fr _ _ _ _ => F3
      rename News _ _ _ _ => N3
      have h1 : i < l.length := by omega
      rw [hg h1] at he
      refine WEnd.intro (i + 1, _) F3 N3 (by ksw_less) ⟨ag_nil, by ksw_same⟩ ⟨h1, (skip_step h1 he).trans hJ.2⟩ ?_
      show l.length - (i + 1) < l.length - i
      omega
    · rename isLay _ = false => he
      rename (i : Int) < _ => hlt
      rename Fr _ _ _ _ => F3
      rename News _ _ _ _ => N3
      have h1 : i < l.length := by omega
      rw [hg h1] at he
      exact WExit.intro (i, _) F3 N3 (by ksw_less) ⟨ag_nil, by ksw_same⟩ ((skip_stop h1 he).symm.trans hJ.2)
    · rename ¬ (i : Int) < _ => hlt
      rename Fr _ _ _ _ => F3
      rename News _ _ _ _ => N3
      exact WExit.intro (i, _) F3 N3 (by ksw_less) ⟨ag_nil, by ksw_same⟩ ((skip_end (p := isLay) (l := l) (i := i) (by omega)).symm.trans hJ.2)
  intro c u h tk hX F2 N2
  clear F1 N1
  obtain ⟨i, ti⟩ := c
  dsimp only at hX F2 N2
  subst hX
  have hwl : wAt l pl ≤ l.length := by rw [wAt_eq]; exact skip_le hp
  k_steps
  rename Fr _ _ _ _ => F1
  rename News _ _ _ _ => N1
  refine go (whileX (σ := Nat × Tok) (fun c => (x, instObj 211 dx) :: (dx, dictOf [kE w "text" t1 (.str (mk l) t2), kE w "place" t3 (.int c.1 c.2), kE w "at" t5 (.int (wAt l pl) ti)] 3) :: news) (fun c => []) [] (fun c => c.1 ≤ l.length ∧ skipL (fun n => !isLay n) l c.1 = wEnd l pl) (fun c => c.1 = wEnd l pl) (fun c => l.length - c.1) (wAt l pl, ti) F1 N1 ag_nil ⟨hwl, (wEnd_eq l pl).symm⟩ ?_ ?_)
  · rintro ⟨i, tj⟩ u h tk hJ F2 N2
    (repeat ((with_reducible show ∀ _, Nn.Cut _ _ → _); intro _ _))
    clear F1 N1
    dsimp only at hJ F2 N2
    have hg : ∀ h : i < l.length, l.getD (i : Int).toNat 0 = l[i] := fun h => by
      rw [Int.toNat_natCast, List.getD_eq_getElem?_getD, List.getElem?_eq_getElem h]; rfl
    k_steps
    · rename isLay _ = true => he
      rename (i : Int) < _ => hlt
      rename Fr _ _ _ _ => F3
      rename News _ _ _ _ => N3
      have h1 : i < l.length := by omega
      rw [hg h1] at he
      exact WExit.intro (i, _) F3 N3 (by ksw_less) ⟨ag_nil, by ksw_same⟩ ((skip_stop (p := fun n => !isLay n) h1 (by simp [he])).symm.trans hJ.2)
    · rename isLay _ = false => he
      rename (i : Int) < _ => hlt
      rename Fr _ _ _ _ => F3
      rename News _ _ _ _ => N3
      have h1 : i < l.length := by omega
      rw [hg h1] at he
      refine WEnd.intro (i + 1, _) F3 N3 (by ksw_less) ⟨ag_nil, by ksw_same⟩ ⟨h1, (skip_step (p := fun n => !isLay n) h1 (by simp [he])).trans hJ.2⟩ ?_
      show l.length - (i + 1) < l.length - i
      omega
    · rename ¬ (i : Int) < _ => hlt
      rename Fr _ _ _ _ => F3
      rename News _ _ _ _ => N3
      exact WExit.intro (i, _) F3 N3 (by ksw_less) ⟨ag_nil, by ksw_same⟩ ((skip_end (p := fun n => !isLay n) (l := l) (i := i) (by omega)).symm.trans hJ.2)
  intro c u h tk hX F2 N2
  clear F1 N1
  obtain ⟨i, tj⟩ := c
  dsimp only at hX F2 N2
  subst hX
  have hge : wAt l pl ≤ wEnd l pl := by rw [wEnd_eq]; exact skip_ge
  have hle : wEnd l pl ≤ l.length := by rw [wEnd_eq]; exact skip_le hwl
  k_steps
  rw [slice_ft (by omega) (by omega) (by omega), show ((l.drop (wAt l pl : Int).toNat).take ((wEnd l pl : Int) - (wAt l pl : Int)).toNat) = wTok l pl by
    rw [wTok_eq, Int.toNat_natCast]; congr 1; omega]
  exact ret _ _ _ _ _ (by k_asm) (news_sub (by k_asm) (by ksw_less))
end Nn
end
-- P10
theorem Nn.wP10 : True := by
  (k_with "call ref!" => (k_here; (with_reducible show wpAny _ _ (call (Value.ref 201) _) _ _ _); skip; k_dflt (refine' Nn.take_s ?q02480_B ?q02480_F ?q02480_X ?q02480_T ?q02480_hk ?q02480_N ?q02480_p1 ?q02480_p2 ?q02480_hl ?q02480_hp ?q02480_hx ?q02480_hn ?q02480_hd ?q02480_hu ?_; (case q02480_B => k_asm); (case q02480_F => k_asm); (case q02480_X => k_asm); (case q02480_T => k_asm); (case q02480_hk => first | exact rfl | assumption); (case q02480_N => k_asm); (case q02480_p1 => lcg_sub); (case q02480_p2 => lcg_sub); (case q02480_hl => assumption); (case q02480_hp => first | assumption | omega); (case q02480_hx => k_ne); (case q02480_hn => krn_off); (case q02480_hd => ktr_room); (case q02480_hu => ktr_units); k_whole); intro zzt' zzu4 zzu6 zzh' zztk' zzF' zzN'; (try dsimp only)))
  trivial
section
local macro_rules | `(tactic| omega) => `(tactic| k_extra "oP10")
theorem Nn.oP10 : True := by
  (k_with "oP10" => with_reducible (k_whole; first | k_extra "omega!" | ((show (_ : Nat) ≤ _); first | exact Nn.q273 (by assumption) | exact Nn.q274 (by assumption) (by assumption) (by assumption) | fail) | fail))
  trivial
namespace Nn
inductive Until (l : List Nat) : Nat → List (List Nat) → Option (Nat × Nat) → Prop
  | fin {i} (h : wTok l i = S "$end") : Until l i [] (some (wAt l i, wEnd l i))
  | miss {i} (h : wTok l i = []) : Until l i [] none
  | more {i ws o} (h1 : wTok l i ≠ S "$end") (h2 : wTok l i ≠ []) (h : Until l (wEnd l i) ws o) : Until l i (wTok l i :: ws) o
theorem wEnd_le {l : List Nat} {i : Nat} (h : i ≤ l.length) : wEnd l i ≤ l.length := by rw [wEnd_eq]; exact skip_le (by rw [wAt_eq]; exact skip_le h)
theorem strNe (a : List Nat) (s : String) : (mk a == Str.ofString s) = decide (a = S s) := by rw [lit_eq, mk_beq]
structure UE where
  rem : List (List Nat)
  old : List (List Nat)
  p0 : Nat
  tw : Tok
  tp : Tok
  ta : Tok
  vs : List Value
  nn : Nat
theorem until_end_s {w : World} {mean : ExcName → Option Value} {mg mb : Str → Option Value} {dp un : Nat} {gd : Option (List Code)} {cn : Str} {cs : Scope} {a : Addr} {ccd : Value} {cl : List (Str × Addr)} {outer : List Env} {A₀ : Around} {base h₀ : Heap} {L : Addr} {m : Str → Option Value} {news : List (Addr × Obj)} {s : Shared}
    {Q E : Value → Shared → Prop} {l : List Nat} {x dx pl : Nat} {at0 : Int} {t1 t2 t3 t4 t5 t6 : Tok} {led r1 : List (Addr × Obj)} {ws : List (List Nat)} {o : Option (Nat × Nat)}
    (B : Below A₀ base outer h₀) (F : Fr h₀ L s.heap m) (X : (K w.params).In h₀) (T : Top q looseN mean mg mb h₀) (hk : cs.kind = .function) (N : News h₀ L s.heap (led)) (p1 : Pick (x, instObj 211 dx) led r1) (p2 : Pick (dx, dictOf [kE w "text" t1 (.str (mk l) t2), kE w "place" t3 (.int pl t4), kE w "at" t5 (.int at0 t6)] 3) r1 news) (hl : l.length ≤ 100000) (hp : pl ≤ l.length) (hx : x ≠ dx) (hn : ∀ p ∈ news, p.1 ≠ dx) (hws : Until l pl ws o) (hwl : ws.length ≤ 100000)
    (hd : dp + 30 < recursionLimit) (hu : un + 240 < cLine)
    (ret : ∀ a j, o = some (a, j) → ∀ fl vs nn u4 u6 h' tk', StrsAre vs (ws.map mk) → Fr h₀ L h' m → News h₀ L h' ((fl, listOf vs.toArray nn) :: (x, instObj 211 dx) :: (dx, dictOf [kE w "text" t1 (.str (mk l) t2), kE w "place" t3 (.int j u4), kE w "at" t5 (.int a u6)] 3) :: news) → x < fl → dx < fl → (∀ p ∈ news, p.1 < fl) → Q (.ref fl) { s with heap := h', toks := tk' })
    (exc : o = none → ∀ g e h' tk', g.UpToSlots h' → Fr h₀ L g m → Fly w base (envX cn cs L a ccd cl :: outer) e (news) (Str.ofString "end_missing") (at0) h' → E (.ref e) { s with heap := h', toks := tk' }) :
    wpAny (model PySem.Challenge.rw_nn0316_01.prog w) (ktrTop dp un gd cn cs L a ccd cl outer) (call (.ref 208) [.ref x]) Q E s := by
  replace N := p2.deep (p1.news N)
  clear p1 p2
  have hpe : wEnd l pl ≤ l.length := wEnd_le hp
  refine wpAny_call ?_
  ktr_call [("self", .ref x)] ()
  k_steps
  rename Fr _ _ _ _ => F1
  rename News _ _ _ _ => N1
  rename (x < _ ∧ _) => l1
  replace N1 := news_sub N1 (l := (_, listOf ([] : List Value).toArray 0) :: (x, instObj 211 dx) :: (dx, dictOf [kE w "text" t1 (.str (mk l) t2), kE w "place" t3 (.int (wEnd l pl) _), kE w "at" t5 (.int (wAt l pl) _)] 3) :: news) (by ksw_less)
  obtain ⟨fl, er⟩ := nm1 N1
  subst er
  obtain ⟨lx, ld, ln⟩ := l1
  have ln' := allLt_of' ln
  refine go (whileX (σ := UE) (fun c => (fl, listOf c.vs.toArray c.nn) :: (x, instObj 211 dx) :: (dx, dictOf [kE w "text" t1 (.str (mk l) t2), kE w "place" t3 (.int (wEnd l c.p0) c.tp), kE w "at" t5 (.int (wAt l c.p0) c.ta)] 3) :: news) (fun c => [(Str.ofString "word", .str (mk (wTok l c.p0)) c.tw)]) []
    (fun c => Until l c.p0 c.rem o ∧ c.old ++ c.rem = ws ∧ StrsAre c.vs (c.old.map mk) ∧ c.p0 ≤ l.length)
    (fun c => o = some (wAt l c.p0, wEnd l c.p0) ∧ StrsAre c.vs (ws.map mk) ∧ c.p0 ≤ l.length) (fun c => c.rem.length)
    ⟨ws, [], pl, _, _, _, [], 0⟩ F1 N1 (ag_cons rfl ag_nil) ⟨hws, rfl, .nil, hp⟩ ?_ ?_)
  · rintro ⟨rem, old, p0, tw, tp, ta, vs, nn⟩ u h tk hJ F2 N2
    (repeat ((with_reducible show ∀ _, Nn.Cut _ _ → _); intro _ _))
    clear F1 N1
    dsimp only at hJ F2 N2
    obtain ⟨hU, hor, hvs, hp0⟩ := hJ
    have hz : vs.length ≤ 100000 := by
      have := sa_len hvs
      rw [List.length_map] at this
      have h2 : (old ++ rem).length = ws.length := by rw [hor]
      rw [List.length_append] at h2; omega
    have hpe2 : wEnd l p0 ≤ l.length := wEnd_le hp0
    k_steps
    · rename (mk (wTok l p0) == Str.ofString "") = true => he
      rw [strNe, show S "" = [] from rfl] at he
      have ho : o = none := by
        cases hU with
        | fin h => rw [h] at he; exact absurd he (by decide +kernel)
        | miss h => rfl
        | more h1 h2 h => exact absurd (of_decide_eq_true he) h2
      replace exc := exc ho
      exact exc _ _ _ _ (by assumption) (by assumption) (Fly.sub (by assumption) (by ksw_less))
    · rename (mk (wTok l p0) == Str.ofString "") = false => he
      rename (mk (wTok l p0) != Str.ofString "$end") = true => he2
      rw [strNe, show S "" = [] from rfl] at he
      rw [bne, strNe, Bool.not_eq_true'] at he2
      rename Fr _ _ _ _ => F3
      rename News _ _ _ _ => N3
      rw [List.push_toArray] at N3
      cases hU with
      | fin h => exact absurd h (of_decide_eq_false he2)
      | miss h => exact absurd h (of_decide_eq_false he)
      | more h1 h2 h =>
        refine WEnd.intro ⟨_, old ++ [wTok l p0], wEnd l p0, _, _, _, vs ++ [_], nn + 1⟩ F3 N3 (by ksw_less) ⟨ag_cons rfl ag_nil, by ksw_same⟩ ⟨h, ?_, ?_, hpe2⟩ ?_
        · rw [← hor, List.append_assoc]; rfl
        · rw [List.map_append]; exact sa_snoc hvs
        · exact Nat.lt_succ_self _
    · rename (mk (wTok l p0) != Str.ofString "$end") = false => he
      rw [bne, strNe, Bool.not_eq_false'] at he
      rename Fr _ _ _ _ => F3
      rename News _ _ _ _ => N3
      refine WExit.intro ⟨rem, old, p0, _, _, _, vs, nn⟩ F3 N3 (by ksw_less) ⟨ag_cons rfl ag_nil, by ksw_same⟩ ?_
      have hd := of_decide_eq_true he
      cases hU with
      | fin h => exact ⟨rfl, by rw [← hor, List.append_nil]; exact hvs, hp0⟩
      | miss h => rw [h] at hd; exact absurd hd (by decide +kernel)
      | more h1 h2 h => exact absurd hd h1
  intro c u h tk hX F2 N2
  clear F1 N1
  obtain ⟨rem, old, p0, tw, tp, ta, vs, nn⟩ := c
  dsimp only at hX F2 N2
  k_steps
  exact ret _ _ hX.1 _ _ _ _ _ _ _ hX.2.1 (by k_asm) (news_sub (by k_asm) (by ksw_less)) lx ld ln'
end Nn
end
-- P11
theorem Nn.wP11 : True := by
  (k_with "call type:int!" => (k_here; (with_reducible show wpAny _ _ (call (Value.type "int") [Value.str _ _]) _ _ _); refine PySem.W.KIN.call_text (by assumption) (by omega) ?_))
  trivial
section
local macro_rules | `(tactic| omega) => `(tactic| k_extra "oP11")
theorem Nn.oP11 : True := by
  (k_with "oP11" => with_reducible (k_whole; first | k_extra "omega!" | ((show (_ : Nat) ≤ _); first | exact Nn.q275 (by assumption) (by assumption) | exact Nn.q277 (by assumption) (by assumption) | fail) | ((show _ ∧ _); first | exact Nn.q276 (by assumption) | fail) | fail))
  trivial
namespace Nn
noncomputable def isDig (n : Nat) : Bool := decide (n ∈ [48, 49, 50, 51, 52, 53, 54, 55, 56, 57])
theorem dig_lit : Str.ofString "0123456789" = mk [48, 49, 50, 51, 52, 53, 54, 55, 56, 57] := by decide +kernel
theorem dig_in (n : Nat) : (!(Builtin.Str.occurrences (Str.ofString "0123456789") ⟨#[n]⟩ 0 (Str.ofString "0123456789").length 1).isEmpty) = isDig n := by
  rw [StrLaws.found_one, dig_lit]
  rfl
theorem isDig_b {n : Nat} (h : isDig n = true) : 48 ≤ n ∧ n ≤ 57 := by
  have := of_decide_eq_true h
  simp only [List.mem_cons, List.not_mem_nil, or_false] at this
  omega
noncomputable def numOk (l : List Nat) : Bool := !(mk l == Str.ofString "") && l.all isDig
theorem whole_number_s {w : World} {mean : ExcName → Option Value} {mg mb : Str → Option Value} {dp un : Nat} {gd : Option (List Code)} {cn : Str} {cs : Scope} {a : Addr} {ccd : Value} {cl : List (Str × Addr)} {outer : List Env} {A₀ : Around} {base h₀ : Heap} {L : Addr} {m : Str → Option Value} {news : List (Addr × Obj)} {s : Shared}
    {Q E : Value → Shared → Prop} {l : List Nat} {at0 : Int} {t t2 : Tok}
    (B : Below A₀ base outer h₀) (F : Fr h₀ L s.heap m) (X : (K w.params).In h₀) (T : Top q looseN mean mg mb h₀) (hk : cs.kind = .function) (N : News h₀ L s.heap (news)) (hl : l.length ≤ 600)
    (hd : dp + 14 < recursionLimit) (hu : un + 112 < cLine)
    (ret : numOk l = true → ∀ t' h' tk', Fr h₀ L h' m → News h₀ L h' (news) → Q (.int ((NumText.digitsVal l : Nat) : Int) t') { s with heap := h', toks := tk' })
    (exc : numOk l = false → ∀ g e h' tk', g.UpToSlots h' → Fr h₀ L g m → Fly w base (envX cn cs L a ccd cl :: outer) e (news) (Str.ofString "bad_number") (at0) h' → E (.ref e) { s with heap := h', toks := tk' }) :
    wpAny (model PySem.Challenge.rw_nn0316_01.prog w) (ktrTop dp un gd cn cs L a ccd cl outer) (call (.ref 222) [.str (mk l) t, .int at0 t2]) Q E s := by
  have hml : (mk l).length = l.length := mk_len l
  refine wpAny_call ?_
  ktr_call [("word", .str (mk l) t), ("at", .int at0 t2)] ()
  k_steps
  · rename (_ == _) = true => he
    have hb : numOk l = false := by unfold numOk; rw [he]; rfl
    replace exc := exc hb
    exact exc _ _ _ _ (by assumption) (by assumption) (Fly.sub (by assumption) (by ksw_less))
  rename (_ == Str.ofString "") = false => he1
  rename Fr _ _ _ _ => F1
  rename News _ _ _ _ => N1
  refine go (strV (σ := Unit) (fun _ => news) (fun _ => []) [] (fun i _ => ∀ d ∈ l.take i, isDig d = true) () rfl F1 N1 ag_nil (by simp) ?_ ?_)
  · intro i d t c u h tk own hd' hJ ha F2 N2
    (repeat ((with_reducible show ∀ _, Nn.Cut _ _ → _); intro _ _))
    clear F1 N1
    have hd2 : l[i]? = some d := by simpa using hd'
    dsimp (config := {zetaDelta := true}) only [envOf] at F2 N2
    have hdi := dig_in d
    k_steps
    · rename (_ : Bool) = true => he
      rw [he] at hdi
      have hb : numOk l = false := by
        have h2 : l.all isDig = false := by rw [List.all_eq_false]; exact ⟨d, List.mem_of_getElem? hd2, by rw [← hdi]; decide⟩
        unfold numOk; rw [h2]; simp
      replace exc := exc hb
      exact exc _ _ _ _ (by assumption) (by assumption) (Fly.sub (by assumption) (by ksw_less))
    · rename (_ : Bool) = false => he
      rw [he] at hdi
      rename Fr _ _ _ _ => F3
      rename News _ _ _ _ => N3
      refine GEnd.intro () F3 N3 (by ksw_less) (by ksw_less) ha ⟨ag_nil, by ksw_same⟩ ?_
      intro d' hd3
      rw [List.take_add_one, hd2] at hd3
      rcases List.mem_append.mp hd3 with h | h
      · exact hJ _ h
      · rw [List.mem_singleton.mp h, ← hdi]; rfl
  · intro c u h tk hJ F2 N2
    (repeat ((with_reducible show ∀ _, Nn.Cut _ _ → _); intro _ _))
    clear F1 N1
    dsimp (config := {zetaDelta := true}) only [envOf] at F2 N2
    have hall : l.all isDig = true := List.all_eq_true.mpr (fun d hd => hJ d (by rw [List.take_of_length_le (by simp)]; exact hd))
    have hb : numOk l = true := by
      unfold numOk
      rw [he1, hall]
      rfl
    have hne : l ≠ [] := by
      intro h; subst h; exact absurd he1 (by decide +kernel)
    have hit : PySem.intText? (mk l) = some ((NumText.digitsVal l : Nat) : Int) :=
      PySem.intText_digits (x := mk l) (fun d hd => isDig_b (List.all_eq_true.mp hall d hd)) hne (by omega)
    k_steps
    exact ret hb _ _ _ (by k_asm) (news_sub (by k_asm) (by ksw_less))
end Nn
end
-- NnList
section
open PySem PySem.W PySem.Spec PySem.Calls PyProof.Rows
set_option maxRecDepth 100000
section
local macro_rules | `(tactic| omega) => `(tactic| k_extra "oNnList")
theorem Nn.oNnList : True := by
  (k_with "oNnList" => with_reducible (k_whole; first | k_extra "omega!" | ((show (_ : Nat) < _); first | exact Nn.q26 (by assumption) (by assumption) (by assumption) | fail) | ((show (_ : Int) < _); first | exact Nn.q24 (by assumption) (by assumption) | exact Nn.q25 (by assumption) (by assumption) | fail) | fail))
  trivial
namespace Nn
theorem no_tf {b : Bool} {p : Prop} (h1 : b = true) (h2 : b = false) : p := by rw [h1] at h2; cases h2
/-! ## Lists of the ledger -/
/-- these values are texts with these signs -/
noncomputable def TxtsAre (vs : List Value) (a : List (List Nat)) : Prop := StrsAre vs (a.map mk)
theorem TxtsAre.none : TxtsAre [] [] := StrsAre.nil
theorem TxtsAre.len {vs a} (h : TxtsAre vs a) : vs.length = a.length := by have := sa_len h; rwa [List.length_map] at this
theorem TxtsAre.snoc {vs a} {x : List Nat} {t : Tok} (h : TxtsAre vs a) : TxtsAre (vs ++ [.str (mk x) t]) (a ++ [x]) := by
  unfold TxtsAre; rw [List.map_append]; exact sa_snoc h
theorem sa_get : ∀ {vs : List Value} {ys : List Str}, StrsAre vs ys → ∀ {i : Nat} {y : Str}, ys[i]? = some y → ∃ t, vs[i]? = some (.str y t)
  | _, _, .cons y t h, 0, z, e => by
    have e' : y = z := by simpa using e
    subst e'
    exact ⟨t, rfl⟩
  | _, _, .cons y t h, i + 1, z, e => by
    obtain ⟨u, hu⟩ := sa_get h (i := i) (y := z) (by simpa using e)
    exact ⟨u, by simpa using hu⟩
theorem TxtsAre.get {vs a} (h : TxtsAre vs a) {i : Nat} {x : List Nat} (e : a[i]? = some x) : ∃ t, vs[i]? = some (.str (mk x) t) := sa_get h (by rw [List.getElem?_map, e]; rfl)
section
variable {prog : Program} {w : World} {A : Around} {E : Value → Shared → Prop} {s : Shared} {h₀ : Heap} {L : Addr} {led : List (Addr × Obj)} {Q : Value → Shared → Prop} {l n : Nat} {vs : List Value} {k : Int} {u : Tok}
theorem item_led {value slice : Expr} {x : Value} (N : News h₀ L s.heap led) (hm : (l, listOf vs.toArray n) ∈ led) (h0 : 0 ≤ k) (h1 : k < 1000000000) (hx : vs[k.toNat]? = some x) (h : Q x s)
    (hs : subscripted slice false (.ref l) (.int k u) = operate [.ref l, .int k u] (getItem (.ref l) (.int k u)) := by with_unfolding_all rfl) (hg : ∀ r, letTemporaryGo value (.ref l) r = pure () := by intro _; with_unfolding_all rfl) :
    wpAny (model prog w) A (subscriptTail value slice (.ref l) (.int k u)) Q E s :=
  PyProof.Rows.item_list (N.isList hm) h0 (by omega) (by simpa using hx) h hs hg
theorem item_txts {value slice : Expr} {a : List (List Nat)} (N : News h₀ L s.heap led) (hm : (l, listOf vs.toArray n) ∈ led) (ht : TxtsAre vs a) (h0 : 0 ≤ k) (h1 : k < a.length) (h2 : a.length ≤ 1000000000) (h : ∀ t', Q (.str (mk (a.getD k.toNat [])) t') s)
    (hs : subscripted slice false (.ref l) (.int k u) = operate [.ref l, .int k u] (getItem (.ref l) (.int k u)) := by with_unfolding_all rfl) (hg : ∀ r, letTemporaryGo value (.ref l) r = pure () := by intro _; with_unfolding_all rfl) :
    wpAny (model prog w) A (subscriptTail value slice (.ref l) (.int k u)) Q E s := by
  have e : a[k.toNat]? = some (a.getD k.toNat []) := by rw [List.getD_eq_getElem?_getD, List.getElem?_eq_getElem (by omega)]; rfl
  obtain ⟨t, ht'⟩ := ht.get e
  exact item_led N hm h0 (by omega) ht' (h t) hs hg
theorem len_txts {a : List (List Nat)} (N : News h₀ L s.heap led) (hm : (l, listOf vs.toArray n) ∈ led) (ht : TxtsAre vs a) (hz : a.length ≤ 1000000000)
    (h : ∀ t' j, Q (.int a.length t') { s with toks := j }) : wpAny (model prog w) A (call (.builtin "len") [.ref l]) Q E s :=
  len_led N hm (by rw [ht.len]; exact hz) (by rw [ht.len]; exact h _ _)
end
noncomputable def commonL : List (List Nat) → List (List Nat) → Nat
  | x :: r, y :: s => if x = y then commonL r s + 1 else 0
  | _, _ => 0
theorem common_step {a b : List (List Nat)} {i : Nat} (h1 : i < a.length) (h2 : i < b.length) (e : a[i] = b[i]) : commonL (a.drop i) (b.drop i) = commonL (a.drop (i + 1)) (b.drop (i + 1)) + 1 := by
  rw [List.drop_eq_getElem_cons h1, List.drop_eq_getElem_cons h2, commonL, if_pos e]
theorem common_ne {a b : List (List Nat)} {i : Nat} (h1 : i < a.length) (h2 : i < b.length) (e : a[i] ≠ b[i]) : commonL (a.drop i) (b.drop i) = 0 := by
  rw [List.drop_eq_getElem_cons h1, List.drop_eq_getElem_cons h2, commonL, if_neg e]
theorem common_end1 {a b : List (List Nat)} {i : Nat} (h1 : a.length ≤ i) : commonL (a.drop i) (b.drop i) = 0 := by
  rw [List.drop_of_length_le h1]; unfold commonL; rfl
theorem common_end2 {a b : List (List Nat)} {i : Nat} (h1 : b.length ≤ i) : commonL (a.drop i) (b.drop i) = 0 := by
  rw [List.drop_of_length_le h1]; cases a.drop i <;> rfl
end Nn
end
end
-- P12
theorem Nn.wP12 : True := by
  (k_with "subscriptTail!" => (k_here; (with_reducible show wpAny _ _ (subscriptTail _ _ (Value.ref _) (Value.int _ _)) _ _ _); refine' Nn.item_txts ?q63ac9_N ?q63ac9_m ?q63ac9_t ?q63ac9_h0 ?q63ac9_h1 ?q63ac9_h2 ?_; (case q63ac9_N => k_asm); (case q63ac9_m => k_mem); (case q63ac9_t => with_reducible assumption); (case q63ac9_h0 => omega); (case q63ac9_h1 => omega); (case q63ac9_h2 => omega); intro _))
  (k_with "call builtin:len!" => (k_here; (with_reducible show wpAny _ _ (call (Value.builtin "len") [Value.ref _]) _ _ _); refine' Nn.len_txts ?q0eabf_N ?q0eabf_m ?q0eabf_t ?q0eabf_h2 ?_; (case q0eabf_N => k_asm); (case q0eabf_m => k_mem); (case q0eabf_t => with_reducible assumption); (case q0eabf_h2 => omega); intro _ _))
  (k_with "ktr_units!" => (simp only [units_in1, units_deeper, units_under_make, Around.mark_units]; (try dsimp only [ktrTop]); omega))
  (k_with "ktr_units!" => first | (refine Nn.room (by assumption) ?_; rfl) | (refine Nn.room1 (by assumption) ?_; rfl) | fail)
  trivial
section
local macro_rules | `(tactic| omega) => `(tactic| k_extra "oP12")
theorem Nn.oP12 : True := by
  (k_with "oP12" => with_reducible (k_whole; first | k_extra "omega!" | ((show (_ : Nat) < _); first | exact Nn.q279 (by assumption) | exact Nn.q283 (by assumption) | fail) | ((show (_ : Nat) ≤ _); first | exact Nn.q278 (by assumption) | exact Nn.q280 (by assumption) (by assumption) | exact Nn.q282 (by assumption) | fail) | ((show (_ : Nat) = _); first | exact Nn.q281 | exact Nn.q17 | fail) | fail))
  trivial
namespace Nn
theorem common_s {w : World} {mean : ExcName → Option Value} {mg mb : Str → Option Value} {dp un : Nat} {gd : Option (List Code)} {cn : Str} {cs : Scope} {a : Addr} {ccd : Value} {cl : List (Str × Addr)} {outer : List Env} {A₀ : Around} {base h₀ : Heap} {L : Addr} {m : Str → Option Value} {news : List (Addr × Obj)} {s : Shared}
    {Q E : Value → Shared → Prop} {ua va n1 n2 : Nat} {us vs : List Value} {xs ys : List (List Nat)}
    (B : Below A₀ base outer h₀) (F : Fr h₀ L s.heap m) (X : (K w.params).In h₀) (T : Top q looseN mean mg mb h₀) (hk : cs.kind = .function) (N : News h₀ L s.heap (news)) (hu : (ua, listOf us.toArray n1) ∈ news) (hv : (va, listOf vs.toArray n2) ∈ news) (hus : TxtsAre us xs) (hvs : TxtsAre vs ys) (hla : xs.length ≤ 1000) (hlb : ys.length ≤ 1000)
    (hd : dp + 14 < recursionLimit) (hu : un + 112 < cLine)
    (ret : ∀ t' h' tk', Fr h₀ L h' m → News h₀ L h' (news) → Q (.int (commonL xs ys : Nat) t') { s with heap := h', toks := tk' }) :
    wpAny (model PySem.Challenge.rw_nn0316_01.prog w) (ktrTop dp un gd cn cs L a ccd cl outer) (call (.ref 173) [.ref ua, .ref va]) Q E s := by
  refine wpAny_call ?_
  ktr_call [("u", .ref ua), ("v", .ref va)] ()
  k_steps
  rename Fr _ _ _ _ => F1
  rename News _ _ _ _ => N1
  refine go (whileX (σ := Nat × Tok) (fun _ => news) (fun c => [(Str.ofString "count", .int c.1 c.2)]) [] (fun c => commonL xs ys = commonL (xs.drop c.1) (ys.drop c.1) + c.1 ∧ c.1 ≤ xs.length) (fun c => commonL xs ys = c.1) (fun c => xs.length - c.1) (0, _) F1 N1 (ag_cons rfl ag_nil) ⟨rfl, Nat.zero_le _⟩ ?_ ?_)
  · rintro ⟨i, ti⟩ u h tk hJ F2 N2
    (repeat ((with_reducible show ∀ _, Nn.Cut _ _ → _); intro _ _))
    clear F1 N1
    dsimp only at hJ F2 N2
    have hgx : ∀ h : i < xs.length, xs.getD (i : Int).toNat [] = xs[i] := fun h => by
      rw [Int.toNat_natCast, List.getD_eq_getElem?_getD, List.getElem?_eq_getElem h]; rfl
    have hgy : ∀ h : i < ys.length, ys.getD (i : Int).toNat [] = ys[i] := fun h => by
      rw [Int.toNat_natCast, List.getD_eq_getElem?_getD, List.getElem?_eq_getElem h]; rfl
    k_steps
    · rename (mk _ == mk _) = true => he
      rename (i : Int) < xs.length => h1
      rename (i : Int) < ys.length => h2
      rename Fr _ _ _ _ => F3
      rename News _ _ _ _ => N3
      have h1' : i < xs.length := by omega
      have h2' : i < ys.length := by omega
      rw [mk_beq, hgx h1', hgy h2'] at he
      refine WEnd.intro (i + 1, _) F3 N3 (by ksw_less) ⟨ag_cons rfl ag_nil, by ksw_same⟩ ⟨?_, h1'⟩ ?_
      · rw [hJ.1, common_step h1' h2' (of_decide_eq_true he)]; dsimp only; omega
      · show xs.length - (i + 1) < xs.length - i
        omega
    · rename (mk _ == mk _) = false => he
      rename (i : Int) < xs.length => h1
      rename (i : Int) < ys.length => h2
      rename Fr _ _ _ _ => F3
      rename News _ _ _ _ => N3
      have h1' : i < xs.length := by omega
      have h2' : i < ys.length := by omega
      rw [mk_beq, hgx h1', hgy h2'] at he
      exact WExit.intro (i, _) F3 N3 (by ksw_less) ⟨ag_cons rfl ag_nil, by ksw_same⟩ (by dsimp only; rw [hJ.1, common_ne h1' h2' (of_decide_eq_false he)]; omega)
    · rename ¬ (i : Int) < ys.length => h2
      rename Fr _ _ _ _ => F3
      rename News _ _ _ _ => N3
      exact WExit.intro (i, _) F3 N3 (by ksw_less) ⟨ag_cons rfl ag_nil, by ksw_same⟩ (by dsimp only; rw [hJ.1, common_end2 (by omega)]; omega)
    · rename ¬ (i : Int) < xs.length => h1
      rename Fr _ _ _ _ => F3
      rename News _ _ _ _ => N3
      exact WExit.intro (i, _) F3 N3 (by ksw_less) ⟨ag_cons rfl ag_nil, by ksw_same⟩ (by dsimp only; rw [hJ.1, common_end1 (by omega)]; omega)
  intro c u h tk hX F2 N2
  clear F1 N1
  obtain ⟨i, ti⟩ := c
  dsimp only at hX F2 N2
  k_steps
  rw [← hX]
  exact ret _ _ _ (by k_asm) (news_sub (by k_asm) (by ksw_less))
end Nn
end
-- P13
theorem Nn.wP13 : True := by
  (k_with "call ref!" => (k_here; (with_reducible show wpAny _ _ (call (Value.ref 117) _) _ _ _); k_dflt (refine' Nn.check_word_s ?q43101_B ?q43101_F ?q43101_X ?q43101_T ?q43101_hk ?q43101_N ?q43101_hl ?q43101_hd ?q43101_hu (fun zzhw zzh' zztk' zzF' zzN' => ?_) (fun zzhw zzg2 zze2 zzh2 zztk2 zzhs2 zzF2 zzR2 => ?_); (case q43101_B => k_asm); (case q43101_F => k_asm); (case q43101_X => k_asm); (case q43101_T => k_asm); (case q43101_hk => first | exact rfl | assumption); (case q43101_N => k_asm); (case q43101_hl => first | assumption | omega); (case q43101_hd => ktr_room); (case q43101_hu => ktr_units); k_whole); (rotate_left 1); (first | (focus (exact Nn.no_tf (by assumption) zzhw)) | (focus (refine Nn.pass_on (by k_asm) zzF2 zzhs2 zzR2 ?_; intro zzh3 zzhs3 zzR3; (try dsimp only)))); (rotate_right 1); (first | (focus (exact Nn.no_tf zzhw (by assumption))) | (try dsimp only))))
  trivial
section
local macro_rules | `(tactic| omega) => `(tactic| k_extra "oP13")
theorem Nn.oP13 : True := by
  (k_with "oP13" => with_reducible (k_whole; first | k_extra "omega!" | ((show (_ : Nat) < _); first | exact Nn.q285 (by assumption) | exact Nn.q286 (by assumption) | fail) | ((show (_ : Nat) ≤ _); first | exact Nn.q284 (by assumption) | fail) | fail))
  trivial
namespace Nn
theorem writer_new {w : World} {mean : ExcName → Option Value} {mg mb : Str → Option Value} {dp un : Nat} {gd : Option (List Code)} {cn : Str} {cs : Scope} {a : Addr} {ccd : Value} {cl : List (Str × Addr)} {outer : List Env} {A₀ : Around} {base h₀ : Heap} {L : Addr} {m : Str → Option Value} {news : List (Addr × Obj)} {s : Shared}
    {Q E : Value → Shared → Prop} {sc : List Nat} {t0 : Tok}
    (B : Below A₀ base outer h₀) (F : Fr h₀ L s.heap m) (X : (K w.params).In h₀) (T : Top q looseN mean mg mb h₀) (hk : cs.kind = .function) (N : News h₀ L s.heap (news)) (hl : sc.length ≤ 1000) (hok : okWord sc = true)
    (hd : dp + 30 < recursionLimit) (hu : un + 500 < cLine)
    (ret : ∀ wr wdx vl wl ch k1 k2 k3 k4 k5 v1 v5 o h' tk', Fr h₀ L h' m → News h₀ L h' ((wr, instObj 162 wdx) :: (wdx, dictOf [kE w "scale" k1 (.str (mk sc) v1), kE w "variables" k2 (.ref vl), kE w "widths" k3 (.ref wl), kE w "changes" k4 (.ref ch), kE w "now" k5 (.int (-1) v5)] 5) :: (vl, listOf #[] 0) :: (wl, o) :: (ch, listOf #[] 0) :: news) → (∀ p ∈ news, p.1 < wdx) → @LT.lt Nat _ wdx wr → @LT.lt Nat _ wr vl → @LT.lt Nat _ vl wl → @LT.lt Nat _ wl ch → o.IsDictOf (strKind PySem.Challenge.rw_nn0316_01.prog w) [] → FlatPairs PyData.str [] [] → (wl == sysModules) = false → Q (.ref wr) { s with heap := h', toks := tk' }) :
    wpAny (model PySem.Challenge.rw_nn0316_01.prog w) (ktrTop dp un gd cn cs L a ccd cl outer) (call (.ref 162) [.str (mk sc) t0]) Q E s := by
  refine call_cls F X N (by k_is) (by k_is) (by k_is) fun x dx h' F' N' l1 l2 => ?_
  clear F N
  have n1 := ne_of_ltAll l1
  ktr_call [("self", .ref x), ("scale", .str (mk sc) t0)] ()
  k_steps
  rename News h₀ _ _ _ => N3
  rename Obj.IsDictOf (strKind _ _) _ _ => hd1
  rename FlatPairs PyData.str _ _ => hf1
  rename (_ < _ ∧ _ < _ ∧ _ < _ ∧ _ < _ ∧ AllLt _ _) => la
  rename (_ < _ ∧ _ < _ ∧ _ < _ ∧ AllLt _ _) => lb
  rename (_ < _ ∧ _ < _ ∧ AllLt _ _) => lc
  exact ret _ _ _ _ _ _ _ _ _ _ _ _ _ _ _ (by k_asm) (news_sub N3 (by ksw_less)) l1 l2 lc.1 lb.1 la.1 hd1 hf1 (by assumption)
end Nn
end
-- NnWr
section
open PySem PySem.W PySem.Spec PySem.Calls PyProof.Rows PyProof.V
set_option maxRecDepth 100000
section
local macro_rules | `(tactic| omega) => `(tactic| k_extra "oNnWr")
theorem Nn.oNnWr : True := by
  (k_with "oNnWr" => with_reducible (k_whole; first | k_extra "omega!" | ((show (_ : Nat) ≠ _); first | exact Nn.q27 (by assumption) (by assumption) (by assumption) (by assumption) (by assumption) | exact Nn.q28 (by assumption) | exact Nn.q29 (by assumption) (by assumption) (by assumption) | exact Nn.q30 (by assumption) (by assumption) | fail) | fail))
  trivial
namespace Nn
/-! ## The writer's objects -/
structure WOk (wdx wr vl wl ch : Nat) (news : List (Addr × Obj)) : Prop where
  c1 : wdx < wr
  c2 : wr < vl
  c3 : vl < wl
  c4 : wl < ch
  n1 : ∀ p ∈ news, p.1 ≠ wdx
  n2 : ∀ p ∈ news, p.1 ≠ vl
  n3 : ∀ p ∈ news, p.1 ≠ wl
  n4 : ∀ p ∈ news, p.1 ≠ ch
  n5 : (wl == sysModules) = false
theorem WOk.cons {wdx wr vl wl ch : Nat} {news : List (Addr × Obj)} (W : WOk wdx wr vl wl ch news) {a : Nat} {o : Obj} (h : ch < a) : WOk wdx wr vl wl ch ((a, o) :: news) :=
  ⟨W.c1, W.c2, W.c3, W.c4, off_cons (by have := W.c1; have := W.c2; have := W.c3; have := W.c4; omega) W.n1, off_cons (by have := W.c3; have := W.c4; omega) W.n2, off_cons (by have := W.c4; omega) W.n3, off_cons (by omega) W.n4, W.n5⟩
noncomputable def wOf (ns : List (List Nat × Int)) (nm : List Nat) : Option Int := (ns.find? fun p => decide (p.1 = nm)).map (·.2)
noncomputable def Dw (ns : List (List Nat × Int)) : List (PyData × PyData) := ns.map fun p => (PyData.str (mk p.1), PyData.int p.2)
theorem lookup_Dw (nm : List Nat) : ∀ ns : List (List Nat × Int), Spec.lookup (.str (mk nm)) (Dw ns) = (wOf ns nm).map PyData.int
  | [] => rfl
  | (a, k) :: r => by
    show (if Spec.same (.str (mk a)) (.str (mk nm)) then some (PyData.int k) else Spec.lookup (.str (mk nm)) (Dw r)) = _
    rw [lookup_Dw nm r, PyProof.V.same_str]
    unfold wOf
    by_cases h : a = nm
    · subst h; simp
    · have h2 : ¬ mk a = mk nm := fun e => h (mk_inj e)
      simp [h, h2]
section
variable {prog : Program} {w : World} {A : Around} {E : Value → Shared → Prop} {s : Shared} {d : Addr} {D : List (PyData × PyData)} {Q : Value → Shared → Prop} {x : Str} {t : Tok}
theorem notin_some {dv : PyData} (T : StrTab prog w s.heap d D) (hl : Spec.lookup (.str x) D = some dv) (h : Q (.bool false) { s with toks := s.toks + 1 }) : wpAny (model prog w) A (compareOp .NotIn (.str x t) (.ref d)) Q E s :=
  notin_strTab T (by rw [hl]; exact h)
theorem notin_none (T : StrTab prog w s.heap d D) (hl : Spec.lookup (.str x) D = none) (h : Q (.bool true) { s with toks := s.toks + 1 }) : wpAny (model prog w) A (compareOp .NotIn (.str x t) (.ref d)) Q E s :=
  notin_strTab T (by rw [hl]; exact h)
theorem item_some {value slice : Expr} {k : Int} (T : StrTab prog w s.heap d D) (hl : Spec.lookup (.str x) D = some (.int k)) (h : ∀ t', Q (.int k t') { s with toks := s.toks + 1 })
    (hs : subscripted slice false (.ref d) (.str x t) = operate [.ref d, .str x t] (getItem (.ref d) (.str x t)) := by with_unfolding_all rfl) (hg : ∀ r, letTemporaryGo value (.ref d) r = pure () := by intro _; with_unfolding_all rfl) :
    wpAny (model prog w) A (subscriptTail value slice (.ref d) (.str x t)) Q E s := by
  refine item_strTab T hl (fun v hv => ?_) hs hg
  obtain ⟨t', rfl⟩ := Flat.int_inv hv
  exact h t'
end
end Nn
end
end
-- P14
theorem Nn.wP14 : True := by
  (k_with "subscriptTail!" => (k_here; (with_reducible show wpAny _ _ (subscriptTail _ _ (Value.ref _) (Value.str _ _)) _ _ _); k_dflt (refine' Nn.item_some ?qeccbd_T ?qeccbd_hl ?_; (case qeccbd_T => k_tabat); (case qeccbd_hl => assumption)); intro _))
  (k_with "compareOp NotIn str ref!" => (k_here; k_dflt (refine' Nn.notin_some ?q6adc8_T ?q6adc8_hl ?_; (case q6adc8_T => k_tabat); (case q6adc8_hl => assumption))))
  (k_with "compareOp NotIn str ref!" => (k_here; k_dflt (refine' Nn.notin_none ?q08117_T ?q08117_hl ?_; (case q08117_T => k_tabat); (case q08117_hl => assumption))))
  trivial
section
local macro_rules | `(tactic| omega) => `(tactic| k_extra "oP14")
theorem Nn.oP14 : True := by
  (k_with "oP14" => with_reducible (k_whole; first | k_extra "omega!" | ((show (_ : Nat) ≤ _); first | exact Nn.q32 (by assumption) | fail) | ((show (_ : Nat) ≠ _); first | exact Nn.q288 (by assumption) (by assumption) (by assumption) (by assumption) | exact Nn.q292 (by assumption) (by assumption) (by assumption) (by assumption) | fail) | ((show (_ : Int) < _); first | exact Nn.q287 (by assumption) (by assumption) | exact Nn.q290 (by assumption) (by assumption) | exact Nn.q294 (by assumption) (by assumption) | fail) | ((show _ ∨ _); first | exact Nn.q291 (by assumption) | exact Nn.q293 (by assumption) (by assumption) | fail) | ((show False); first | exact Nn.q289 (by assumption) (by assumption) | exact Nn.q295 (by assumption) (by assumption) (by assumption) (by assumption) | fail) | fail))
  trivial
namespace Nn
theorem Pick.deep5 {a1 a2 a3 a4 a5 led r1 r2 r3 r4 r5} {h₀ h : Heap} {L : Addr} (p1 : Pick a1 led r1) (p2 : Pick a2 r1 r2) (p3 : Pick a3 r2 r3) (p4 : Pick a4 r3 r4) (p5 : Pick a5 r4 r5) (N : News h₀ L h led) : News h₀ L h (a1 :: a2 :: a3 :: a4 :: a5 :: r5) :=
  news_sub N fun p hp => p1.sub p (sub_cons (.head _) (sub_tail (fun p hp => p2.sub p (sub_cons (.head _) (sub_tail (fun p hp => p3.sub p (sub_cons (.head _) (sub_tail (fun p hp => p4.sub p (sub_cons (.head _) (sub_tail p5.sub) p hp))) p hp))) p hp))) p hp)
noncomputable def chErr (ns : List (List Nat × Int)) (nm : List Nat) (vw tm now : Int) : Option Str := match wOf ns nm with
  | none => some (Str.ofString "unknown_id")
  | some w => if vw ≠ w then some (Str.ofString "wrong_width") else if tm < 0 ∨ tm < now then some (Str.ofString "time_goes_back") else none
theorem w_change_s {w : World} {mean : ExcName → Option Value} {mg mb : Str → Option Value} {dp un : Nat} {gd : Option (List Code)} {cn : Str} {cs : Scope} {a : Addr} {ccd : Value} {cl : List (Str × Addr)} {outer : List Env} {A₀ : Around} {base h₀ : Heap} {L : Addr} {m : Str → Option Value} {news : List (Addr × Obj)} {s : Shared}
    {Q E : Value → Shared → Prop} {wr wdx vl wl ch nv nc : Nat} {vvs cvs : List Value} {sc : List Nat} {o : Obj} {kvs : List (Str × Value)} {ns : List (List Nat × Int)} {now : Int} {k1 k2 k3 k4 k5 v1 v5 : Tok} {led r1 r2 r3 r4 : List (Addr × Obj)} {tm vw lo hi : Int} {nm : List Nat} {va : Nat} {t1 t2 t3 t4 t5 : Tok}
    (B : Below A₀ base outer h₀) (F : Fr h₀ L s.heap m) (X : (K w.params).In h₀) (T : Top q looseN mean mg mb h₀) (hk : cs.kind = .function) (N : News h₀ L s.heap (led)) (p1 : Pick (wr, instObj 162 wdx) led r1) (p2 : Pick (wdx, dictOf [kE w "scale" k1 (.str (mk sc) v1), kE w "variables" k2 (.ref vl), kE w "widths" k3 (.ref wl), kE w "changes" k4 (.ref ch), kE w "now" k5 (.int (now) v5)] 5) r1 r2) (p3 : Pick (vl, listOf vvs.toArray nv) r2 r3) (p4 : Pick (wl, o) r3 r4) (p5 : Pick (ch, listOf cvs.toArray nc) r4 news) (W : WOk wdx wr vl wl ch news) (hdo : o.IsDictOf (strKind PySem.Challenge.rw_nn0316_01.prog w) kvs) (hfo : FlatPairs PyData.str kvs (Dw ns)) (hnz : ns.length ≤ 1000) (hv : (va, tupO [.int vw t3, .int lo t4, .int hi t5]) ∈ news) (htm : -(10 ^ 15) ≤ tm ∧ tm ≤ 10 ^ 15) (hnm : nm.length ≤ 1000) (hcz : cvs.length ≤ 1000)
    (hd : dp + 20 < recursionLimit) (hu : un + 400 < cLine)
    (ret : chErr ns nm vw tm now = none → ∀ tp u1 h' tk', Fr h₀ L h' m → News h₀ L h' ((tp, tupO [.int tm t1, .str (mk nm) t2, .ref va]) :: (wr, instObj 162 wdx) :: (wdx, dictOf [kE w "scale" k1 (.str (mk sc) v1), kE w "variables" k2 (.ref vl), kE w "widths" k3 (.ref wl), kE w "changes" k4 (.ref ch), kE w "now" k5 (.int (tm) u1)] 5) :: (vl, listOf vvs.toArray nv) :: (wl, o) :: (ch, listOf (cvs ++ [Value.ref tp]).toArray (nc + 1)) :: news) → @LT.lt Nat _ ch tp → (∀ p ∈ news, p.1 < tp) → Q (.none) { s with heap := h', toks := tk' })
    (exc : ∀ kd, chErr ns nm vw tm now = some kd → ∀ g e h' tk', g.UpToSlots h' → Fr h₀ L g m → Fly w base (envX cn cs L a ccd cl :: outer) e ((wr, instObj 162 wdx) :: (wdx, dictOf [kE w "scale" k1 (.str (mk sc) v1), kE w "variables" k2 (.ref vl), kE w "widths" k3 (.ref wl), kE w "changes" k4 (.ref ch), kE w "now" k5 (.int (now) v5)] 5) :: (vl, listOf vvs.toArray nv) :: (wl, o) :: (ch, listOf cvs.toArray nc) :: news) (kd) (-1) h' → E (.ref e) { s with heap := h', toks := tk' }) :
    wpAny (model PySem.Challenge.rw_nn0316_01.prog w) (ktrTop dp un gd cn cs L a ccd cl outer) (call (.ref 152) [.ref wr, .int tm t1, .str (mk nm) t2, .ref va]) Q E s := by
  replace N := Pick.deep5 p1 p2 p3 p4 p5 N
  clear p1 p2 p3 p4 p5
  obtain ⟨c1, c2, c3, c4, m1, m2, m3, m4, m5⟩ := W
  refine wpAny_call ?_
  ktr_call [("self", .ref wr), ("time", .int tm t1), ("name", .str (mk nm) t2), ("value", .ref va)] ()
  have hlk := lookup_Dw nm ns
  cases hwo : wOf ns nm with
  | none =>
    rw [hwo] at hlk
    replace hlk : Spec.lookup (.str (mk nm)) (Dw ns) = none := hlk
    k_steps
    replace exc := exc (Str.ofString "unknown_id") (by unfold chErr; rw [hwo])
    exact exc _ _ _ _ (by assumption) (by assumption) (Fly.sub (by assumption) (by ksw_less))
  | some wdt =>
    rw [hwo] at hlk
    replace hlk : Spec.lookup (.str (mk nm)) (Dw ns) = some (.int wdt) := hlk
    k_steps
    · replace exc := exc (Str.ofString "wrong_width") (by unfold chErr; rw [hwo]; dsimp only; rw [if_pos (by omega)])
      exact exc _ _ _ _ (by assumption) (by assumption) (Fly.sub (by assumption) (by ksw_less))
    · replace exc := exc (Str.ofString "time_goes_back") (by unfold chErr; rw [hwo]; dsimp only; rw [if_neg (by omega), if_pos (by omega)])
      exact exc _ _ _ _ (by assumption) (by assumption) (Fly.sub (by assumption) (by ksw_less))
    · replace exc := exc (Str.ofString "time_goes_back") (by unfold chErr; rw [hwo]; dsimp only; rw [if_neg (by omega), if_pos (by omega)])
      exact exc _ _ _ _ (by assumption) (by assumption) (Fly.sub (by assumption) (by ksw_less))
    · rename News h₀ _ _ _ => N3
      rw [List.push_toArray] at N3
      rename (wr < _ ∧ _) => la
      exact ret (by unfold chErr; rw [hwo]; dsimp only; rw [if_neg (by omega), if_neg (by omega)]) _ _ _ _ (by k_asm) N3 la.2.2.2.2.1 (allLt_of' la.2.2.2.2.2)
end Nn
end
-- NnSplit
section
open PySem PySem.W PySem.Spec PySem.Calls PyProof.Rows PyProof.V
set_option maxRecDepth 100000
section
local macro_rules | `(tactic| omega) => `(tactic| k_extra "oNnSplit")
theorem Nn.oNnSplit : True := by
  (k_with "oNnSplit" => with_reducible (k_whole; first | k_extra "omega!" | ((show (_ : Nat) ≤ _); first | exact Nn.q31 (by assumption) | exact Nn.q32 (by assumption) | fail) | fail))
  trivial
namespace Nn
/-! ## Splitting -/
noncomputable def partsBy (sep : Str) (l : List Nat) : List (List Nat) := (Txt.split (mk l) sep).map (·.cps.toList)
theorem TxtsAre.get' {vs : List Value} {a : List (List Nat)} (h : TxtsAre vs a) {i : Nat} {v : Value} (e : vs[i]? = some v) : ∃ x t, a[i]? = some x ∧ v = .str (mk x) t := by
  have hi : i < vs.length := by
    rcases Nat.lt_or_ge i vs.length with h | h
    · exact h
    · rw [List.getElem?_eq_none h] at e; cases e
  have hi' : i < a.length := by rw [← h.len]; exact hi
  have e2 : a[i]? = some a[i] := List.getElem?_eq_getElem hi'
  obtain ⟨t, ht⟩ := h.get e2
  rw [e] at ht
  exact ⟨a[i], t, e2, Option.some.inj ht⟩
section
variable {prog : Program} {w : World} {A : Around} {E : Value → Shared → Prop} {s : Shared} {h₀ : Heap} {L : Addr} {m : Str → Option Value} {led : List (Addr × Obj)} {Q : Value → Shared → Prop} {l : List Nat} {sep : Str} {t u : Tok}
theorem split_l (F : Fr h₀ L s.heap m) (N : News h₀ L s.heap led) (hy : (sep.length == 0) = false) (hz : l.length ≤ 1000000)
    (h : ∀ (d : Nat) vs h' k, Fr h₀ L h' m → News h₀ L h' ((d, listOf vs.toArray 0) :: led) → TxtsAre vs (partsBy sep l) → (∀ p ∈ led, p.1 < d) → Q (.ref d) { s with heap := h', toks := k }) :
    wpAny (model prog w) A (call (.builtin "str.split") [.str (mk l) t, .str sep u]) Q E s := by
  refine splitN1A F N hy (fun l' h' k e hs _ _ F' N' => h _ _ _ _ F' N' ?_ (fun p hp => Heap.lt_size (N p hp).1)) ?_
  · show StrsAre _ _
    have e2 : (partsBy sep l).map mk = l'.map (·.1) := by
      rw [e]
      unfold partsBy
      rw [List.map_map]
      exact (List.map_congr_left fun y _ => (mk_eta y).symm).trans (List.map_id _)
    rw [e2]; exact hs
  · rw [mk_len, sizeLine_eq]; omega
theorem putD_new {ns : List (List Nat × Int)} {nm : List Nat} {k : Int} (h : wOf ns nm = none) : putD (.str (mk nm)) (.int k) (Dw ns) = Dw (ns ++ [(nm, k)]) := by
  have e : (Dw ns).any (fun p => Spec.same p.1 (.str (mk nm))) = false := by
    rw [List.any_eq_false]
    intro p hp
    obtain ⟨q, hq, rfl⟩ := List.mem_map.mp hp
    dsimp only
    rw [PyProof.V.same_str]
    unfold wOf at h
    rw [Option.map_eq_none_iff, List.find?_eq_none] at h
    have h2 := h q hq
    intro h3
    exact h2 (decide_eq_true (mk_inj (of_decide_eq_true h3)))
  unfold putD
  rw [e]
  simp [Dw]
theorem set_new {d : Addr} {o : Obj} {g : Obj → List (Addr × Obj)} {kvs : List (Str × Value)} {ns : List (List Nat × Int)} {nm : List Nat} {k : Int} {Q : Unit → Shared → Prop} (F : Fr h₀ L s.heap m) (N : News h₀ L s.heap led) (U : UpdF d o led g)
    (hd : o.IsDictOf (strKind prog w) kvs) (hf : FlatPairs PyData.str kvs (Dw ns)) (hnew : wOf ns nm = none) (hz : ns.length ≤ 1000)
    (h : ∀ h' o' kvs' tk, Fr h₀ L h' m → News h₀ L h' (g o') → o'.IsDictOf (strKind prog w) kvs' → FlatPairs PyData.str kvs' (Dw (ns ++ [(nm, k)])) → Q () { s with heap := h', toks := tk }) :
    wpAny (model prog w) A (setItem (.ref d) (.str (mk nm) t) (.int k u)) Q E s :=
  setItem_K PyProof.V.same_str (strKind_is _ _ _ _) (Flat.int k u) F N U hd hf (fun h' o' F' N' hd' hf' => h h' o' _ _ F' N' hd' (putD_new hnew ▸ hf')) (by rw [sizeLine_eq]; unfold Dw; rw [List.length_map]; omega)
end
end Nn
end
end
-- P15
theorem Nn.wP15 : True := by
  (k_with "call ref!" => (k_here; (with_reducible show wpAny _ _ (call (Value.ref 82) _) _ _ _); skip; k_dflt (refine' Nn.id_text_s ?q934c6_B ?q934c6_F ?q934c6_X ?q934c6_T ?q934c6_hk ?q934c6_N ?q934c6_hn ?q934c6_hd ?q934c6_hu ?_; (case q934c6_B => k_asm); (case q934c6_F => k_asm); (case q934c6_X => k_asm); (case q934c6_T => k_asm); (case q934c6_hk => first | exact rfl | assumption); (case q934c6_N => k_asm); (case q934c6_hn => omega); (case q934c6_hd => ktr_room); (case q934c6_hu => ktr_units); k_whole); intro zzt' zzh' zztk' zzF' zzN'; (try dsimp only)))
  (k_with "call builtin:str.split!" => (k_here; (with_reducible show wpAny _ _ (call (Value.builtin "str.split") [Value.str _ _, Value.str _ _]) _ _ _); k_dflt (refine' Nn.split_l ?q007b2_F ?q007b2_N ?q007b2_y ?q007b2_z ?_; (case q007b2_F => k_asm); (case q007b2_N => k_asm); (case q007b2_y => decide +kernel); (case q007b2_z => omega)); intro zzd' zzvs' zzh' zzk' zzF' zzN' zzht' zzlt'))
  (k_with "setItem ref str!" => (k_here; (with_reducible show wpAny _ _ (setItem (Value.ref _) (Value.str (Nn.mk _) _) (Value.int _ _)) _ _ _); k_dflt (refine' Nn.set_new ?qad308_F ?qad308_N ?qad308_U ?qad308_d ?qad308_f ?qad308_n ?qad308_z ?_; (case qad308_F => k_asm); (case qad308_N => k_asm); (case qad308_U => k_updF); (case qad308_d => k_asm); (case qad308_f => k_asm); (case qad308_n => assumption); (case qad308_z => assumption)); intro zzh' zzo' zzkvs' zztk' zzF' zzN' zzhd' zzhf'; (try dsimp only at zzN')))
  trivial
section
local macro_rules | `(tactic| omega) => `(tactic| k_extra "oP15")
theorem Nn.oP15 : True := by
  (k_with "oP15" => with_reducible (k_whole; first | k_extra "omega!" | ((show (_ : Nat) ≤ _); first | exact Nn.q284 (by assumption) | exact Nn.q297 (by assumption) | exact Nn.q300 (by assumption) | exact Nn.q301 (by assumption) | fail) | ((show (_ : Nat) ≠ _); first | exact Nn.q298 (by assumption) (by assumption) | exact Nn.q299 (by assumption) (by assumption) (by assumption) | fail) | ((show _ ∧ _); first | exact Nn.q296 (by assumption) | fail) | fail))
  trivial
namespace Nn
noncomputable abbrev partsOf (l : List Nat) : List (List Nat) := partsBy (Str.ofString ".") l
noncomputable def deErr (path kd : List Nat) (wt : Int) : Option Str := if (partsOf path).all okWord = false then some (Str.ofString "bad_path") else if okWord kd = false then some (Str.ofString "bad_kind") else if wt < 1 then some (Str.ofString "wrong_width") else none
theorem w_declare_s {w : World} {mean : ExcName → Option Value} {mg mb : Str → Option Value} {dp un : Nat} {gd : Option (List Code)} {cn : Str} {cs : Scope} {a : Addr} {ccd : Value} {cl : List (Str × Addr)} {outer : List Env} {A₀ : Around} {base h₀ : Heap} {L : Addr} {m : Str → Option Value} {news : List (Addr × Obj)} {s : Shared}
    {Q E : Value → Shared → Prop} {wr wdx vl wl ch nv nc : Nat} {vvs cvs : List Value} {sc : List Nat} {o : Obj} {kvs : List (Str × Value)} {ns : List (List Nat × Int)} {now : Int} {k1 k2 k3 k4 k5 v1 v5 : Tok} {led r1 r2 r3 r4 : List (Addr × Obj)} {wt : Int} {path kd : List Nat} {t1 t2 t3 : Tok}
    (B : Below A₀ base outer h₀) (F : Fr h₀ L s.heap m) (X : (K w.params).In h₀) (T : Top q looseN mean mg mb h₀) (hk : cs.kind = .function) (N : News h₀ L s.heap (led)) (p1 : Pick (wr, instObj 162 wdx) led r1) (p2 : Pick (wdx, dictOf [kE w "scale" k1 (.str (mk sc) v1), kE w "variables" k2 (.ref vl), kE w "widths" k3 (.ref wl), kE w "changes" k4 (.ref ch), kE w "now" k5 (.int (now) v5)] 5) r1 r2) (p3 : Pick (vl, listOf vvs.toArray nv) r2 r3) (p4 : Pick (wl, o) r3 r4) (p5 : Pick (ch, listOf cvs.toArray nc) r4 news) (W : WOk wdx wr vl wl ch news) (hdo : o.IsDictOf (strKind PySem.Challenge.rw_nn0316_01.prog w) kvs) (hfo : FlatPairs PyData.str kvs (Dw ns)) (hnz : ns.length ≤ 1000) (hpl : path.length ≤ 1000) (hkl : kd.length ≤ 1000) (hvz : vvs.length < 94) (hnew : wOf ns [33 + vvs.length] = none) (hsp : (partsOf path).length ≤ 1000 ∧ ∀ p ∈ partsOf path, p.length ≤ 1000)
    (hd : dp + 30 < recursionLimit) (hu : un + 400 < cLine)
    (ret : deErr path kd wt = none → ∀ tp t4 t5 o' kvs' h' tk', Fr h₀ L h' m → News h₀ L h' ((tp, tupO [.str (mk path) t1, .int wt t2, .str (mk kd) t3, .str (mk [33 + vvs.length]) t4]) :: (wr, instObj 162 wdx) :: (wdx, dictOf [kE w "scale" k1 (.str (mk sc) v1), kE w "variables" k2 (.ref vl), kE w "widths" k3 (.ref wl), kE w "changes" k4 (.ref ch), kE w "now" k5 (.int (now) v5)] 5) :: (vl, listOf (vvs ++ [Value.ref tp]).toArray (nv + 1)) :: (wl, o') :: (ch, listOf cvs.toArray nc) :: news) → o'.IsDictOf (strKind PySem.Challenge.rw_nn0316_01.prog w) kvs' → FlatPairs PyData.str kvs' (Dw (ns ++ [([33 + vvs.length], wt)])) → @LT.lt Nat _ ch tp → (∀ p ∈ news, p.1 < tp) → Q (.str (mk [33 + vvs.length]) t5) { s with heap := h', toks := tk' })
    (exc : ∀ kind, deErr path kd wt = some kind → ∀ g e h' tk', g.UpToSlots h' → Fr h₀ L g m → Fly w base (envX cn cs L a ccd cl :: outer) e ((wr, instObj 162 wdx) :: (wdx, dictOf [kE w "scale" k1 (.str (mk sc) v1), kE w "variables" k2 (.ref vl), kE w "widths" k3 (.ref wl), kE w "changes" k4 (.ref ch), kE w "now" k5 (.int (now) v5)] 5) :: (vl, listOf vvs.toArray nv) :: (wl, o) :: (ch, listOf cvs.toArray nc) :: news) (kind) (-1) h' → E (.ref e) { s with heap := h', toks := tk' }) :
    wpAny (model PySem.Challenge.rw_nn0316_01.prog w) (ktrTop dp un gd cn cs L a ccd cl outer) (call (.ref 145) [.ref wr, .str (mk path) t1, .int wt t2, .str (mk kd) t3]) Q E s := by
  replace N := Pick.deep5 p1 p2 p3 p4 p5 N
  clear p1 p2 p3 p4 p5
  obtain ⟨c1, c2, c3, c4, m1, m2, m3, m4, m5⟩ := W
  refine wpAny_call ?_
  ktr_call [("self", .ref wr), ("path", .str (mk path) t1), ("width", .int wt t2), ("kind", .str (mk kd) t3)] ()
  k_steps
  rename TxtsAre _ _ => ht
  rename Fr _ _ _ _ => F1
  rename News _ _ _ _ => N1
  rename (∀ p : Addr × Obj, p ∈ _ → p.1 < _) => lt
  obtain ⟨sp, er⟩ := nm1 N1
  subst er
  have la1 : wr < sp := lt _ (.head _)
  have la5 : ch < sp := lt _ (.tail _ (.tail _ (.tail _ (.tail _ (.head _)))))
  have ltn : ∀ p ∈ news, p.1 < sp := fun p hp => lt p (.tail _ (.tail _ (.tail _ (.tail _ (.tail _ hp)))))
  refine go (listV (σ := Unit) (fun _ => (sp, listOf _ 0) :: (wr, instObj 162 wdx) :: (wdx, dictOf [kE w "scale" k1 (.str (mk sc) v1), kE w "variables" k2 (.ref vl), kE w "widths" k3 (.ref wl), kE w "changes" k4 (.ref ch), kE w "now" k5 (.int (now) v5)] 5) :: (vl, listOf vvs.toArray nv) :: (wl, o) :: (ch, listOf cvs.toArray nc) :: news) (fun _ => []) [] (fun i _ => ∀ p ∈ (partsOf path).take i, okWord p = true) () rfl (fun _ => .head _) F1 N1 ag_nil (by simp) ?_ ?_)
  · intro i v c u h tk own hv hJ ha F2 N2
    (repeat ((with_reducible show ∀ _, Nn.Cut _ _ → _); intro _ _))
    obtain ⟨x, tx, hx, rfl⟩ := ht.get' hv
    clear F1 N1
    dsimp (config := {zetaDelta := true}) only [envOf] at F2 N2
    have hxl : x.length ≤ 1000 := hsp.2 _ (List.mem_of_getElem? hx)
    k_steps
    · rename okWord x = true => hw
      rename Fr _ _ _ _ => F3
      rename News _ _ _ _ => N3
      refine GEnd.intro () F3 N3 (by ksw_less) (by ksw_less) ha ⟨ag_nil, by ksw_same⟩ ?_
      intro p hp
      rw [List.take_add_one, hx] at hp
      rcases List.mem_append.mp hp with h | h
      · exact hJ _ h
      · rw [List.mem_singleton.mp h]; exact hw
    · rename okWord x = false => hw
      have hal : (partsOf path).all okWord = false := by rw [List.all_eq_false]; exact ⟨x, List.mem_of_getElem? hx, by rw [hw]; decide⟩
      replace exc := exc (Str.ofString "bad_path") (by unfold deErr; rw [if_pos hal])
      exact exc _ _ _ _ (by assumption) (by assumption) (Fly.sub (by assumption) (by ksw_less))
  · intro c u h tk hJ F2 N2
    (repeat ((with_reducible show ∀ _, Nn.Cut _ _ → _); intro _ _))
    clear F1 N1
    dsimp (config := {zetaDelta := true}) only [envOf] at F2 N2
    have hal : ¬ (partsOf path).all okWord = false := by
      rw [ht.len, List.take_of_length_le (Nat.le_refl _)] at hJ
      rw [List.all_eq_true.mpr hJ]; decide
    have hnew2 : wOf ns [33 + ((vvs.length : Nat) : Int).toNat] = none := by rw [Int.toNat_natCast]; exact hnew
    k_steps
    · rename okWord kd = true => hw
      replace exc := exc (Str.ofString "wrong_width") (by unfold deErr; rw [if_neg hal, if_neg (by rw [hw]; decide), if_pos (by omega)])
      exact exc _ _ _ _ (by assumption) (by assumption) (Fly.sub (by assumption) (by ksw_less))
    · rename okWord kd = true => hw
      rename News h₀ _ _ _ => N3
      rename FlatPairs PyData.str _ (Dw (ns ++ _)) => hf3
      rename (sp < _ ∧ _) => la
      rw [Int.toNat_natCast] at N3 hf3
      rw [List.push_toArray] at N3
      rw [Int.toNat_natCast]
      have lan := allLt_of' la.2.2.2.2.2.2
      exact ret (by unfold deErr; rw [if_neg hal, if_neg (by rw [hw]; decide), if_neg (by omega)]) _ _ _ _ _ _ _ (by k_asm) (news_sub N3 (by ksw_less)) (by assumption) hf3 la.2.2.2.2.2.1 lan
    · rename okWord kd = false => hw
      replace exc := exc (Str.ofString "bad_kind") (by unfold deErr; rw [if_neg hal, if_pos hw])
      exact exc _ _ _ _ (by assumption) (by assumption) (Fly.sub (by assumption) (by ksw_less))
end Nn
end
-- NnSlice
section
open PySem PySem.W PySem.Spec PySem.Calls PyProof.Rows PyProof.V
set_option maxRecDepth 100000
section
local macro_rules | `(tactic| omega) => `(tactic| k_extra "oNnSlice")
theorem Nn.oNnSlice : True := by
  (k_with "oNnSlice" => with_reducible (k_whole; first | k_extra "omega!" | ((show (_ : Nat) ≤ _); first | exact Nn.q33 (by assumption) | fail) | ((show (_ : Nat) = _); first | exact Nn.q35 (by assumption) (by assumption) (by assumption) | fail) | ((show (_ : Int) ≤ _); first | exact Nn.q34 (by assumption) (by assumption) (by assumption) | fail) | ((show (_ : Int) = _); first | exact Nn.q36 | fail) | ((show False); first | exact Nn.q37 (by assumption) | fail) | fail))
  trivial
namespace Nn
/-! ## Slices of lists -/
theorem sa_drop : ∀ {vs : List Value} {ys : List Str}, StrsAre vs ys → ∀ k : Nat, StrsAre (vs.drop k) (ys.drop k)
  | _, _, h, 0 => h
  | _, _, .nil, _ + 1 => .nil
  | _, _, .cons _ _ h, k + 1 => sa_drop h k
theorem sa_take : ∀ {vs : List Value} {ys : List Str}, StrsAre vs ys → ∀ k : Nat, StrsAre (vs.take k) (ys.take k)
  | _, _, _, 0 => .nil
  | _, _, .nil, _ + 1 => .nil
  | _, _, .cons y t h, k + 1 => .cons y t (sa_take h k)
theorem TxtsAre.drop {vs a} (h : TxtsAre vs a) (k : Nat) : TxtsAre (vs.drop k) (a.drop k) := by unfold TxtsAre; rw [List.map_drop]; exact sa_drop h k
theorem TxtsAre.take {vs a} (h : TxtsAre vs a) (k : Nat) : TxtsAre (vs.take k) (a.take k) := by unfold TxtsAre; rw [List.map_take]; exact sa_take h k
section
variable {prog : Program} {w : World} {A : Around} {E : Value → Shared → Prop} {s : Shared} {h₀ : Heap} {L : Addr} {m : Str → Option Value} {led : List (Addr × Obj)} {Q : Value → Shared → Prop} {l n : Nat} {vs : List Value} {a : List (List Nat)} {u : Tok} {value slice : Expr}
theorem slice_from_l {k : Int} (F : Fr h₀ L s.heap m) (N : News h₀ L s.heap led) (hm : (l, listOf vs.toArray n) ∈ led) (ht : TxtsAre vs a) (hz : a.length ≤ 1000000) (h0 : 0 ≤ k)
    (h : ∀ (d : Nat) ws h', Fr h₀ L h' m → News h₀ L h' ((d, listOf ws.toArray 0) :: led) → TxtsAre ws (a.drop k.toNat) → (∀ p ∈ led, p.1 < d) → Q (.ref d) { s with heap := h' })
    (hs : subscripted slice false (.ref l) (.ref s.heap.objs.size) = operate [.ref s.heap.objs.size, .ref l] (getItem (.ref l) (.ref s.heap.objs.size)) := by with_unfolding_all rfl)
    (hg : ∀ r, letTemporaryGo value (.ref l) r = pure () := by intro _; with_unfolding_all rfl) :
    wpAny (model prog w) A (subscriptTail value slice (.ref l) (.ref s.heap.objs.size)) Q E { s with heap := s.heap.push { cls := .type "slice", data := .fields #[.int k u, .none, .none] } } := by
  refine slice_list F N (N.isList hm) (.int k u) .none (fun h' F' N' => h _ (vs.drop k.toNat) h' F' ?_ (ht.drop _) fun p hp => Nat.lt_succ_of_lt (Heap.lt_size (N p hp).1)) hs hg (by rw [sizeLine_eq, List.size_toArray, ht.len]; omega)
  have e : slicePick vs.toArray (some k) none none = (vs.drop k.toNat).toArray := by
    obtain ⟨j, rfl⟩ := Int.eq_ofNat_of_zero_le h0
    rw [slicePick_from' vs.toArray j, Int.toNat_natCast]
  rw [e] at N'
  exact N'
theorem slice_init_l {u2 : Tok} (F : Fr h₀ L s.heap m) (N : News h₀ L s.heap led) (hm : (l, listOf vs.toArray n) ∈ led) (ht : TxtsAre vs a) (hz : a.length ≤ 1000000)
    (h : ∀ (d : Nat) ws h', Fr h₀ L h' m → News h₀ L h' ((d, listOf ws.toArray 0) :: led) → TxtsAre ws a.dropLast → (∀ p ∈ led, p.1 < d) → Q (.ref d) { s with heap := h' })
    (hs : subscripted slice false (.ref l) (.ref s.heap.objs.size) = operate [.ref s.heap.objs.size, .ref l] (getItem (.ref l) (.ref s.heap.objs.size)) := by with_unfolding_all rfl)
    (hg : ∀ r, letTemporaryGo value (.ref l) r = pure () := by intro _; with_unfolding_all rfl) :
    wpAny (model prog w) A (subscriptTail value slice (.ref l) (.ref s.heap.objs.size)) Q E { s with heap := s.heap.push { cls := .type "slice", data := .fields #[.none, .int (-1) u, .none] } } := by
  refine slice_list F N (N.isList hm) .none (.int (-1) u) (fun h' F' N' => h _ (vs.take (vs.length - 1)) h' F' ?_ ?_ fun p hp => Nat.lt_succ_of_lt (Heap.lt_size (N p hp).1)) hs hg (by rw [sizeLine_eq, List.size_toArray, ht.len]; omega)
  · have e : slicePick vs.toArray none (some (-1)) none = (vs.take (vs.length - 1)).toArray := by
      have e1 : slicePick vs.toArray none (some (-1)) none = slicePick vs.toArray none (some ((vs.length - 1 : Nat) : Int)) none := by
        unfold slicePick sliceBounds
        have e2 : max (0 : Int) (min (-1 + (vs.toArray.size : Int)) vs.toArray.size) = max 0 (min ((vs.length - 1 : Nat) : Int) vs.toArray.size) := by
          rw [List.size_toArray]; omega
        simp only [Option.getD_none, show (1 : Int) > 0 by decide, if_true, show (-1 : Int) < 0 by decide, e2, show ¬ (((vs.length - 1 : Nat) : Int) < 0) by omega, if_false]
      rw [e1, slicePick_upto' vs.toArray (vs.length - 1)]
    rw [e] at N'
    exact N'
  · rw [List.dropLast_eq_take, ht.len]; exact ht.take _
theorem slice_from_m {k : Int} {hp : Heap} {gg : Array GenState} {dd : Drawn} {tt : Nat} {oo : OsState} (F : Fr h₀ L hp m) (N : News h₀ L hp led) (hm : (l, listOf vs.toArray n) ∈ led) (ht : TxtsAre vs a) (hz : a.length ≤ 1000000) (h0 : 0 ≤ k)
    (h : ∀ (d : Nat) ws h', Fr h₀ L h' m → News h₀ L h' ((d, listOf ws.toArray 0) :: led) → TxtsAre ws (a.drop k.toNat) → (∀ p ∈ led, p.1 < d) → Q (.ref d) ⟨h', gg, dd, tt, oo⟩)
    (hs : subscripted slice false (.ref l) (.ref hp.objs.size) = operate [.ref hp.objs.size, .ref l] (getItem (.ref l) (.ref hp.objs.size)))
    (hg : ∀ r, letTemporaryGo value (.ref l) r = pure ()) :
    wpAny (model prog w) A (subscriptTail value slice (.ref l) (.ref hp.objs.size)) Q E ⟨hp.push { cls := .type "slice", data := .fields #[.int k u, .none, .none] }, gg, dd, tt, oo⟩ :=
  slice_from_l (s := ⟨hp, gg, dd, tt, oo⟩) F N hm ht hz h0 h hs hg
theorem slice_init_m {hp : Heap} {gg : Array GenState} {dd : Drawn} {tt : Nat} {oo : OsState} (F : Fr h₀ L hp m) (N : News h₀ L hp led) (hm : (l, listOf vs.toArray n) ∈ led) (ht : TxtsAre vs a) (hz : a.length ≤ 1000000)
    (h : ∀ (d : Nat) ws h', Fr h₀ L h' m → News h₀ L h' ((d, listOf ws.toArray 0) :: led) → TxtsAre ws a.dropLast → (∀ p ∈ led, p.1 < d) → Q (.ref d) ⟨h', gg, dd, tt, oo⟩)
    (hs : subscripted slice false (.ref l) (.ref hp.objs.size) = operate [.ref hp.objs.size, .ref l] (getItem (.ref l) (.ref hp.objs.size)))
    (hg : ∀ r, letTemporaryGo value (.ref l) r = pure ()) :
    wpAny (model prog w) A (subscriptTail value slice (.ref l) (.ref hp.objs.size)) Q E ⟨hp.push { cls := .type "slice", data := .fields #[.none, .int (-1) u, .none] }, gg, dd, tt, oo⟩ :=
  slice_init_l (u2 := u) (s := ⟨hp, gg, dd, tt, oo⟩) F N hm ht hz h hs hg
theorem last_txt (N : News h₀ L s.heap led) (hm : (l, listOf vs.toArray n) ∈ led) (ht : TxtsAre vs a) (hz : a.length ≤ 1000000) (h0 : a ≠ []) (h : ∀ t', Q (.str (mk (a.getLastD [])) t') s)
    (hs : subscripted slice false (.ref l) (.int (-1) u) = operate [.ref l, .int (-1) u] (getItem (.ref l) (.int (-1) u)) := by with_unfolding_all rfl) (hg : ∀ r, letTemporaryGo value (.ref l) r = pure () := by intro _; with_unfolding_all rfl) :
    wpAny (model prog w) A (subscriptTail value slice (.ref l) (.int (-1) u)) Q E s := by
  have hp : 0 < a.length := List.length_pos_iff.mpr h0
  have hsz : vs.toArray.size = a.length := by rw [List.size_toArray, ht.len]
  have e : a[a.length - 1]? = some (a.getLastD []) := by
    rw [← List.getLast?_eq_getElem?, List.getLast?_eq_some_getLast h0, List.getLastD_eq_getLast?, List.getLast?_eq_some_getLast h0]; rfl
  obtain ⟨t, hx⟩ := ht.get e
  refine subscriptTail_builtin (PyProof.Rows.News.isList N hm).typeIs slot_list_getitem.lookup (wpAny_getItem_list_neg (N.isList hm) (by decide) (by rw [hsz]; omega) (by decide) ?_ (h t)) hs hg
  rw [hsz, show ((-1 : Int) + (a.length : Int)).toNat = a.length - 1 by omega]
  simpa using hx
end
end Nn
end
end
-- NnDecl
section
open PySem PySem.W PySem.Spec PySem.Calls PyProof.Rows PyProof.V
set_option maxRecDepth 100000
section
local macro_rules | `(tactic| omega) => `(tactic| k_extra "oNnDecl")
theorem Nn.oNnDecl : True := by
  (k_with "oNnDecl" => with_reducible (k_whole; first | k_extra "omega!" | ((show (_ : Nat) < _); first | exact Nn.q48 (by assumption) (by assumption) | fail) | ((show (_ : Nat) ≤ _); first | exact Nn.q38 (by assumption) | exact Nn.q39 (by assumption) | exact Nn.q40 (by assumption) | exact Nn.q41 (by assumption) (by assumption) (by assumption) | exact Nn.q44 (by assumption) (by assumption) (by assumption) (by assumption) (by assumption) | exact Nn.q45 (by assumption) | exact Nn.q46 (by assumption) | exact Nn.q47 (by assumption) | exact Nn.q49 (by assumption) (by assumption) | exact Nn.q50 (by assumption) | exact Nn.q51 (by assumption) (by assumption) | exact Nn.q53 (by assumption) (by assumption) | exact Nn.q55 (by assumption) | exact Nn.q58 (by assumption) (by assumption) (by assumption) (by assumption) (by assumption) | exact Nn.q59 (by assumption) | exact Nn.q61 (by assumption) | fail) | ((show (_ : Int) < _); first | exact Nn.q42 (by assumption) | exact Nn.q54 (by assumption) | exact Nn.q57 (by assumption) | fail) | ((show (_ : Int) ≤ _); first | exact Nn.q43 (by assumption) | exact Nn.q56 (by assumption) | fail) | ((show _ ∧ _); first | exact Nn.q52 (by assumption) | exact Nn.q60 | fail) | fail))
  trivial
namespace Nn
/-! ## The rows that a writer's text has -/
structure VR where
  path : List Nat
  wd : Int
  kd : List Nat
  nm : List Nat
noncomputable def VarsAre (news : List (Addr × Obj)) (vvs : List Value) (vs : List VR) : Prop := vvs.length = vs.length ∧ ∀ (i : Nat) (v : Value), vvs[i]? = some v → ∃ (a : Nat) (r : VR) (t1 t2 t3 t4 : Tok), vs[i]? = some r ∧ v = .ref a ∧ (a, tupO [.str (mk r.path) t1, .int r.wd t2, .str (mk r.kd) t3, .str (mk r.nm) t4]) ∈ news
theorem VarsAre.mono {n1 n2 : List (Addr × Obj)} {vvs : List Value} {vs : List VR} (h : VarsAre n1 vvs vs) (hs : ∀ p ∈ n1, p ∈ n2) : VarsAre n2 vvs vs := ⟨h.1, fun i v e => by
  obtain ⟨a, r, t1, t2, t3, t4, e1, e2, e3⟩ := h.2 i v e
  exact ⟨a, r, t1, t2, t3, t4, e1, e2, hs _ e3⟩⟩
noncomputable def upRow : List Nat := S "$upscope $end"
noncomputable def scopeRow (p : List Nat) : List Nat := S "$scope module " ++ p ++ S " $end"
noncomputable def numL (n : Int) : List Nat := (Str.ofString (toString n)).cps.toList
noncomputable def extentL (k : Int) : List Nat := if k > 1 then S " [" ++ numL (k - 1) ++ S ":0]" else []
noncomputable def wantedOf (r : VR) : List (List Nat) := (partsOf r.path).dropLast
noncomputable def varRow (r : VR) : List Nat := S "$var " ++ r.kd ++ S " " ++ numL r.wd ++ S " " ++ r.nm ++ S " " ++ (partsOf r.path).getLastD [] ++ extentL r.wd ++ S " $end"
noncomputable def declStep (sc : List (List Nat)) (r : VR) : List (List Nat) := List.replicate (sc.length - commonL sc (wantedOf r)) upRow ++ ((wantedOf r).drop (commonL sc (wantedOf r))).map scopeRow ++ [varRow r]
noncomputable def declF (p : List (List Nat) × List (List Nat)) (r : VR) : List (List Nat) × List (List Nat) := (wantedOf r, p.2 ++ declStep p.1 r)
structure VOk (r : VR) : Prop where
  pl : r.path.length ≤ 100
  np : (partsOf r.path).length ≤ 10
  ne : partsOf r.path ≠ []
  pp : ∀ p ∈ partsOf r.path, p.length ≤ 100
  w0 : 1 ≤ r.wd
  w1 : r.wd ≤ 1000
  kl : r.kd.length ≤ 100
  nl : r.nm.length ≤ 100
theorem VOk.wanted {r : VR} (h : VOk r) : (wantedOf r).length ≤ 10 := by
  have := h.np
  unfold wantedOf; rw [List.length_dropLast]; omega
theorem commonL_le : ∀ a b : List (List Nat), commonL a b ≤ a.length ∧ commonL a b ≤ b.length
  | [], b => by unfold commonL; exact ⟨Nat.zero_le _, Nat.zero_le _⟩
  | x :: r, [] => by unfold commonL; exact ⟨Nat.zero_le _, Nat.zero_le _⟩
  | x :: r, y :: s => by
    have := commonL_le r s
    unfold commonL
    rw [List.length_cons, List.length_cons]
    split <;> omega
theorem declF_le : ∀ (vs : List VR) (p : List (List Nat) × List (List Nat)), (∀ r ∈ vs, (wantedOf r).length ≤ 10) → p.1.length ≤ 10 → (vs.foldl declF p).1.length ≤ 10 ∧ (vs.foldl declF p).2.length ≤ p.2.length + 21 * vs.length
  | [], p, _, h => ⟨h, Nat.le_add_right _ _⟩
  | r :: vs, p, hr, h => by
    have hw := hr r (.head _)
    have := declF_le vs (declF p r) (fun r' h' => hr r' (.tail _ h')) hw
    rw [List.foldl_cons]
    refine ⟨this.1, Nat.le_trans this.2 ?_⟩
    have e : (declF p r).2.length ≤ p.2.length + 21 := by
      unfold declF declStep
      simp only [List.length_append, List.length_replicate, List.length_map, List.length_drop, List.length_singleton]
      omega
    rw [List.length_cons]; omega
noncomputable def declRows (vs : List VR) : List (List Nat) := (vs.foldl declF ([], [])).2 ++ List.replicate (vs.foldl declF ([], [])).1.length upRow
theorem getLastD_mem {x : List Nat} : ∀ {l : List (List Nat)}, l ≠ [] → l.getLastD x ∈ l := fun {l} h => by
  rw [List.getLastD_eq_getLast?, List.getLast?_eq_some_getLast h]; exact List.getLast_mem h
theorem numL_len {n : Int} (h0 : 0 ≤ n) (h : n < 10 ^ 16) : (numL n).length ≤ 16 := by
  obtain ⟨k, rfl⟩ := Int.eq_ofNat_of_zero_le h0
  unfold numL
  rw [KIN.signs_num, List.length_map]
  exact (Nat.length_toDigits_le_iff (by decide) (by decide)).mpr (by omega)
theorem numS_len {n : Int} (h0 : 0 ≤ n) (h : n < 10 ^ 16) : (Str.ofString (toString n)).length ≤ 16 := by
  have := numL_len h0 h
  rw [len_l]; exact this
theorem S_len (s : String) : (S s).length = s.length := by unfold S; rw [List.length_map]; exact String.length_toList
theorem varRow_len {r : VR} (h : VOk r) : (varRow r).length ≤ 400 := by
  have h1 := numL_len (n := r.wd) (by have := h.w0; omega) (by have := h.w1; omega)
  have h2 := numL_len (n := r.wd - 1) (by have := h.w0; omega) (by have := h.w1; omega)
  have h3 := h.kl
  have h4 := h.nl
  have h5 := h.pp _ (getLastD_mem (x := []) h.ne)
  have h6 : (extentL r.wd).length ≤ 21 := by
    unfold extentL
    split
    · rw [List.length_append, List.length_append, sl8, sl9]; omega
    · exact Nat.zero_le _
  unfold varRow
  simp only [List.length_append, sl12, sl2, sl6]
  omega
theorem declF_rows : ∀ (vs : List VR) (p : List (List Nat) × List (List Nat)), (∀ r ∈ vs, VOk r) → (∀ x ∈ p.2, x.length ≤ 400) → ∀ x ∈ (vs.foldl declF p).2, x.length ≤ 400
  | [], p, _, h => h
  | r :: vs, p, hr, h => by
    have hv := hr r (.head _)
    refine declF_rows vs (declF p r) (fun r' h' => hr r' (.tail _ h')) ?_
    intro x hx
    unfold declF declStep at hx
    dsimp only at hx
    rcases List.mem_append.mp hx with h1 | h1
    · exact h x h1
    · rcases List.mem_append.mp h1 with h2 | h2
      · rcases List.mem_append.mp h2 with h3 | h3
        · rw [List.eq_of_mem_replicate h3]; decide +kernel
        · obtain ⟨y, hy, rfl⟩ := List.mem_map.mp h3
          have := hv.pp y ((List.dropLast_sublist _).subset (List.mem_of_mem_drop hy))
          unfold scopeRow
          rw [List.length_append, List.length_append, sl7, sl6]; omega
      · rw [List.mem_singleton.mp h2]; exact varRow_len hv
theorem declRows_len {vs : List VR} (h : ∀ r ∈ vs, VOk r) : ∀ x ∈ declRows vs, x.length ≤ 400 := by
  intro x hx
  unfold declRows at hx
  rcases List.mem_append.mp hx with h1 | h1
  · exact declF_rows vs ([], []) h (fun _ h => nomatch h) x h1
  · rw [List.eq_of_mem_replicate h1]; decide +kernel
theorem declRows_num {vs : List VR} (h : ∀ r ∈ vs, VOk r) : (declRows vs).length ≤ 21 * vs.length + 10 := by
  have := declF_le vs ([], []) (fun r hr => (h r hr).wanted) (Nat.zero_le _)
  unfold declRows
  rw [List.length_append, List.length_replicate]
  have h2 := this.2
  rw [List.length_nil] at h2
  omega
theorem fl0 : Str.empty.length = 0 := rfl
theorem fl1 : (Str.ofString "$var ").length = 5 := by decide +kernel
theorem fl2 : (Str.ofString " ").length = 1 := by decide +kernel
theorem fl3 : (Str.ofString " $end").length = 5 := by decide +kernel
theorem fl4 : (Str.ofString " [").length = 2 := by decide +kernel
theorem fl5 : (Str.ofString ":0]").length = 3 := by decide +kernel
theorem fl6 : (Str.ofString "").length = 0 := by decide +kernel
/-! ## Changes -/
structure CR where
  tm : Int
  nm : List Nat
  wd : Int
  lo : Int
  hi : Int
structure COk (ns : List (List Nat × Int)) (c : CR) : Prop where
  t0 : 0 ≤ c.tm
  t1 : c.tm ≤ 10 ^ 15
  nl : c.nm.length ≤ 100
  w0 : 1 ≤ c.wd
  w1 : c.wd ≤ 1000
  lo0 : 0 ≤ c.lo
  hi0 : 0 ≤ c.hi
  known : wOf ns c.nm = some c.wd
noncomputable def ChsAre (news : List (Addr × Obj)) (cvs : List Value) (cs : List CR) : Prop := cvs.length = cs.length ∧ ∀ (i : Nat) (v : Value), cvs[i]? = some v → ∃ (a b : Nat) (r : CR) (t1 t2 t3 t4 t5 : Tok), cs[i]? = some r ∧ v = .ref a ∧ (a, tupO [.int r.tm t1, .str (mk r.nm) t2, .ref b]) ∈ news ∧ (b, tupO [.int r.wd t3, .int r.lo t4, .int r.hi t5]) ∈ news
theorem ChsAre.mono {n1 n2 : List (Addr × Obj)} {vvs : List Value} {vs : List CR} (h : ChsAre n1 vvs vs) (hs : ∀ p ∈ n1, p ∈ n2) : ChsAre n2 vvs vs := ⟨h.1, fun i v e => by
  obtain ⟨a, b, r, t1, t2, t3, t4, t5, e1, e2, e3, e4⟩ := h.2 i v e
  exact ⟨a, b, r, t1, t2, t3, t4, t5, e1, e2, hs _ e3, hs _ e4⟩⟩
noncomputable def timeRow (t : Int) : List Nat := S "#" ++ numL t
noncomputable def chStep (now : Int) (c : CR) : List (List Nat) := (if c.tm ≠ now then [timeRow c.tm] else []) ++ [rowL c.wd c.lo c.hi c.nm]
noncomputable def chF (p : Int × List (List Nat)) (c : CR) : Int × List (List Nat) := (c.tm, p.2 ++ chStep p.1 c)
theorem rowL_len {ns : List (List Nat × Int)} {c : CR} (h : COk ns c) : (rowL c.wd c.lo c.hi c.nm).length ≤ 1200 := by
  have h1 := bitsL_len c.lo c.hi c.wd c.wd.toNat
  have h2 := shortL_len (bitsL c.lo c.hi c.wd c.wd.toNat)
  have h3 := h.w1
  have h4 := h.nl
  unfold rowL
  split
  · rw [List.length_append]; omega
  · rw [List.length_append, List.length_append, List.length_append, sl1, sl2]; omega
theorem chStep_num (now : Int) (c : CR) : (chStep now c).length ≤ 2 := by
  unfold chStep
  split <;> simp
theorem chStep_len {ns : List (List Nat × Int)} {c : CR} (h : COk ns c) (now : Int) : ∀ x ∈ chStep now c, x.length ≤ 1200 := by
  intro x hx
  unfold chStep at hx
  rcases List.mem_append.mp hx with h1 | h1
  · split at h1
    · rw [List.mem_singleton.mp h1]
      have := numL_len h.t0 (by have := h.t1; omega)
      unfold timeRow
      rw [List.length_append, sl3]; omega
    · cases h1
  · rw [List.mem_singleton.mp h1]; exact rowL_len h
theorem chF_le {ns : List (List Nat × Int)} : ∀ (cs : List CR) (p : Int × List (List Nat)), (∀ c ∈ cs, COk ns c) → (∀ x ∈ p.2, x.length ≤ 1200) → (∀ x ∈ (cs.foldl chF p).2, x.length ≤ 1200) ∧ (cs.foldl chF p).2.length ≤ p.2.length + 2 * cs.length
  | [], p, _, h => ⟨h, Nat.le_add_right _ _⟩
  | c :: cs, p, hc, h => by
    have hv := hc c (.head _)
    have := chF_le cs (chF p c) (fun r' h' => hc r' (.tail _ h')) (by
      intro x hx
      unfold chF at hx
      rcases List.mem_append.mp hx with h1 | h1
      · exact h x h1
      · exact chStep_len hv _ x h1)
    rw [List.foldl_cons]
    refine ⟨this.1, Nat.le_trans this.2 ?_⟩
    have e : (chF p c).2.length ≤ p.2.length + 2 := by
      unfold chF
      have := chStep_num p.1 c
      rw [List.length_append]; omega
    rw [List.length_cons]; omega
/-! ## The text -/
noncomputable def headRows (sc : List Nat) (vs : List VR) : List (List Nat) := (S "$timescale " ++ sc ++ S " $end") :: declRows vs ++ [S "$enddefinitions $end"]
noncomputable def allRows (sc : List Nat) (vs : List VR) (cs : List CR) : List (List Nat) := (cs.foldl chF (-1, headRows sc vs)).2
noncomputable def joinN (rows : List (List Nat)) : List Nat := rows.flatMap (· ++ [10])
theorem joinN_eq : ∀ rows : List (List Nat), rows ≠ [] → Txt.join (Str.ofString "\n") (rows.map mk) ++ Str.ofString "\n" = mk (joinN rows) := by
  have hn : Str.ofString "\n" = mk [10] := by decide +kernel
  have h : ∀ rows : List (List Nat), rows ≠ [] → Str.join (Str.ofString "\n") (rows.map mk) ++ Str.ofString "\n" = mk (joinN rows) := by
    intro rows
    induction rows with
    | nil => intro h; exact absurd rfl h
    | cons a r ih =>
      intro _
      cases r with
      | nil =>
        show mk a ++ Str.ofString "\n" = _
        rw [hn, mk_app]; simp [joinN]
      | cons b t =>
        have ih := ih (by simp)
        show mk a ++ Str.ofString "\n" ++ Str.join (Str.ofString "\n") ((b :: t).map mk) ++ Str.ofString "\n" = _
        have assoc : ∀ x y z : Str, x ++ y ++ z = x ++ (y ++ z) := by
          intro x y z
          show (⟨x.cps ++ y.cps ++ z.cps⟩ : Str) = ⟨x.cps ++ (y.cps ++ z.cps)⟩
          rw [Array.append_assoc]
        rw [assoc (mk a ++ _), ih, hn, mk_app, mk_app]
        rfl
  intro rows hr
  unfold Txt.join
  rw [StrLaws.glued_eq_join]
  exact h rows hr
theorem sum_le {n : Nat} : ∀ {l : List (List Nat)}, (∀ x ∈ l, x.length ≤ n) → ((l.map mk).map (·.length)).sum ≤ l.length * n
  | [], _ => by simp
  | a :: r, h => by
    have := sum_le (l := r) (fun x hx => h x (.tail _ hx))
    have h2 := h a (.head _)
    simp only [List.map_cons, List.sum_cons, List.length_cons, mk_len]
    rw [Nat.succ_mul]; omega
theorem headRows_le {sc : List Nat} {vs : List VR} (hs : sc.length ≤ 1000) (h : ∀ r ∈ vs, VOk r) : (∀ x ∈ headRows sc vs, x.length ≤ 1200) ∧ (headRows sc vs).length ≤ 21 * vs.length + 12 := by
  constructor
  · intro x hx
    unfold headRows at hx
    rcases List.mem_append.mp hx with h1 | h1
    · rcases List.mem_cons.mp h1 with rfl | h2
      · rw [List.length_append, List.length_append, sl5, sl6]; omega
      · have := declRows_len h x h2; omega
    · rw [List.mem_singleton.mp h1]; decide +kernel
  · have := declRows_num h
    unfold headRows
    rw [List.length_append, List.length_cons, List.length_singleton]; omega
end Nn
end
end
-- P16
local macro_rules | `(tactic| kt_len) => `(tactic| k_extra "kt_len!")
theorem Nn.wP16 : True := by
  (k_with "subscriptTail!" => (k_here; (with_reducible show wpAny _ _ (subscriptTail _ _ (Value.ref _) (Value.int (-1) _)) _ _ _); k_dflt (refine' Nn.last_txt ?qdd4b9_N ?qdd4b9_m ?qdd4b9_t ?qdd4b9_z ?qdd4b9_e ?_ ?qdd4b9_hs ?qdd4b9_hg; (case qdd4b9_N => k_asm); (case qdd4b9_m => k_mem); (case qdd4b9_t => assumption); (case qdd4b9_z => omega); (case qdd4b9_e => assumption); (case qdd4b9_hs => with_unfolding_all rfl); (case qdd4b9_hg => (intro _; with_unfolding_all rfl))); intro _))
  (k_with "call ref!" => (k_here; (with_reducible show wpAny _ _ (call (Value.ref 173) _) _ _ _); skip; k_dflt (refine' Nn.common_s ?q70d89_B ?q70d89_F ?q70d89_X ?q70d89_T ?q70d89_hk ?q70d89_N ?q70d89_hu2 ?q70d89_hv2 ?q70d89_hus ?q70d89_hvs ?q70d89_hla ?q70d89_hlb ?q70d89_hd ?q70d89_hu ?_; (case q70d89_B => k_asm); (case q70d89_F => k_asm); (case q70d89_X => k_asm); (case q70d89_T => k_asm); (case q70d89_hk => first | exact rfl | assumption); (case q70d89_N => k_asm); (case q70d89_hu2 => k_mem); (case q70d89_hv2 => k_mem); (case q70d89_hus => assumption); (case q70d89_hvs => assumption); (case q70d89_hla => first | assumption | omega | (simp; omega)); (case q70d89_hlb => first | assumption | omega | (simp; omega)); (case q70d89_hd => ktr_room); (case q70d89_hu => ktr_units); k_whole); intro zzt' zzh' zztk' zzF' zzN'; (try dsimp only)))
  (k_with "subscriptTail Name Slice ref ref!" => (k_here; k_dflt (refine' Nn.slice_from_m ?q673a9_F ?q673a9_N ?q673a9_m ?q673a9_t ?q673a9_z ?q673a9_p ?_ ?q673a9_hs ?q673a9_hg; (case q673a9_F => k_asm); (case q673a9_N => k_asm); (case q673a9_m => k_mem); (case q673a9_t => assumption); (case q673a9_z => omega); (case q673a9_p => omega); (case q673a9_hs => with_unfolding_all rfl); (case q673a9_hg => (intro _; with_unfolding_all rfl))); intro zzd' zzws' zzh' zzF' zzN' zzht' zzlt'))
  (k_with "subscriptTail Name Slice ref ref!" => (k_here; k_dflt (refine' Nn.slice_init_m ?q8e0dc_F ?q8e0dc_N ?q8e0dc_m ?q8e0dc_t ?q8e0dc_z ?_ ?q8e0dc_hs ?q8e0dc_hg; (case q8e0dc_F => k_asm); (case q8e0dc_N => k_asm); (case q8e0dc_m => k_mem); (case q8e0dc_t => assumption); (case q8e0dc_z => omega); (case q8e0dc_hs => with_unfolding_all rfl); (case q8e0dc_hg => (intro _; with_unfolding_all rfl))); intro zzd' zzws' zzh' zzF' zzN' zzht' zzlt'))
  (k_with "exec For Tuple Name cons nil!" => (k_here; (rename Fr _ _ _ _ => zzlF'); (with_unfolding_all refine' For_invTF zzlF' ?qca24f_kh ?qca24f_ks; (case qca24f_ks => (intro _; rfl)); k_whole)))
  (k_with "kt_len!" => first | (with_reducible exact Nn.mkle (by assumption)) | (with_reducible assumption) | fail)
  (k_with "And!" => (k_here; (with_reducible show PySem.Str.length (_ ++ _) ≤ sizeLine ∧ wpAny _ _ (joinParts _ _) _ _ _); refine ⟨?q89248_ksz, ?_⟩; (case q89248_ksz => kt_le)))
  (k_with "joinParts!" => (k_here; (with_reducible refine PyProof.Rows.joinParts_nilE ?_); (with_reducible refine PyProof.Rows.joinParts_nil (hsz := ?qc271d_hsz) ?_); (case qc271d_hsz => kt_le)))
  trivial
namespace Nn
theorem mkle {l : List Nat} {n : Nat} (h : l.length ≤ n) : (mk l).length ≤ n := by rw [mk_len]; exact h
end Nn
section
local macro_rules | `(tactic| omega) => `(tactic| k_extra "oP16")
theorem Nn.oP16 : True := by
  (k_with "oP16" => with_reducible (k_whole; first | k_extra "omega!" | ((show (_ : Nat) ≤ _); first | exact Nn.q302 (by assumption) | exact Nn.q303 (by assumption) | exact Nn.q304 (by assumption) (by assumption) (by assumption) (by assumption) (by assumption) (by assumption) (by assumption) | exact Nn.q307 (by assumption) | exact Nn.q309 (by assumption) (by assumption) (by assumption) | exact Nn.q310 (by assumption) (by assumption) | exact Nn.q311 (by assumption) | exact Nn.q312 (by assumption) | exact Nn.q313 (by assumption) (by assumption) | exact Nn.q315 (by assumption) (by assumption) (by assumption) | exact Nn.q316 (by assumption) | exact Nn.q317 (by assumption) | exact Nn.q318 (by assumption) (by assumption) (by assumption) (by assumption) (by assumption) | exact Nn.q319 (by assumption) (by assumption) (by assumption) (by assumption) | exact Nn.q46 (by assumption) | exact Nn.q323 (by assumption) | exact Nn.q324 (by assumption) | fail) | ((show (_ : Int) < _); first | exact Nn.q305 (by assumption) (by assumption) | exact Nn.q306 (by assumption) (by assumption) (by assumption) (by assumption) | exact Nn.q314 (by assumption) (by assumption) (by assumption) | exact Nn.q322 (by assumption) (by assumption) (by assumption) | fail) | ((show (_ : Int) ≤ _); first | exact Nn.q308 (by assumption) | exact Nn.q320 (by assumption) (by assumption) | fail) | ((show (_ : Int) = _); first | exact Nn.q321 (by assumption) (by assumption) | fail) | fail))
  trivial
namespace Nn
theorem nmL2 {h₀ h : Heap} {L a b n k : Nat} {vs ws : List Value} {rest : List (Addr × Obj)} (_N : News h₀ L h ((a, listOf vs.toArray n) :: (b, listOf ws.toArray k) :: rest)) : ∃ (a' b' : Nat) (vs' ws' : List Value), a' = a ∧ b' = b ∧ vs' = vs ∧ ws' = ws := ⟨_, _, _, _, rfl, rfl, rfl, rfl⟩
theorem nmL1 {h₀ h : Heap} {L a n : Nat} {vs : List Value} {rest : List (Addr × Obj)} (_N : News h₀ L h ((a, listOf vs.toArray n) :: rest)) : ∃ (a' : Nat) (vs' : List Value), a' = a ∧ vs' = vs := ⟨_, _, rfl, rfl⟩
theorem nm2 {h₀ h : Heap} {L a b : Nat} {o1 o2 : Obj} {rest : List (Addr × Obj)} (_N : News h₀ L h ((a, o1) :: (b, o2) :: rest)) : ∃ (a' b' : Nat), a' = a ∧ b' = b := ⟨_, _, rfl, rfl⟩
theorem TxtsAre.snoc' {vs a} {X : Str} {x : List Nat} {t : Tok} (h : TxtsAre vs a) (e : X = mk x) : TxtsAre (vs ++ [.str X t]) (a ++ [x]) := by rw [e]; exact h.snoc
theorem numL_S (n : Int) : numL n = S (toString n) := by unfold numL; rw [lit_eq]
theorem emp_mk : Str.empty = mk [] := rfl
theorem var_text1 {r : VR} (h : r.wd > 1) : Str.empty ++ Str.ofString "$var " ++ mk r.kd ++ Str.ofString " " ++ Str.ofString (toString r.wd) ++ Str.ofString " " ++ mk r.nm ++ Str.ofString " " ++ mk ((partsBy (Str.ofString ".") r.path).getLastD []) ++ (Str.ofString " [" ++ Str.ofString (toString (r.wd - 1)) ++ Str.ofString ":0]") ++ Str.ofString " $end" = mk (varRow r) := by
  unfold varRow extentL
  rw [if_pos h]
  simp only [numL_S, lit_eq, emp_mk, mk_app, List.nil_append, List.append_assoc]
  rfl
theorem var_text2 {r : VR} (h : ¬ r.wd > 1) : Str.empty ++ Str.ofString "$var " ++ mk r.kd ++ Str.ofString " " ++ Str.ofString (toString r.wd) ++ Str.ofString " " ++ mk r.nm ++ Str.ofString " " ++ mk ((partsBy (Str.ofString ".") r.path).getLastD []) ++ Str.ofString "" ++ Str.ofString " $end" = mk (varRow r) := by
  unfold varRow extentL
  rw [if_neg h]
  simp only [numL_S, lit_eq, emp_mk, mk_app, List.nil_append, List.append_assoc, show S "" = [] from rfl]
  rfl
structure DR where
  sa : Nat
  sv : List Value
  sn : Nat
  rv : List Value
  rn : Nat
theorem decl_rows_s {w : World} {mean : ExcName → Option Value} {mg mb : Str → Option Value} {dp un : Nat} {gd : Option (List Code)} {cn : Str} {cs : Scope} {a : Addr} {ccd : Value} {cl : List (Str × Addr)} {outer : List Env} {A₀ : Around} {base h₀ : Heap} {L : Addr} {m : Str → Option Value} {news : List (Addr × Obj)} {s : Shared}
    {Q E : Value → Shared → Prop} {vl nv : Nat} {vvs : List Value} {vs : List VR}
    (B : Below A₀ base outer h₀) (F : Fr h₀ L s.heap m) (X : (K w.params).In h₀) (T : Top q looseN mean mg mb h₀) (hk : cs.kind = .function) (N : News h₀ L s.heap (news)) (hv : (vl, listOf vvs.toArray nv) ∈ news) (hvs : VarsAre news vvs vs) (hsm : vs.length ≤ 100) (hok : ∀ r ∈ vs, VOk r)
    (hd : dp + 30 < recursionLimit) (hu : un + 400 < cLine)
    (ret : ∀ d rv rn h' tk', TxtsAre rv (declRows vs) → Fr h₀ L h' m → News h₀ L h' ((d, listOf rv.toArray rn) :: news) → (∀ p ∈ news, p.1 < d) → Q (.ref d) { s with heap := h', toks := tk' }) :
    wpAny (model PySem.Challenge.rw_nn0316_01.prog w) (ktrTop dp un gd cn cs L a ccd cl outer) (call (.ref 180) [.ref vl]) Q E s := by
  refine wpAny_call ?_
  ktr_call [("variables", .ref vl)] ()
  k_steps
  rename Fr _ _ _ _ => F1
  rename News _ _ _ _ => N1
  rename (_ < _ ∧ AllLt _ _) => l1
  rename (∀ p : Addr × Obj, p ∈ news → p.1 < _) => l0
  obtain ⟨sa0, ra, e1, e2⟩ := nm2 N1
  subst e1 e2
  have l1 := l1.1
  refine go (listT (σ := DR) (fun c => (ra, listOf c.rv.toArray c.rn) :: (c.sa, listOf c.sv.toArray c.sn) :: news) (fun c => [(Str.ofString "scopes", .ref c.sa)])
    [Str.ofString "path", Str.ofString "width", Str.ofString "kind", Str.ofString "name"] [Str.ofString "path", Str.ofString "width", Str.ofString "kind", Str.ofString "name", Str.ofString "parts", Str.ofString "wanted", Str.ofString "kept", Str.ofString "_", Str.ofString "part", Str.ofString "extent"]
    (fun i c => ra < c.sa ∧ TxtsAre c.sv (((vs.take i).foldl declF ([], [])).1) ∧ TxtsAre c.rv (((vs.take i).foldl declF ([], [])).2)) ⟨sa0, [], 0, [], 0⟩ (by decide +kernel) rfl (fun _ => .tail _ (.tail _ hv)) F1 (news_sub N1 (l := (ra, listOf ([] : List Value).toArray 0) :: (sa0, listOf ([] : List Value).toArray 0) :: news) (by ksw_less)) (ag_cons rfl ag_nil) ⟨l1, TxtsAre.none, TxtsAre.none⟩ ?_ ?_)
  · rintro i v ⟨sa, sv, sn, rv, rn⟩ u s1 own hvi hJ ha F2 N3
    (repeat ((with_reducible show ∀ _, Nn.Cut _ _ → _); intro _ _))
    obtain ⟨va, r, t1, t2, t3, t4, hr, rfl, hmem⟩ := hvs.2 i v hvi
    clear F1 N1
    dsimp (config := {zetaDelta := true}) only [envOf] at F2 N3 hJ
    simp only [List.cons_append] at N3
    obtain ⟨hras, hsv, hrv⟩ := hJ
    have hv1 := hok r (List.mem_of_getElem? hr)
    have hb1 := hv1.pl
    have hb2 := hv1.w0
    have hb3 := hv1.w1
    have hb4 := hv1.kl
    have hb5 := hv1.nl
    have hown : ∀ p ∈ own, p.1 ≠ ra := ha.head
    have hn0 := ne_of_ltAll l0
    have hpl : (partsBy (Str.ofString ".") r.path).length ≤ 10 := hv1.np
    have hpne : partsBy (Str.ofString ".") r.path ≠ [] := hv1.ne
    have hwl : (partsBy (Str.ofString ".") r.path).dropLast.length ≤ 10 := by rw [List.length_dropLast]; omega
    have hpp : ∀ p ∈ partsBy (Str.ofString ".") r.path, p.length ≤ 100 := hv1.pp
    have hll : ((partsBy (Str.ofString ".") r.path).getLastD []).length ≤ 100 := hpp _ (getLastD_mem hpne)
    have hfl := declF_le (vs.take i) ([], []) (fun r' h' => (hok r' (List.mem_of_mem_take h')).wanted) (Nat.zero_le _)
    have hit : (vs.take i).length ≤ 100 := Nat.le_trans (List.length_take_le' _ _) hsm
    have hsl : ((vs.take i).foldl declF ([], [])).1.length ≤ 10 := hfl.1
    have hrl : rv.length ≤ 2100 := by rw [hrv.len]; have h2 := hfl.2; rw [List.length_nil] at h2; omega
    have hst : (vs.take (i + 1)).foldl declF ([], []) = declF ((vs.take i).foldl declF ([], [])) r := by rw [List.take_add_one, hr, List.foldl_append]; rfl
    clear hfl hit
    generalize hsc : ((vs.take i).foldl declF ([], [])).1 = scs at hsv hsl
    generalize hrs : ((vs.take i).foldl declF ([], [])).2 = rws at hrv
    change _ = ((partsBy (Str.ofString ".") r.path).dropLast, ((vs.take i).foldl declF ([], [])).2 ++ (List.replicate (((vs.take i).foldl declF ([], [])).1.length - commonL ((vs.take i).foldl declF ([], [])).1 (partsBy (Str.ofString ".") r.path).dropLast) upRow ++ ((partsBy (Str.ofString ".") r.path).dropLast.drop (commonL ((vs.take i).foldl declF ([], [])).1 (partsBy (Str.ofString ".") r.path).dropLast)).map scopeRow ++ [varRow r])) at hst
    rw [hsc, hrs] at hst
    have hcl : commonL scs (partsBy (Str.ofString ".") r.path).dropLast ≤ scs.length ∧ commonL scs (partsBy (Str.ofString ".") r.path).dropLast ≤ (partsBy (Str.ofString ".") r.path).dropLast.length := commonL_le _ _
    k_steps
    rename IsRange _ _ _ _ _ _ _ _ => rg
    rename Fr _ _ _ _ => F1
    rename News _ _ _ _ => N1
    generalize hkp : commonL scs (partsBy (Str.ofString ".") r.path).dropLast = kp at *
    rename TxtsAre _ (partsBy (Str.ofString ".") r.path) => htp
    rename TxtsAre _ (partsBy (Str.ofString ".") r.path).dropLast => htw
    rename (∀ p : Addr × Obj, p ∈ (ra, _) :: _ → p.1 < _) => lpa
    rename (∀ p : Addr × Obj, p ∈ (_, _) :: (ra, _) :: _ → p.1 < _) => lwa
    obtain ⟨wa, pa, wvs, pvs, e1, e2, e3, e4⟩ := nmL2 N1
    subst e1 e2 e3 e4
    have lrp : ra < pa := lpa _ (.head _)
    have lpw : pa < wa := lwa _ (.head _)
    have hzz : scs.length - kp ≤ 1000 := by omega
    refine go (rangeK (σ := List Value × Nat) (n := scs.length - kp) (fun c => (wa, listOf wvs.toArray 0) :: (pa, listOf pvs.toArray 0) :: (ra, listOf c.1.toArray c.2) :: (sa, listOf sv.toArray sn) :: (news ++ own)) (fun _ => []) [] (fun j c => TxtsAre c.1 (rws ++ List.replicate j upRow)) (rv, rn) rfl rg ?_ ?_ F1 N1 ag_nil (by simpa using hrv) ?_ ?_)
    · exact small_one (by omega) (by omega) (by omega) (by omega)
    · rw [rangeSize_nat]; omega
    · rintro j k t ⟨rv2, rn2⟩ u h tk own2 hki hj hJ ha2 F3 N3
      (repeat ((with_reducible show ∀ _, Nn.Cut _ _ → _); intro _ _))
      dsimp (config := {zetaDelta := true}) only [envOf] at F3 N3 hJ
      simp only [List.cons_append] at N3
      have hown2 : ∀ p ∈ own2, p.1 ≠ ra := ha2.ne (.tail _ (.tail _ (.head _)))
      have hz2 : rv2.length ≤ 4100 := by rw [hJ.len, List.length_append, List.length_replicate, ← hrv.len]; omega
      clear F1 N1
      k_steps
      rename Fr _ _ _ _ => F4
      rename News _ _ _ _ => N4
      rw [List.push_toArray, lit_eq] at N4
      refine GEnd.intro (rv2 ++ [_], rn2 + 1) F4 N4 (by ksw_less) (by ksw_less) ha2 ⟨ag_nil, by ksw_same⟩ ?_
      show TxtsAre (rv2 ++ [_]) _
      rw [List.replicate_succ', ← List.append_assoc]
      exact hJ.snoc
    · rintro ⟨rv2, rn2⟩ u h tk hJ F3 N3
      (repeat ((with_reducible show ∀ _, Nn.Cut _ _ → _); intro _ _))
      dsimp (config := {zetaDelta := true}) only [envOf] at F3 N3 hJ
      have hz2 : rv2.length ≤ 4100 := by rw [hJ.len, List.length_append, List.length_replicate, ← hrv.len]; omega
      clear F1 N1
      generalize hps : (partsBy (Str.ofString ".") r.path).dropLast = wts at *
      have hwp : ∀ p ∈ wts, p.length ≤ 100 := by
        intro p hp
        rw [← hps] at hp
        exact hpp p ((List.dropLast_sublist _).subset hp)
      k_steps
      rename Fr _ _ _ _ => F5
      rename News _ _ _ _ => N5
      rename TxtsAre _ (List.drop _ _) => htk
      rw [Int.toNat_natCast] at htk
      rename (∀ p : Addr × Obj, p ∈ (wa, _) :: _ → p.1 < _) => lka
      obtain ⟨ka, kws, e1, e2⟩ := nmL1 N5
      subst e1 e2
      have lwk : wa < ka := lka _ (.head _)
      refine go (listV (σ := List Value × Nat) (fun c => (ka, listOf kws.toArray 0) :: (wa, listOf wvs.toArray 0) :: (pa, listOf pvs.toArray 0) :: (ra, listOf c.1.toArray c.2) :: (sa, listOf sv.toArray sn) :: (news ++ own)) (fun _ => []) []
        (fun j c => TxtsAre c.1 (rws ++ List.replicate (scs.length - kp) upRow ++ ((wts.drop kp).take j).map scopeRow)) (rv2, rn2) rfl (fun _ => .head _) F5 N5 ag_nil (by simpa using hJ) ?_ ?_)
      · rintro j v ⟨rv3, rn3⟩ u h tk own3 hvj hJ2 ha3 F6 N6
        (repeat ((with_reducible show ∀ _, Nn.Cut _ _ → _); intro _ _))
        obtain ⟨x, tx, hx, rfl⟩ := htk.get' hvj
        dsimp (config := {zetaDelta := true}) only [envOf] at F6 N6 hJ2
        simp only [List.cons_append] at N6
        have hown3 : ∀ p ∈ own3, p.1 ≠ ra := ha3.ne (.tail _ (.tail _ (.tail _ (.head _))))
        have hz3 : rv3.length ≤ 5100 := by
          rw [hJ2.len, List.length_append, List.length_map, List.length_append, List.length_replicate, ← hrv.len]
          have h1 := List.length_take_le j (wts.drop kp)
          have h2 := @List.length_take_le' _ j (wts.drop kp)
          rw [List.length_drop] at h2
          omega
        have hxl : x.length ≤ 100 := hwp x (List.mem_of_mem_drop (List.mem_of_getElem? hx))
        clear F5 N5
        k_steps
        rename Fr _ _ _ _ => F4
        rename News _ _ _ _ => N4
        rw [List.push_toArray] at N4
        refine GEnd.intro (rv3 ++ [_], rn3 + 1) F4 N4 (by ksw_less) (by ksw_less) ha3 ⟨ag_nil, by ksw_same⟩ ?_
        show TxtsAre (rv3 ++ [_]) _
        rw [List.take_add_one, hx, List.map_append, ← List.append_assoc]
        exact hJ2.snoc
      · rintro ⟨rv3, rn3⟩ u h tk hJ2 F6 N6
        (repeat ((with_reducible show ∀ _, Nn.Cut _ _ → _); intro _ _))
        dsimp (config := {zetaDelta := true}) only [envOf] at F6 N6 hJ2
        have hz3 : rv3.length ≤ 5100 := by
          rw [hJ2.len, List.length_append, List.length_map, List.length_append, List.length_replicate, ← hrv.len]
          have h2 := @List.length_take_le' _ kws.length (wts.drop kp)
          rw [List.length_drop] at h2
          omega
        have hnw : (Str.ofString (toString r.wd)).length ≤ 16 := numS_len (by omega) (by omega)
        have hnw1 : (Str.ofString (toString (r.wd - 1))).length ≤ 16 := numS_len (by omega) (by omega)
        clear F5 N5
        k_steps
        all_goals
          rename Fr _ _ _ _ => F4
          rename News _ _ _ _ => N4
          rw [List.push_toArray] at N4
          have hkl : (wts.drop kp).take kws.length = wts.drop kp := by rw [htk.len]; exact List.take_length
          rw [hkl] at hJ2
          refine ⟨rfl, GEnd.intro (⟨wa, wvs, 0, rv3 ++ [_], rn3 + 1⟩ : DR) F4 N4 (by ksw_less) (by ksw_less) (Apart.cons ha.head (Apart.cons (fun p hp => Nat.ne_of_lt (lwa p (.tail _ (.tail _ (.tail _ (List.mem_append.mpr (.inr hp))))))) ha.tail.tail)) ⟨ag_cons rfl ag_nil, by ksw_same⟩ ⟨Nat.lt_trans lrp lpw, by rw [hst]; exact htw, ?_⟩⟩
          rw [hst]
          show TxtsAre (rv3 ++ [_]) (rws ++ (_ ++ [varRow r]))
          rw [← List.append_assoc, ← List.append_assoc]
          refine hJ2.snoc' ?_
        · exact var_text1 (by omega)
        · exact var_text2 (by omega)
  · rintro ⟨sa, sv, sn, rv, rn⟩ u h tk hJ F2 N2
    (repeat ((with_reducible show ∀ _, Nn.Cut _ _ → _); intro _ _))
    clear F1 N1
    obtain ⟨hras, hsv, hrv⟩ := hJ
    dsimp only at F2 N2 hras hsv hrv
    have et : vs.take vvs.length = vs := by rw [hvs.1]; exact List.take_length
    rw [et] at hsv hrv
    have hfl := declF_le vs ([], []) (fun r' h' => (hok r' h').wanted) (Nat.zero_le _)
    have hrl : rv.length ≤ 2100 := by rw [hrv.len]; have h2 := hfl.2; rw [List.length_nil] at h2; omega
    have hsl : sv.length ≤ 10 := by rw [hsv.len]; exact hfl.1
    have hdr : declRows vs = (vs.foldl declF ([], [])).2 ++ List.replicate sv.length upRow := by rw [hsv.len]; rfl
    clear hfl
    generalize (vs.foldl declF ([], [])).2 = rws at hrv hdr
    generalize (vs.foldl declF ([], [])).1 = scs at hsv
    k_steps
    rename Fr _ _ _ _ => F1
    rename News _ _ _ _ => N1
    refine go (listV (σ := List Value × Nat) (fun c => (ra, listOf c.1.toArray c.2) :: (sa, listOf sv.toArray sn) :: news) (fun _ => []) []
        (fun j c => TxtsAre c.1 (rws ++ List.replicate j upRow)) (rv, rn) rfl (fun _ => .tail _ (.head _)) F1 N1 ag_nil (by simpa using hrv) ?_ ?_)
    · rintro j v ⟨rv2, rn2⟩ u h tk own3 hvj hJ2 ha3 F6 N6
      (repeat ((with_reducible show ∀ _, Nn.Cut _ _ → _); intro _ _))
      have hji : j < sv.length := by
        rcases Nat.lt_or_ge j sv.length with h | h
        · exact h
        · rw [List.getElem?_eq_none h] at hvj; cases hvj
      obtain ⟨x, tx, hx, rfl⟩ := hsv.get' hvj
      dsimp (config := {zetaDelta := true}) only [envOf] at F6 N6 hJ2
      simp only [List.cons_append] at N6
      have hown3 : ∀ p ∈ own3, p.1 ≠ ra := ha3.head
      have hn0 := ne_of_ltAll l0
      have hz2 : rv2.length ≤ 4100 := by rw [hJ2.len, List.length_append, List.length_replicate, ← hrv.len]; omega
      clear F1 N1
      k_steps
      rename Fr _ _ _ _ => F4
      rename News _ _ _ _ => N4
      rw [List.push_toArray, lit_eq] at N4
      refine GEnd.intro (rv2 ++ [_], rn2 + 1) F4 N4 (by ksw_less) (by ksw_less) ha3 ⟨ag_nil, by ksw_same⟩ ?_
      show TxtsAre (rv2 ++ [_]) _
      rw [List.replicate_succ', ← List.append_assoc]
      exact hJ2.snoc
    · rintro ⟨rv2, rn2⟩ u h tk hJ2 F6 N6
      (repeat ((with_reducible show ∀ _, Nn.Cut _ _ → _); intro _ _))
      dsimp (config := {zetaDelta := true}) only [envOf] at F6 N6 hJ2
      clear F1 N1
      k_steps
      exact ret ra rv2 rn2 _ _ (by rw [hdr]; exact hJ2) (by k_asm) (news_sub (by k_asm) (by ksw_less)) l0
end Nn
end
-- NnRd
section
open PySem PySem.W PySem.Spec PySem.Calls PyProof.Rows PyProof.V
set_option maxRecDepth 100000
section
local macro_rules | `(tactic| omega) => `(tactic| k_extra "oNnRd")
theorem Nn.oNnRd : True := by
  (k_with "oNnRd" => with_reducible (k_whole; first | k_extra "omega!" | ((show (_ : Nat) ≤ _); first | exact Nn.q62 (by assumption) (by assumption) (by assumption) | exact Nn.q63 (by assumption) | exact Nn.q64 (by assumption) | exact Nn.q67 (by assumption) | fail) | ((show (_ : Nat) ≠ _); first | exact Nn.q65 (by assumption) | fail) | ((show (_ : Nat) = _); first | exact Nn.q66 (by assumption) (by assumption) | fail) | fail))
  trivial
namespace Nn
/-! ## The reader's objects -/
structure R5 (rdx rr sl vl wl : Nat) (news : List (Addr × Obj)) : Prop where
  c1 : rdx < rr
  c2 : rr < sl
  c3 : sl < vl
  c4 : vl < wl
  n1 : ∀ p ∈ news, p.1 ≠ rdx
  n2 : ∀ p ∈ news, p.1 ≠ sl
  n3 : ∀ p ∈ news, p.1 ≠ vl
  n4 : ∀ p ∈ news, p.1 ≠ wl
  n5 : (wl == sysModules) = false
noncomputable def joinBy (sep : Str) (xs : List (List Nat)) : List Nat := (Txt.join sep (xs.map mk)).cps.toList
theorem joinBy_eq (sep : Str) (xs : List (List Nat)) : Txt.join sep (xs.map mk) = mk (joinBy sep xs) := mk_eta _
noncomputable abbrev joinDot (xs : List (List Nat)) : List Nat := joinBy (Str.ofString ".") xs
noncomputable abbrev joinSp (xs : List (List Nat)) : List Nat := joinBy (Str.ofString " ") xs
section
variable {prog : Program} {w : World} {A : Around} {E : Value → Shared → Prop} {s : Shared} {d : Addr} {D : List (PyData × PyData)} {Q : Value → Shared → Prop} {x : Str} {t : Tok} {h₀ : Heap} {L : Addr} {m : Str → Option Value} {led : List (Addr × Obj)} 
theorem get2_none {k : Int} {u : Tok} (T : StrTab prog w s.heap d D) (hl : Spec.lookup (.str x) D = none) (h : ∀ t', Q (.int k t') { s with toks := s.toks + 1 }) :
    wpAny (model prog w) A (call (.builtin "dict.get") [.ref d, .str x t, .int k u]) Q E s :=
  call_get2_strTab T (Flat.int k u) fun v hv => by
    rw [hl] at hv
    obtain ⟨t', rfl⟩ := Flat.int_inv hv
    exact h t'
theorem add_txts {a b : Addr} {vs ws : List Value} {n k : Nat} (F : Fr h₀ L s.heap m) (N : News h₀ L s.heap led) (ha : (a, listOf vs.toArray n) ∈ led) (hb : (b, listOf ws.toArray k) ∈ led) (hz : vs.length + ws.length ≤ 100000)
    (h : ∀ (D : Nat) h', Fr h₀ L h' m → News h₀ L h' ((D, listOf (vs ++ ws).toArray 0) :: led) → (∀ p ∈ led, p.1 < D) → Q (.ref D) { s with heap := h' }) : wpAny (model prog w) A (binaryOp .Add (.ref a) (.ref b)) Q E s :=
  kmk_add_lit F N (N.isList ha) (N.isList hb) rfl h (by rw [sizeLine_eq]; simpa using by omega)
end
theorem TxtsAre.app {vs ws a b} (h : TxtsAre vs a) (k : TxtsAre ws b) : TxtsAre (vs ++ ws) (a ++ b) := by
  induction ws generalizing vs a b with
  | nil => cases b with
    | nil => simpa using h
    | cons y b => cases k
  | cons v ws ih => cases b with
    | nil => cases k
    | cons y b =>
      cases k with
      | cons _ t k => 
        have := ih (vs := vs ++ [.str (mk y) t]) (a := a ++ [y]) (b := b) h.snoc k
        simpa using this
theorem TxtsAre.one {y : List Nat} {t : Tok} : TxtsAre [.str (mk y) t] [y] := .cons _ _ .nil
theorem sum_le' {n : Nat} {l : List (List Nat)} (h : ∀ x ∈ l, x.length ≤ n) (k : Nat) (hk : l.length ≤ k) : ((l.map mk).map (·.length)).sum + (l.map mk).length ≤ k * n + k := by
  have := sum_le h
  have h2 : l.length * n ≤ k * n := Nat.mul_le_mul_right _ hk
  rw [List.length_map]; omega
end Nn
namespace Nn
theorem kl_last_app (y : Value) : ∀ p : List Value, kl_last (p ++ [y]) = some (p, y)
  | [] => rfl
  | [a] => rfl
  | a :: b :: r => by
    have h := kl_last_app y (b :: r)
    simp only [List.cons_append] at h ⊢
    unfold kl_last
    rw [h]
    
theorem pop_last {prog : Program} {w : World} {A : Around} {E : Value → Shared → Prop} {s : Shared} {h₀ : Heap} {L D n : Nat} {m : Str → Option Value} {news news' : List (Addr × Obj)} {p : List Value} {y : Value} {Q : Value → Shared → Prop} (F : Fr h₀ L s.heap m) (N : News h₀ L s.heap news) (U : Upd D (listOf (p ++ [y]).toArray n) (listOf p.toArray (n + 1)) news news')
    (hz : p.length ≤ 1000) (h : ∀ h', Fr h₀ L h' m → News h₀ L h' news' → Q y { s with heap := h' }) : wpAny (model prog w) A (call (.builtin "list.pop") [.ref D]) Q E s :=
  kl_pop F N (kl_last_app y p) U (by rw [sizeLine_eq]; simp; omega) h
theorem txts_last {vs : List Value} {a : List (List Nat)} (h : TxtsAre vs a) (ha : a ≠ []) : ∃ p y, vs = p ++ [y] ∧ TxtsAre p a.dropLast := by
  have hp : 0 < a.length := List.length_pos_iff.mpr ha
  have hv : vs ≠ [] := by intro e; subst e; have := h.len; simp at this; omega
  refine ⟨vs.dropLast, vs.getLast hv, (List.dropLast_concat_getLast hv).symm, ?_⟩
  rw [List.dropLast_eq_take, List.dropLast_eq_take, h.len]
  exact h.take _
/-! ## A command of the declarations -/
structure RS where
  sc : List Nat
  sp : List (List Nat)
  vs : List VR
  ns : List (List Nat × Int)
inductive Cmd (word : List Nat) (parts : List (List Nat)) : RS → RS → Prop
  | scale {sc sp vs ns} (h : word = S "$timescale") : Cmd word parts ⟨sc, sp, vs, ns⟩ ⟨joinSp parts, sp, vs, ns⟩
  | scope {sc sp vs ns} (h : word = S "$scope") (hp : parts.length = 2) : Cmd word parts ⟨sc, sp, vs, ns⟩ ⟨sc, sp ++ [parts.getD 1 []], vs, ns⟩
  | up {sc sp vs ns} (h : word = S "$upscope") (hs : sp ≠ []) : Cmd word parts ⟨sc, sp, vs, ns⟩ ⟨sc, sp.dropLast, vs, ns⟩
  | var {sc sp vs ns} (h : word = S "$var") (h4 : 4 ≤ parts.length) (hnum : numOk (parts.getD 1 []) = true) (hwd : 1 ≤ NumText.digitsVal (parts.getD 1 [])) (hnew : wOf ns (parts.getD 2 []) = none) :
      Cmd word parts ⟨sc, sp, vs, ns⟩ ⟨sc, sp, vs ++ [⟨joinDot (sp ++ [parts.getD 3 []]), ((NumText.digitsVal (parts.getD 1 []) : Nat) : Int), parts.getD 0 [], parts.getD 2 []⟩], ns ++ [(parts.getD 2 [], ((NumText.digitsVal (parts.getD 1 []) : Nat) : Int))]⟩
theorem VarsAre.snoc {news : List (Addr × Obj)} {vvs : List Value} {vs : List VR} (h : VarsAre news vvs vs) {a : Nat} {r : VR} {t1 t2 t3 t4 : Tok} (hm : (a, tupO [.str (mk r.path) t1, .int r.wd t2, .str (mk r.kd) t3, .str (mk r.nm) t4]) ∈ news) : VarsAre news (vvs ++ [.ref a]) (vs ++ [r]) := by
  refine ⟨by rw [List.length_append, List.length_append, h.1]; rfl, fun i v e => ?_⟩
  rw [List.getElem?_append] at e
  split at e
  · obtain ⟨a', r', u1, u2, u3, u4, e1, e2, e3⟩ := h.2 i v e
    refine ⟨a', r', u1, u2, u3, u4, ?_, e2, e3⟩
    rw [List.getElem?_append_left (by rw [← h.1]; assumption)]; exact e1
  · rename_i hi
    have h0 : i - vvs.length = 0 := by
      rcases Nat.eq_zero_or_pos (i - vvs.length) with h | h
      · exact h
      · rw [List.getElem?_eq_none (by rw [List.length_singleton]; omega)] at e; cases e
    rw [h0] at e
    cases e
    have hi2 : i = vs.length := by rw [← h.1]; omega
    exact ⟨a, r, t1, t2, t3, t4, by rw [hi2]; simp, rfl, hm⟩
theorem off_gt {d e : Nat} {l : List (Addr × Obj)} (h : ∀ p ∈ l, @LT.lt Nat _ e p.1) (he : d ≤ e) : ∀ p ∈ l, p.1 ≠ d := fun p hp e2 => by
  have := h p hp
  rw [e2] at this
  exact absurd this (Nat.not_lt.mpr he)
theorem cmd_facts {word ps st st'} (h : Cmd word ps st st') : (mk word != Str.ofString "$enddefinitions") = true ∧ (mk word == Str.ofString "") = false ∧ (Txt.item (mk word) 0 != Str.ofString "$") = false ∧ (mk word == Str.ofString "$end") = false ∧ 0 < word.length ∧ word.length ≤ 20 := by
  cases h with
  | scale h => subst h; decide +kernel
  | scope h => subst h; decide +kernel
  | up h => subst h; decide +kernel
  | var h => subst h; decide +kernel
structure RSOk (st : RS) : Prop where
  a : st.ns.length ≤ 1000
  b : st.vs.length ≤ 1000
  c : st.sp.length ≤ 100
  d : ∀ p ∈ st.sp, p.length ≤ 1000
inductive Decls (l : List Nat) : Nat → Nat → RS → Nat → RS → Prop
  | fin {p st ws a j} (h : wTok l p = S "$enddefinitions") (hu : Until l (wEnd l p) ws (some (a, j))) (hz : ws.length ≤ 100) : Decls l 0 p st j st
  | cmd {n p st st1 st2 ws a j e} (hu : Until l (wEnd l p) ws (some (a, j))) (hz : ws.length ≤ 100) (hp : ∀ x ∈ ws, x.length ≤ 500) (ho : RSOk st) (hc : Cmd (wTok l p) ws st st1) (hr : Decls l n j st1 e st2) : Decls l (n + 1) p st e st2
theorem Decls.elim {l : List Nat} {n p e : Nat} {st st' : RS} {P : Prop} (h : Decls l n p st e st')
    (hf : n = 0 → st = st' → wTok l p = S "$enddefinitions" → ∀ ws a, Until l (wEnd l p) ws (some (a, e)) → ws.length ≤ 100 → P)
    (hc : ∀ n1 st1 ws a j, n = n1 + 1 → Until l (wEnd l p) ws (some (a, j)) → ws.length ≤ 100 → (∀ x ∈ ws, x.length ≤ 500) → RSOk st → Cmd (wTok l p) ws st st1 → Decls l n1 j st1 e st' → P) : P := by
  cases h with
  | fin h hu hz => exact hf rfl rfl h _ _ hu hz
  | cmd hu hz hp ho hc' hr => exact hc _ _ _ _ _ rfl hu hz hp ho hc' hr
theorem until_le {l : List Nat} {i ws o} (h : Until l i ws o) : i ≤ l.length → ∀ a j, o = some (a, j) → j ≤ l.length := by
  induction h with
  | fin h => intro hi a j e; cases e; exact wEnd_le hi
  | miss h => intro hi a j e; cases e
  | more h1 h2 h ih => intro hi a j e; exact ih (wEnd_le hi) a j e
end Nn
end
end
-- P17
theorem Nn.wP17 : True := by
  (k_with "call ref!" => (k_here; (with_reducible show wpAny _ _ (call (Value.ref 222) _) _ _ _); k_dflt (refine' Nn.whole_number_s ?q38aab_B ?q38aab_F ?q38aab_X ?q38aab_T ?q38aab_hk ?q38aab_N ?q38aab_hl ?q38aab_hd ?q38aab_hu (fun zzhw zzt' zzh' zztk' zzF' zzN' => ?_) (fun zzhw zzg2 zze2 zzh2 zztk2 zzhs2 zzF2 zzR2 => ?_); (case q38aab_B => k_asm); (case q38aab_F => k_asm); (case q38aab_X => k_asm); (case q38aab_T => k_asm); (case q38aab_hk => first | exact rfl | assumption); (case q38aab_N => k_asm); (case q38aab_hl => first | assumption | omega); (case q38aab_hd => ktr_room); (case q38aab_hu => ktr_units); k_whole); (rotate_left 1); (first | (focus (exact Nn.no_tf (by assumption) zzhw)) | (focus (refine Nn.pass_on (by k_asm) zzF2 zzhs2 zzR2 ?_; intro zzh3 zzhs3 zzR3; (try dsimp only)))); (rotate_right 1); (first | (focus (exact Nn.no_tf zzhw (by assumption))) | (try dsimp only))))
  (k_with "call builtin:dict.get!" => (k_here; (with_reducible show wpAny _ _ (call (Value.builtin "dict.get") [Value.ref _, Value.str _ _, Value.int _ _]) _ _ _); k_dflt (refine' Nn.get2_none ?q20229_T ?q20229_hl ?_; (case q20229_T => k_tabat); (case q20229_hl => assumption)); intro _))
  (k_with "binaryOp Add ref ref!" => (k_here; k_dflt (refine' Nn.add_txts ?q7a3bf_F ?q7a3bf_N ?q7a3bf_a ?q7a3bf_b ?q7a3bf_z ?_; (case q7a3bf_F => k_asm); (case q7a3bf_N => k_asm); (case q7a3bf_a => k_mem); (case q7a3bf_b => k_mem); (case q7a3bf_z => (first | assumption | (simp; omega)))); intro zzd' zzh' zzF' zzN' zzlt'))
  trivial
section
local macro_rules | `(tactic| omega) => `(tactic| k_extra "oP17")
theorem Nn.oP17 : True := by
  (k_with "oP17" => with_reducible (k_whole; first | k_extra "omega!" | ((show (_ : Nat) ≤ _); first | exact Nn.q32 (by assumption) | exact Nn.q326 (by assumption) | exact Nn.q327 (by assumption) (by assumption) | exact Nn.q331 (by assumption) | exact Nn.q333 (by assumption) | exact Nn.q334 (by assumption) | fail) | ((show (_ : Nat) ≠ _); first | exact Nn.q288 (by assumption) (by assumption) (by assumption) (by assumption) | fail) | ((show (_ : Int) < _); first | exact Nn.q325 (by assumption) (by assumption) | exact Nn.q329 (by assumption) (by assumption) | exact Nn.q332 (by assumption) (by assumption) | exact Nn.q335 (by assumption) (by assumption) | fail) | ((show False); first | exact Nn.q328 (by assumption) (by assumption) (by assumption) | exact Nn.q330 (by assumption) (by assumption) | fail) | fail))
  trivial
namespace Nn
theorem nmA {h₀ h : Heap} {L a n : Nat} {vs : List Value} {y : Str} {t : Tok} {rest : List (Addr × Obj)} (_N : News h₀ L h ((a, listOf (vs ++ [(Value.str y t)]).toArray n) :: rest)) : ∃ t', t' = t := ⟨_, rfl⟩
theorem rd_variable_s {w : World} {mean : ExcName → Option Value} {mg mb : Str → Option Value} {dp un : Nat} {gd : Option (List Code)} {cn : Str} {cs : Scope} {a : Addr} {ccd : Value} {cl : List (Str × Addr)} {outer : List Env} {A₀ : Around} {base h₀ : Heap} {L : Addr} {m : Str → Option Value} {news : List (Addr × Obj)} {s : Shared}
    {Q E : Value → Shared → Prop} {rr rdx x sl vl wl ch ns1 nv : Nat} {svs vvs : List Value} {sc : List Nat} {sp : List (List Nat)} {o : Obj} {kvs : List (Str × Value)} {ns : List (List Nat × Int)} {now : Int} {k1 k2 k3 k4 k5 k6 k7 v2 v7 : Tok} {led r1 r2 r3 r4 : List (Addr × Obj)} {pa np : Nat} {pvs : List Value} {ps : List (List Nat)} {at0 : Int} {t1 : Tok}
    (B : Below A₀ base outer h₀) (F : Fr h₀ L s.heap m) (X : (K w.params).In h₀) (T : Top q looseN mean mg mb h₀) (hk : cs.kind = .function) (N : News h₀ L s.heap (led)) (p1 : Pick (rr, instObj 274 rdx) led r1) (p2 : Pick (rdx, dictOf [kE w "words" k1 (.ref x), kE w "scale" k2 (.str (mk sc) v2), kE w "scopes" k3 (.ref sl), kE w "variables" k4 (.ref vl), kE w "widths" k5 (.ref wl), kE w "changes" k6 (.ref ch), kE w "now" k7 (.int (now) v7)] 7) r1 r2) (p3 : Pick (sl, listOf svs.toArray ns1) r2 r3) (p4 : Pick (vl, listOf vvs.toArray nv) r3 r4) (p5 : Pick (wl, o) r4 news) (W : R5 rdx rr sl vl wl news) (hdo : o.IsDictOf (strKind PySem.Challenge.rw_nn0316_01.prog w) kvs) (hfo : FlatPairs PyData.str kvs (Dw ns)) (hnz : ns.length ≤ 1000) (hsv : TxtsAre svs sp) (hsl : sp.length ≤ 100) (hsp : ∀ p ∈ sp, p.length ≤ 1000) (hvz : vvs.length ≤ 1000)(hpl : (pa, listOf pvs.toArray np) ∈ news) (hps : TxtsAre pvs ps) (hpn : ps.length ≤ 100) (hpp : ∀ p ∈ ps, p.length ≤ 500) (h4 : 4 ≤ ps.length) (hnum : numOk (ps.getD 1 []) = true) (hwd : 1 ≤ NumText.digitsVal (ps.getD 1 [])) (hnew : wOf ns (ps.getD 2 []) = none)
    (hd : dp + 30 < recursionLimit) (hu : un + 400 < cLine)
    (ret : ∀ tp u1 u2 u3 u4 o' kvs' h' tk', Fr h₀ L h' m → News h₀ L h' ((tp, tupO [.str (mk (joinDot (sp ++ [ps.getD 3 []]))) u1, .int ((NumText.digitsVal (ps.getD 1 []) : Nat) : Int) u2, .str (mk (ps.getD 0 [])) u3, .str (mk (ps.getD 2 [])) u4]) :: (rr, instObj 274 rdx) :: (rdx, dictOf [kE w "words" k1 (.ref x), kE w "scale" k2 (.str (mk sc) v2), kE w "scopes" k3 (.ref sl), kE w "variables" k4 (.ref vl), kE w "widths" k5 (.ref wl), kE w "changes" k6 (.ref ch), kE w "now" k7 (.int (now) v7)] 7) :: (sl, listOf svs.toArray ns1) :: (vl, listOf (vvs ++ [Value.ref tp]).toArray (nv + 1)) :: (wl, o') :: news) → o'.IsDictOf (strKind PySem.Challenge.rw_nn0316_01.prog w) kvs' → FlatPairs PyData.str kvs' (Dw (ns ++ [(ps.getD 2 [], ((NumText.digitsVal (ps.getD 1 []) : Nat) : Int))])) → @LT.lt Nat _ wl tp → (∀ p ∈ news, p.1 < tp) → Q (.none) { s with heap := h', toks := tk' }) :
    wpAny (model PySem.Challenge.rw_nn0316_01.prog w) (ktrTop dp un gd cn cs L a ccd cl outer) (call (.ref 257) [.ref rr, .int at0 t1, .ref pa]) Q E s := by
  replace N := Pick.deep5 p1 p2 p3 p4 p5 N
  clear p1 p2 p3 p4 p5
  obtain ⟨c1, c2, c3, c4, m1, m2, m3, m4, m5⟩ := W
  refine wpAny_call ?_
  ktr_call [("self", .ref rr), ("at", .int at0 t1), ("parts", .ref pa)] ()
  have hg : ∀ i, (ps.getD i []).length ≤ 500 := by
    intro i
    rw [List.getD_eq_getElem?_getD]
    cases e : ps[i]? with
    | none => exact Nat.zero_le _
    | some y => exact hpp y (List.mem_of_getElem? e)
  have hg0 := hg 0
  have hg1 := hg 1
  have hg2 := hg 2
  have hg3 := hg 3
  have hlk := lookup_Dw (ps.getD 2 []) ns
  rw [hnew] at hlk
  replace hlk : Spec.lookup (.str (mk (ps.getD 2 []))) (Dw ns) = none := hlk
  have hg1' : (ps.getD (Int.toNat 1) []).length ≤ 600 := Nat.le_trans hg1 (by decide)
  have hnum' : numOk (ps.getD (Int.toNat 1) []) = true := hnum
  have hwd' : 1 ≤ NumText.digitsVal (ps.getD (Int.toNat 1) []) := hwd
  have hg0' : (ps.getD (Int.toNat 0) []).length ≤ 600 := Nat.le_trans hg0 (by decide)
  have hg2' : (ps.getD (Int.toNat 2) []).length ≤ 600 := Nat.le_trans hg2 (by decide)
  have hg3' : (ps.getD (Int.toNat 3) []).length ≤ 600 := Nat.le_trans hg3 (by decide)
  have hsz : svs.length ≤ 100 := by rw [hsv.len]; exact hsl
  k_steps
  · exact absurd rfl ‹((NumText.digitsVal (ps.getD (Int.toNat 1) []) : Nat) : Int) ≠ _›
  rename News _ _ _ _ => N1
  obtain ⟨jt, er⟩ := nmA N1
  have hjt : StrsAre (svs ++ [.str (mk (ps.getD (Int.toNat 3) [])) jt]) ((sp ++ [ps.getD (Int.toNat 3) []]).map mk) := hsv.app TxtsAre.one
  subst er
  rename (∀ p : Addr × Obj, p ∈ _ → p.1 < _) => lj
  have lj1 := lj (vl, listOf vvs.toArray nv) (by k_mem)
  dsimp only at lj1
  have hjs := sum_le' (n := 1000) (l := sp ++ [ps.getD (Int.toNat 3) []]) (by
    intro x hx
    rcases List.mem_append.mp hx with h | h
    · exact hsp x h
    · rw [List.mem_singleton.mp h]; omega) 101 (by rw [List.length_append, List.length_singleton]; omega)
  have hjz : (((sp ++ [ps.getD (Int.toNat 3) []]).map mk).map (·.length)).sum + ((sp ++ [ps.getD (Int.toNat 3) []]).map mk).length ≤ 1048576 := by omega
  have hjl : (Txt.join (Str.ofString ".") ((sp ++ [ps.getD (Int.toNat 3) []]).map mk)) = mk (joinDot (sp ++ [ps.getD 3 []])) := joinBy_eq _ _
  k_steps
  rename News h₀ _ _ _ => N3
  rename FlatPairs PyData.str _ (Dw (ns ++ _)) => hf3
  rename (_ < _ ∧ _ < _ ∧ rr < _ ∧ _) => la
  rw [List.push_toArray, hjl] at N3
  exact ret _ _ _ _ _ _ _ _ _ (by k_asm) (news_sub N3 (by ksw_less)) (by assumption) hf3 la.2.2.2.2.2.2.1 (allLt_of' la.2.2.2.2.2.2.2)
end Nn
end
-- P18
theorem Nn.wP18 : True := by
  (k_with "call ref!" => (k_here; (with_reducible show wpAny _ _ (call (Value.ref 103) _) _ _ _); skip; k_dflt (refine' Nn.lengthened_s ?qc5bfb_B ?qc5bfb_F ?qc5bfb_X ?qc5bfb_T ?qc5bfb_hk ?qc5bfb_N ?qc5bfb_hl ?qc5bfb_hw ?qc5bfb_hd ?qc5bfb_hu ?_; (case qc5bfb_B => k_asm); (case qc5bfb_F => k_asm); (case qc5bfb_X => k_asm); (case qc5bfb_T => k_asm); (case qc5bfb_hk => first | exact rfl | assumption); (case qc5bfb_N => k_asm); (case qc5bfb_hl => omega); (case qc5bfb_hw => omega); (case qc5bfb_hd => ktr_room); (case qc5bfb_hu => ktr_units); k_whole); intro zzt' zzh' zztk' zzF' zzN'; (try dsimp only)))
  (k_with "call ref!" => (k_here; (with_reducible show wpAny _ _ (call (Value.ref 75) _) _ _ _); skip; k_dflt (refine' Nn.from_text_s ?qf01e0_B ?qf01e0_F ?qf01e0_X ?qf01e0_T ?qf01e0_hk ?qf01e0_N ?qf01e0_hl ?qf01e0_hg ?qf01e0_hd ?qf01e0_hu ?_; (case qf01e0_B => k_asm); (case qf01e0_F => k_asm); (case qf01e0_X => k_asm); (case qf01e0_T => k_asm); (case qf01e0_hk => first | exact rfl | assumption); (case qf01e0_N => k_asm); (case qf01e0_hl => first | assumption | omega); (case qf01e0_hg => first | assumption); (case qf01e0_hd => ktr_room); (case qf01e0_hu => ktr_units); k_whole); intro zzp' zzt1' zzt2' zzt3' zzh' zztk' zzF' zzN' zzlt'; (try dsimp only)))
  trivial
section
local macro_rules | `(tactic| omega) => `(tactic| k_extra "oP18")
theorem Nn.oP18 : True := by
  (k_with "oP18" => with_reducible (k_whole; first | k_extra "omega!" | ((show (_ : Nat) ≤ _); first | exact Nn.q32 (by assumption) | exact Nn.q341 (by assumption) (by assumption) (by assumption) | exact Nn.q342 (by assumption) (by assumption) (by assumption) | exact Nn.q343 (by assumption) (by assumption) (by assumption) | fail) | ((show (_ : Nat) = _); first | exact Nn.q339 (by assumption) (by assumption) | fail) | ((show (_ : Int) < _); first | exact Nn.q270 (by assumption) (by assumption) | fail) | ((show _ ∧ _); first | exact Nn.q338 (by assumption) (by assumption) (by assumption) (by assumption) (by assumption) | fail) | ((show _ ∨ _); first | exact Nn.q337 (by assumption) | exact Nn.q340 (by assumption) (by assumption) (by assumption) | fail) | ((show False); first | exact Nn.q336 (by assumption) (by assumption) (by assumption) | exact Nn.q271 (by assumption) (by assumption) (by assumption) | fail) | fail))
  trivial
namespace Nn
theorem Pick.deep4 {a1 a2 a3 a4 led r1 r2 r3 r4} {h₀ h : Heap} {L : Addr} (p1 : Pick a1 led r1) (p2 : Pick a2 r1 r2) (p3 : Pick a3 r2 r3) (p4 : Pick a4 r3 r4) (N : News h₀ L h led) : News h₀ L h (a1 :: a2 :: a3 :: a4 :: r4) :=
  news_sub N fun p hp => p1.sub p (sub_cons (.head _) (sub_tail (fun p hp => p2.sub p (sub_cons (.head _) (sub_tail (fun p hp => p3.sub p (sub_cons (.head _) (sub_tail p4.sub) p hp))) p hp))) p hp)
noncomputable def isVal (n : Nat) : Bool := decide (n ∈ [48, 49, 120, 122, 88, 90])
theorem val_lit : Str.ofString "01xzXZ" = mk [48, 49, 120, 122, 88, 90] := by decide +kernel
theorem val_in (n : Nat) : (!(Builtin.Str.occurrences (Str.ofString "01xzXZ") ⟨#[n]⟩ 0 (Str.ofString "01xzXZ").length 1).isEmpty) = isVal n := by
  rw [StrLaws.found_one, val_lit]
  rfl
noncomputable def rcErr (ns : List (List Nat × Int)) (digits nm : List Nat) : Option Str := match wOf ns nm with
  | none => some (Str.ofString "unknown_id")
  | some w => if digits = [] ∨ w < digits.length then some (Str.ofString "wrong_width") else if digits.all isVal then none else some (Str.ofString "bad_digit")
noncomputable def wdD (ns : List (List Nat × Int)) (nm : List Nat) : Int := (wOf ns nm).getD 0
theorem lower_good {l : List Nat} (h : goodD l) : Txt.lower (mk l) = mk l := by
  refine PySem.W.KXs.lower_still ?_
  intro c hc
  rcases h c (by simpa using hc) with rfl | rfl | rfl | rfl <;> decide
theorem rd_change_s {w : World} {mean : ExcName → Option Value} {mg mb : Str → Option Value} {dp un : Nat} {gd : Option (List Code)} {cn : Str} {cs : Scope} {a : Addr} {ccd : Value} {cl : List (Str × Addr)} {outer : List Env} {A₀ : Around} {base h₀ : Heap} {L : Addr} {m : Str → Option Value} {news : List (Addr × Obj)} {s : Shared}
    {Q E : Value → Shared → Prop} {rr rdx x sl vl wl ch nc : Nat} {cvs : List Value} {sc : List Nat} {o : Obj} {kvs : List (Str × Value)} {ns : List (List Nat × Int)} {now : Int} {k1 k2 k3 k4 k5 k6 k7 v2 v7 : Tok} {led r1 r2 r3 : List (Addr × Obj)} {digits nm : List Nat} {at0 : Int} {t1 t2 t3 : Tok}
    (B : Below A₀ base outer h₀) (F : Fr h₀ L s.heap m) (X : (K w.params).In h₀) (T : Top q looseN mean mg mb h₀) (hk : cs.kind = .function) (N : News h₀ L s.heap (led)) (p1 : Pick (rr, instObj 274 rdx) led r1) (p2 : Pick (rdx, dictOf [kE w "words" k1 (.ref x), kE w "scale" k2 (.str (mk sc) v2), kE w "scopes" k3 (.ref sl), kE w "variables" k4 (.ref vl), kE w "widths" k5 (.ref wl), kE w "changes" k6 (.ref ch), kE w "now" k7 (.int (now) v7)] 7) r1 r2) (p3 : Pick (wl, o) r2 r3) (p4 : Pick (ch, listOf cvs.toArray nc) r3 news) (d1 : @LT.lt Nat _ rdx rr) (d2 : @LT.lt Nat _ rr wl) (d3 : @LT.lt Nat _ wl ch) (m1 : ∀ p ∈ news, p.1 ≠ ch) (d5 : (wl == sysModules) = false) (hdo : o.IsDictOf (strKind PySem.Challenge.rw_nn0316_01.prog w) kvs) (hfo : FlatPairs PyData.str kvs (Dw ns)) (hnz : ns.length ≤ 1000) (hcz : cvs.length ≤ 1000) (hdl : digits.length ≤ 100000) (hnl : nm.length ≤ 100000) (hns : ∀ k, wOf ns nm = some k → 1 ≤ k ∧ k ≤ 1000) (hgood : rcErr ns digits nm = none → goodD digits)
    (hd : dp + 40 < recursionLimit) (hu : un + 500 < cLine)
    (ret : rcErr ns digits nm = none → ∀ tp va u1 u2 u3 u4 u5 h' tk', Fr h₀ L h' m → News h₀ L h' ((tp, tupO [.int now u1, .str (mk nm) u2, .ref va]) :: (va, tupO [.int (wdD ns nm) u3, .int (lowT (longL digits (wdD ns nm).toNat)) u4, .int (highT (longL digits (wdD ns nm).toNat)) u5]) :: (rr, instObj 274 rdx) :: (rdx, dictOf [kE w "words" k1 (.ref x), kE w "scale" k2 (.str (mk sc) v2), kE w "scopes" k3 (.ref sl), kE w "variables" k4 (.ref vl), kE w "widths" k5 (.ref wl), kE w "changes" k6 (.ref ch), kE w "now" k7 (.int (now) v7)] 7) :: (wl, o) :: (ch, listOf (cvs ++ [Value.ref tp]).toArray (nc + 1)) :: news) → @LT.lt Nat _ ch va → @LT.lt Nat _ va tp → (∀ p ∈ news, p.1 < va) → Q (.none) { s with heap := h', toks := tk' })
    (exc : ∀ kd, rcErr ns digits nm = some kd → ∀ g e h' tk', g.UpToSlots h' → Fr h₀ L g m → Fly w base (envX cn cs L a ccd cl :: outer) e ((rr, instObj 274 rdx) :: (rdx, dictOf [kE w "words" k1 (.ref x), kE w "scale" k2 (.str (mk sc) v2), kE w "scopes" k3 (.ref sl), kE w "variables" k4 (.ref vl), kE w "widths" k5 (.ref wl), kE w "changes" k6 (.ref ch), kE w "now" k7 (.int (now) v7)] 7) :: (wl, o) :: (ch, listOf cvs.toArray nc) :: news) (kd) (at0) h' → E (.ref e) { s with heap := h', toks := tk' }) :
    wpAny (model PySem.Challenge.rw_nn0316_01.prog w) (ktrTop dp un gd cn cs L a ccd cl outer) (call (.ref 271) [.ref rr, .str (mk digits) t1, .str (mk nm) t2, .int at0 t3]) Q E s := by
  replace N := Pick.deep4 p1 p2 p3 p4 N
  clear p1 p2 p3 p4
  have hml : (mk digits).length = digits.length := mk_len digits
  refine wpAny_call ?_
  ktr_call [("self", .ref rr), ("digits", .str (mk digits) t1), ("name", .str (mk nm) t2), ("at", .int at0 t3)] ()
  have hlk := lookup_Dw nm ns
  cases hwo : wOf ns nm with
  | none =>
    rw [hwo] at hlk
    replace hlk : Spec.lookup (.str (mk nm)) (Dw ns) = none := hlk
    k_steps
    replace exc := exc (Str.ofString "unknown_id") (by unfold rcErr; rw [hwo])
    exact exc _ _ _ _ (by assumption) (by assumption) (Fly.sub (by assumption) (by ksw_less))
  | some wdt =>
    rw [hwo] at hlk
    replace hlk : Spec.lookup (.str (mk nm)) (Dw ns) = some (.int wdt) := hlk
    have hwb := hns wdt hwo
    obtain ⟨hwb1, hwb2⟩ := hwb
    obtain ⟨wn, rfl⟩ := Int.eq_ofNat_of_zero_le (Int.le_trans (by decide) hwb1)
    k_steps
    · replace exc := exc (Str.ofString "wrong_width") (by
        unfold rcErr; rw [hwo]; dsimp only
        rename (mk digits == Str.ofString "") = true => he
        rw [strNe] at he
        exact if_pos (Or.inl (of_decide_eq_true he)))
      exact exc _ _ _ _ (by assumption) (by assumption) (Fly.sub (by assumption) (by ksw_less))
    · replace exc := exc (Str.ofString "wrong_width") (by
        unfold rcErr; rw [hwo]; dsimp only
        rw [if_pos (Or.inr (by omega))])
      exact exc _ _ _ _ (by assumption) (by assumption) (Fly.sub (by assumption) (by ksw_less))
    rename (mk digits == Str.ofString "") = false => he
    rename ¬ (wn : Int) < _ => hlw
    have hnot : ¬ (digits = [] ∨ (wn : Int) < digits.length) := by
      rintro (h | h)
      · rw [h] at he; exact absurd he (by decide +kernel)
      · omega
    rename Fr _ _ _ _ => F1
    rename News _ _ _ _ => N1
    refine go (strV (σ := Unit) (fun _ => (rr, instObj 274 rdx) :: (rdx, dictOf [kE w "words" k1 (.ref x), kE w "scale" k2 (.str (mk sc) v2), kE w "scopes" k3 (.ref sl), kE w "variables" k4 (.ref vl), kE w "widths" k5 (.ref wl), kE w "changes" k6 (.ref ch), kE w "now" k7 (.int (now) v7)] 7) :: (wl, o) :: (ch, listOf cvs.toArray nc) :: news) (fun _ => []) [] (fun i _ => ∀ d ∈ digits.take i, isVal d = true) () rfl F1 N1 ag_nil (by simp) ?_ ?_)
    · intro i d t c u h tk own hd' hJ ha F2 N2
      (repeat ((with_reducible show ∀ _, Nn.Cut _ _ → _); intro _ _))
      clear F1 N1
      have hd2 : digits[i]? = some d := by simpa using hd'
      dsimp (config := {zetaDelta := true}) only [envOf] at F2 N2
      simp only [List.cons_append] at N2
      have hdi := val_in d
      k_steps
      · rename (_ : Bool) = true => he2
        rw [he2] at hdi
        have h2 : digits.all isVal = false := by rw [List.all_eq_false]; exact ⟨d, List.mem_of_getElem? hd2, by rw [← hdi]; decide⟩
        replace exc := exc (Str.ofString "bad_digit") (by
          unfold rcErr; rw [hwo]; dsimp only
          rw [if_neg hnot, h2]; rfl)
        exact exc _ _ _ _ (by assumption) (by assumption) (Fly.sub (by assumption) (by ksw_less))
      · rename (_ : Bool) = false => he2
        rw [he2] at hdi
        rename Fr _ _ _ _ => F3
        rename News _ _ _ _ => N3
        refine GEnd.intro () F3 N3 (by ksw_less) (by ksw_less) ha ⟨ag_nil, by ksw_same⟩ ?_
        intro d' hd3
        rw [List.take_add_one, hd2] at hd3
        rcases List.mem_append.mp hd3 with h | h
        · exact hJ _ h
        · rw [List.mem_singleton.mp h, ← hdi]; rfl
    · intro c u h tk hJ F2 N2
      (repeat ((with_reducible show ∀ _, Nn.Cut _ _ → _); intro _ _))
      clear F1 N1
      dsimp (config := {zetaDelta := true}) only [envOf] at F2 N2
      have hall : digits.all isVal = true := List.all_eq_true.mpr (fun d hd => hJ d (by rw [List.take_of_length_le (by simp)]; exact hd))
      have hno : rcErr ns digits nm = none := by
        unfold rcErr; rw [hwo]; dsimp only
        rw [if_neg hnot, hall]; rfl
      have hgd := hgood hno
      have hlow := lower_good hgd
      have hdpos : 0 < digits.length := by
        rcases digits with _ | ⟨a, r⟩
        · exact absurd (Or.inl rfl) hnot
        · exact Nat.succ_pos _
      k_steps
      rw [hlow]
      have hlg : goodD (longL digits wn) := by
        unfold longL extN
        intro d hd
        rcases List.mem_append.mp hd with h | h
        · have e := List.eq_of_mem_replicate h
          rcases digits with _ | ⟨a, r⟩
          · exact absurd (Or.inl rfl) hnot
          · have ha := hgd a (.head _)
            rw [List.headD_cons] at e
            split at e <;> omega
        · exact hgd d h
      have hll : (longL digits wn).length = wn := by
        unfold longL
        rw [List.length_append, List.length_replicate]; omega
      k_steps
      rename (∀ q : Addr × Obj, q ∈ (rr, _) :: _ → q.1 < _) => lq
      have lq1 := lq _ (.tail _ (.tail _ (.tail _ (.head _))))
      dsimp only at lq1
      k_steps
      rename News h₀ _ _ _ => N3
      have hwdD : wdD ns nm = wn := by unfold wdD; rw [hwo]; rfl
      simp only [hwdD, Int.toNat_natCast] at ret
      rw [hll, List.push_toArray] at N3
      rename (_ < _ ∧ rr < _ ∧ _) => la
      exact ret hno _ _ _ _ _ _ _ _ _ (by k_asm) (news_sub N3 (by ksw_less)) lq1 la.1 (fun p hp => lq p (.tail _ (.tail _ (.tail _ (.tail _ hp)))))
end Nn
end
-- P19
theorem Nn.wP19 : True := by
  (k_with "call ref!" => (k_here; (with_reducible show wpAny _ _ (call (Value.ref 211) _) _ _ _); skip; k_dflt (refine' Nn.wordrow_new ?qcd366_B ?qcd366_F ?qcd366_X ?qcd366_T ?qcd366_hk ?qcd366_N  ?qcd366_hd ?qcd366_hu ?_; (case qcd366_B => k_asm); (case qcd366_F => k_asm); (case qcd366_X => k_asm); (case qcd366_T => k_asm); (case qcd366_hk => first | exact rfl | assumption); (case qcd366_N => k_asm); (case qcd366_hd => ktr_room); (case qcd366_hu => ktr_units); k_whole); intro zzx' zzdx' zzt1' zzt2' zzt3' zzt4' zzt5' zzt6' zzh' zztk' zzF' zzN' zzl1' zzl2'; (try dsimp only)))
  trivial
section
local macro_rules | `(tactic| omega) => `(tactic| k_extra "oP19")
theorem Nn.oP19 : True := by
  (k_with "oP19" => with_reducible (k_whole; first | k_extra "omega!" | ((show (_ : Nat) < _); first | exact Nn.q344 (by assumption) | exact Nn.q345 (by assumption) | fail) | fail))
  trivial
namespace Nn
theorem reader_new {w : World} {mean : ExcName → Option Value} {mg mb : Str → Option Value} {dp un : Nat} {gd : Option (List Code)} {cn : Str} {cs : Scope} {a : Addr} {ccd : Value} {cl : List (Str × Addr)} {outer : List Env} {A₀ : Around} {base h₀ : Heap} {L : Addr} {m : Str → Option Value} {news : List (Addr × Obj)} {s : Shared}
    {Q E : Value → Shared → Prop} {l : List Nat} {t0 : Tok}
    (B : Below A₀ base outer h₀) (F : Fr h₀ L s.heap m) (X : (K w.params).In h₀) (T : Top q looseN mean mg mb h₀) (hk : cs.kind = .function) (N : News h₀ L s.heap (news)) (hl : l.length ≤ 100000)
    (hd : dp + 40 < recursionLimit) (hu : un + 600 < cLine)
    (ret : ∀ rr rdx x dx sl vl wl ch k1 k2 k3 k4 k5 k6 k7 v2 v7 t1 t2 t3 t4 t5 t6 o h' tk', Fr h₀ L h' m → News h₀ L h' ((rr, instObj 274 rdx) :: (rdx, dictOf [kE w "words" k1 (.ref x), kE w "scale" k2 (.str (mk []) v2), kE w "scopes" k3 (.ref sl), kE w "variables" k4 (.ref vl), kE w "widths" k5 (.ref wl), kE w "changes" k6 (.ref ch), kE w "now" k7 (.int (0) v7)] 7) :: (x, instObj 211 dx) :: (dx, dictOf [kE w "text" t1 (.str (mk l) t2), kE w "place" t3 (.int 0 t4), kE w "at" t5 (.int 0 t6)] 3) :: (sl, listOf #[] 0) :: (vl, listOf #[] 0) :: (wl, o) :: (ch, listOf #[] 0) :: news) → (∀ p ∈ news, p.1 < rdx) → @LT.lt Nat _ rdx rr → @LT.lt Nat _ rr dx → @LT.lt Nat _ dx x → @LT.lt Nat _ x sl → @LT.lt Nat _ sl vl → @LT.lt Nat _ vl wl → @LT.lt Nat _ wl ch → o.IsDictOf (strKind PySem.Challenge.rw_nn0316_01.prog w) [] → FlatPairs PyData.str [] [] → (wl == sysModules) = false → Q (.ref rr) { s with heap := h', toks := tk' }) :
    wpAny (model PySem.Challenge.rw_nn0316_01.prog w) (ktrTop dp un gd cn cs L a ccd cl outer) (call (.ref 274) [.str (mk l) t0]) Q E s := by
  refine call_cls F X N (by k_is) (by k_is) (by k_is) fun x dx h' F' N' l1 l2 => ?_
  clear F N
  have n1 := ne_of_ltAll l1
  ktr_call [("self", .ref x), ("text", .str (mk l) t0)] ()
  k_steps
  rename (∀ p : Addr × Obj, p ∈ (x, _) :: _ → p.1 < _) => lq
  have lq1 := lq _ (.head _)
  have lq2 := lq _ (.tail _ (.head _))
  dsimp only at lq1 lq2
  k_steps
  rename News h₀ _ _ _ => N3
  rename Obj.IsDictOf (strKind _ _) _ _ => hd1
  rename FlatPairs PyData.str _ _ => hf1
  have e0 : Str.ofString "" = mk [] := by decide +kernel
  rw [e0] at N3
  rename (_ < _ ∧ _ < _ ∧ x < _ ∧ dx < _ ∧ AllLt _ _) => la
  rename (_ < _ ∧ _ < _ ∧ _ < _ ∧ x < _ ∧ dx < _ ∧ AllLt _ _) => lb
  rename (_ < _ ∧ _ < _ ∧ _ < _ ∧ _ < _ ∧ x < _ ∧ dx < _ ∧ AllLt _ _) => lc
  rename (_ < _ ∧ _ < _ ∧ _ < _ ∧ _ < _ ∧ _ < _ ∧ x < _ ∧ dx < _ ∧ AllLt _ _) => ld
  exact ret _ _ _ _ _ _ _ _ _ _ _ _ _ _ _ _ _ _ _ _ _ _ _ _ _ _ (by k_asm) (news_sub N3 (by ksw_less)) l1 l2 lq1 (by assumption) la.1 lb.1 lc.1 ld.1 hd1 hf1 (by assumption)
end Nn
end
-- P20
theorem Nn.wP20 : True := by
  (k_with "less20!" => first | exact Nn.sub_refl | exact Nn.sub_nil | assumption | (refine Nn.sub_cons (by k_mem) ?_; k_extra "less20!") | (refine Nn.sub_app ?_ ?_ <;> k_extra "less20!") | (refine Nn.sub_tail ?_; k_extra "less20!") | (refine Nn.sub_l ?_; k_extra "less20!") | (refine Nn.sub_r ?_; k_extra "less20!"))
  (k_with "call ref!" => (k_here; (with_reducible show wpAny _ _ (call (Value.ref 257) _) _ _ _); skip; k_dflt (refine' Nn.rd_variable_s ?q2ac41_B ?q2ac41_F ?q2ac41_X ?q2ac41_T ?q2ac41_hk ?q2ac41_N ?q2ac41_p1 ?q2ac41_p2 ?q2ac41_p3 ?q2ac41_p4 ?q2ac41_p5 ?q2ac41_W ?q2ac41_hdo ?q2ac41_hfo ?q2ac41_hnz ?q2ac41_hsv ?q2ac41_hsl ?q2ac41_hsp ?q2ac41_hvz ?q2ac41_hpl ?q2ac41_hps ?q2ac41_hpn ?q2ac41_hpp ?q2ac41_h4 ?q2ac41_hnum ?q2ac41_hwd ?q2ac41_hnew ?q2ac41_hd ?q2ac41_hu ?_; (case q2ac41_B => k_asm); (case q2ac41_F => k_asm); (case q2ac41_X => k_asm); (case q2ac41_T => k_asm); (case q2ac41_hk => first | exact rfl | assumption); (case q2ac41_N => k_asm); (case q2ac41_p1 => lcg_sub); (case q2ac41_p2 => lcg_sub); (case q2ac41_p3 => lcg_sub); (case q2ac41_p4 => lcg_sub); (case q2ac41_p5 => lcg_sub); (case q2ac41_W => assumption); (case q2ac41_hdo => assumption); (case q2ac41_hfo => assumption); (case q2ac41_hnz => assumption); (case q2ac41_hsv => assumption); (case q2ac41_hsl => assumption); (case q2ac41_hsp => assumption); (case q2ac41_hvz => assumption); (case q2ac41_hpl => assumption); (case q2ac41_hps => assumption); (case q2ac41_hpn => assumption); (case q2ac41_hpp => assumption); (case q2ac41_h4 => assumption); (case q2ac41_hnum => assumption); (case q2ac41_hwd => assumption); (case q2ac41_hnew => assumption); (case q2ac41_hd => ktr_room); (case q2ac41_hu => ktr_units); k_whole); intro zztp' zzu1' zzu2' zzu3' zzu4' zzo' zzkvs' zzh' zztk' zzF' zzN' zzhd' zzhf' zzlt1' zzlt2'; (try dsimp only)))
  (k_with "call builtin:list.pop!" => (k_here; (with_reducible show wpAny _ _ (call (Value.builtin _) [Value.ref _]) _ _ _); k_dflt (refine' Nn.pop_last ?q79c2a_F ?q79c2a_N ?q79c2a_U ?q79c2a_z ?_; (case q79c2a_F => k_asm); (case q79c2a_N => k_asm); (case q79c2a_U => k_upd); (case q79c2a_z => first | assumption | omega)); intro zzh' zzF' zzN'; (try dsimp only [List.nil_append, List.cons_append] at zzN')))
  trivial
section
local macro_rules | `(tactic| omega) => `(tactic| k_extra "oP20")
theorem Nn.oP20 : True := by
  (k_with "oP20" => with_reducible (k_whole; first | k_extra "omega!" | ((show (_ : Nat) ≤ _); first | exact Nn.q346 (by assumption) | exact Nn.q347 (by assumption) | exact Nn.q302 (by assumption) | exact Nn.q351 (by assumption) | exact Nn.q352 (by assumption) (by assumption) | fail) | ((show (_ : Nat) ≠ _); first | exact Nn.q292 (by assumption) (by assumption) (by assumption) (by assumption) | fail) | ((show (_ : Int) < _); first | exact Nn.q349 (by assumption) | fail) | ((show (_ : Int) ≠ _); first | exact Nn.q350 (by assumption) (by assumption) | fail) | ((show False); first | exact Nn.q348 (by assumption) (by assumption) | fail) | fail))
  trivial
namespace Nn
theorem rd_command_s {w : World} {mean : ExcName → Option Value} {mg mb : Str → Option Value} {dp un : Nat} {gd : Option (List Code)} {cn : Str} {cs : Scope} {a : Addr} {ccd : Value} {cl : List (Str × Addr)} {outer : List Env} {A₀ : Around} {base h₀ : Heap} {L : Addr} {m : Str → Option Value} {news : List (Addr × Obj)} {s : Shared}
    {Q E : Value → Shared → Prop} {rr rdx x sl vl wl ch ns1 nv : Nat} {svs vvs : List Value} {o : Obj} {kvs : List (Str × Value)} {now : Int} {k1 k2 k3 k4 k5 k6 k7 v2 v7 : Tok} {led r1 r2 r3 r4 : List (Addr × Obj)} {pa np : Nat} {pvs : List Value} {word : List Nat} {ps : List (List Nat)} {at0 : Int} {t1 t2 : Tok} {st st' : RS} {vn : List (Addr × Obj)}
    (B : Below A₀ base outer h₀) (F : Fr h₀ L s.heap m) (X : (K w.params).In h₀) (T : Top q looseN mean mg mb h₀) (hk : cs.kind = .function) (N : News h₀ L s.heap (led)) (p1 : Pick (rr, instObj 274 rdx) led r1) (p2 : Pick (rdx, dictOf [kE w "words" k1 (.ref x), kE w "scale" k2 (.str (mk st.sc) v2), kE w "scopes" k3 (.ref sl), kE w "variables" k4 (.ref vl), kE w "widths" k5 (.ref wl), kE w "changes" k6 (.ref ch), kE w "now" k7 (.int (now) v7)] 7) r1 r2) (p3 : Pick (sl, listOf svs.toArray ns1) r2 r3) (p4 : Pick (vl, listOf vvs.toArray nv) r3 r4) (p5 : Pick (wl, o) r4 news) (W : R5 rdx rr sl vl wl news) (hdo : o.IsDictOf (strKind PySem.Challenge.rw_nn0316_01.prog w) kvs) (hfo : FlatPairs PyData.str kvs (Dw st.ns)) (hnz : st.ns.length ≤ 1000) (hsv : TxtsAre svs st.sp) (hsl : st.sp.length ≤ 100) (hsp : ∀ p ∈ st.sp, p.length ≤ 1000) (hvz : vvs.length ≤ 1000)(hpl : (pa, listOf pvs.toArray np) ∈ news) (hps : TxtsAre pvs ps) (hpn : ps.length ≤ 100) (hpp : ∀ p ∈ ps, p.length ≤ 500) (hva : VarsAre vn vvs st.vs) (hcmd : Cmd word ps st st') (hch : ∃ oc, (ch, oc) ∈ news)
    (hd : dp + 40 < recursionLimit) (hu : un + 600 < cLine)
    (ret : ∀ ext svs' ns1' vvs' nv' o' kvs' u2 h' tk', Fr h₀ L h' m → News h₀ L h' ((rr, instObj 274 rdx) :: (rdx, dictOf [kE w "words" k1 (.ref x), kE w "scale" k2 (.str (mk st'.sc) u2), kE w "scopes" k3 (.ref sl), kE w "variables" k4 (.ref vl), kE w "widths" k5 (.ref wl), kE w "changes" k6 (.ref ch), kE w "now" k7 (.int (now) v7)] 7) :: (sl, listOf svs'.toArray ns1') :: (vl, listOf vvs'.toArray nv') :: (wl, o') :: (news ++ ext)) → TxtsAre svs' st'.sp → VarsAre (vn ++ ext) vvs' st'.vs → o'.IsDictOf (strKind PySem.Challenge.rw_nn0316_01.prog w) kvs' → FlatPairs PyData.str kvs' (Dw st'.ns) → (∀ p ∈ ext, @LT.lt Nat _ ch p.1) → Q (.none) { s with heap := h', toks := tk' }) :
    wpAny (model PySem.Challenge.rw_nn0316_01.prog w) (ktrTop dp un gd cn cs L a ccd cl outer) (call (.ref 250) [.ref rr, .str (mk word) t1, .int at0 t2, .ref pa]) Q E s := by
  replace N := Pick.deep5 p1 p2 p3 p4 p5 N
  clear p1 p2 p3 p4 p5
  have W0 := W
  obtain ⟨c1, c2, c3, c4, m1, m2, m3, m4, m5⟩ := W
  have hjs := sum_le' hpp 100 hpn
  have hjz : ((ps.map mk).map (·.length)).sum + (ps.map mk).length ≤ 1048576 := by omega
  have hjt : StrsAre pvs (ps.map mk) := hps
  have hjl : (Txt.join (Str.ofString " ") (ps.map mk)) = mk (joinSp ps) := joinBy_eq _ _
  have hsvl : svs.length ≤ 100 := by rw [hsv.len]; exact hsl
  refine wpAny_call ?_
  ktr_call [("self", .ref rr), ("word", .str (mk word) t1), ("at", .int at0 t2), ("parts", .ref pa)] ()
  cases hcmd with
  | scale hw =>
    subst hw
    dsimp only at *
    k_steps
    rename News h₀ _ _ _ => N3
    rw [hjl] at N3
    exact ret [] _ _ _ _ _ _ _ _ _ (by k_asm) (news_sub N3 (by k_extra "less20!")) hsv (by rw [List.append_nil]; exact hva) hdo hfo (fun _ h => nomatch h)
  | scope hw hp2 =>
    subst hw
    dsimp only at *
    have hp1 : (ps.getD (Int.toNat 1) []) = ps.getD 1 [] := rfl
    k_steps
    · exfalso; omega
    rename News h₀ _ _ _ => N3
    rw [List.push_toArray] at N3
    exact ret [] _ _ _ _ _ _ _ _ _ (by k_asm) (news_sub N3 (by k_extra "less20!")) hsv.snoc (by rw [List.append_nil]; exact hva) hdo hfo (fun _ h => nomatch h)
  | up hw hs =>
    subst hw
    dsimp only at *
    have hs0 : 0 < _ := List.length_pos_iff.mpr hs
    obtain ⟨p, y, rfl, hp⟩ := txts_last hsv hs
    have hpz : p.length ≤ 1000 := by rw [List.length_append] at hsvl; omega
    k_steps
    · exfalso; omega
    rename News h₀ _ _ _ => N3
    exact ret [] _ _ _ _ _ _ _ _ _ (by k_asm) (news_sub N3 (by k_extra "less20!")) hp (by rw [List.append_nil]; exact hva) hdo hfo (fun _ h => nomatch h)
  | var hw h4 hnum hwd hnew =>
    subst hw
    dsimp only at *
    k_steps
    rename News h₀ _ _ _ => N3
    rename FlatPairs PyData.str _ (Dw (_ ++ _)) => hf3
    rename (∀ p : Addr × Obj, p ∈ news → p.1 < _) => lw
    obtain ⟨oc, hc⟩ := hch
    exact ret [(_, _)] _ _ _ _ _ _ _ _ _ (by k_asm) (news_sub N3 (by k_extra "less20!")) hsv ((hva.mono (fun p hp => List.mem_append.mpr (.inl hp))).snoc (List.mem_append.mpr (.inr (.head _)))) (by assumption) hf3 (fun p hp => by rw [List.mem_singleton.mp hp]; exact lw _ hc)
end Nn
end
-- P21
theorem Nn.wP21 : True := by
  (k_with "call ref!" => (k_here; (with_reducible show wpAny _ _ (call (Value.ref 208) _) _ _ _); k_dflt (refine' Nn.until_end_s ?qa2cf3_B ?qa2cf3_F ?qa2cf3_X ?qa2cf3_T ?qa2cf3_hk ?qa2cf3_N ?qa2cf3_p1 ?qa2cf3_p2 ?qa2cf3_hl ?qa2cf3_hp ?qa2cf3_hx ?qa2cf3_hn ?qa2cf3_hws ?qa2cf3_hwl ?qa2cf3_hd ?qa2cf3_hu (fun zza2 zzj2 zzho2 zzfl2 zzvs2 zznn2 zzu4 zzu6 zzh2 zztk2 zzhs2 zzF2 zzN2 zzlx2 zzld2 zzlt2 => ?_) (fun zzho2 zzg2 zze2 zzh2 zztk2 zzhs2 zzF2 zzR2 => ?_); (case qa2cf3_B => k_asm); (case qa2cf3_F => k_asm); (case qa2cf3_X => k_asm); (case qa2cf3_T => k_asm); (case qa2cf3_hk => first | exact rfl | assumption); (case qa2cf3_N => k_asm); (case qa2cf3_p1 => lcg_sub); (case qa2cf3_p2 => lcg_sub); (case qa2cf3_hl => assumption); (case qa2cf3_hp => first | assumption | omega); (case qa2cf3_hx => k_ne); (case qa2cf3_hn => krn_off); (case qa2cf3_hws => assumption); (case qa2cf3_hwl => first | assumption | omega); (case qa2cf3_hd => ktr_room); (case qa2cf3_hu => ktr_units); k_whole); (rotate_left 1); (first | (focus (cases zzho2; done)) | (focus (refine Nn.pass_on (by k_asm) zzF2 zzhs2 zzR2 ?_; intro zzh3 zzhs3 zzR3; (try dsimp only)))); (rotate_right 1); (first | (focus (cases zzho2; done)) | (cases zzho2; (have zzhts2 : Nn.TxtsAre _ _ := zzhs2); (try k_lt zzlt2); (try dsimp only)))))
  (k_with "call ref!" => (k_here; (with_reducible show wpAny _ _ (call (Value.ref 250) _) _ _ _); k_dflt (refine' Nn.rd_command_s ?qbcb9c_B ?qbcb9c_F ?qbcb9c_X ?qbcb9c_T ?qbcb9c_hk ?qbcb9c_N ?qbcb9c_p1 ?qbcb9c_p2 ?qbcb9c_p3 ?qbcb9c_p4 ?qbcb9c_p5 ?qbcb9c_W ?qbcb9c_hdo ?qbcb9c_hfo ?qbcb9c_hnz ?qbcb9c_hsv ?qbcb9c_hsl ?qbcb9c_hsp ?qbcb9c_hvz ?qbcb9c_hpl ?qbcb9c_hps ?qbcb9c_hpn ?qbcb9c_hpp ?qbcb9c_hva ?qbcb9c_hcmd ?qbcb9c_hch ?qbcb9c_hd ?qbcb9c_hu ?_; (case qbcb9c_hcmd => assumption); (case qbcb9c_B => k_asm); (case qbcb9c_F => k_asm); (case qbcb9c_X => k_asm); (case qbcb9c_T => k_asm); (case qbcb9c_hk => first | exact rfl | assumption); (case qbcb9c_N => k_asm); (case qbcb9c_p1 => lcg_sub); (case qbcb9c_p2 => lcg_sub); (case qbcb9c_p3 => lcg_sub); (case qbcb9c_p4 => lcg_sub); (case qbcb9c_p5 => lcg_sub); (case qbcb9c_hdo => assumption); (case qbcb9c_hfo => assumption); (case qbcb9c_W => exact Nn.R5.mk (by omega) (by omega) (by omega) (by omega) (by krn_off) (by krn_off) (by krn_off) (by krn_off) (by assumption)); (case qbcb9c_hnz => assumption); (case qbcb9c_hsv => assumption); (case qbcb9c_hsl => assumption); (case qbcb9c_hsp => assumption); (case qbcb9c_hvz => assumption); (case qbcb9c_hpl => k_mem); (case qbcb9c_hps => assumption); (case qbcb9c_hpn => assumption); (case qbcb9c_hpp => assumption); (case qbcb9c_hva => assumption); (case qbcb9c_hch => exact ⟨_, by k_mem⟩); (case qbcb9c_hd => ktr_room); (case qbcb9c_hu => ktr_units); k_whole); intro zzext2 zzsvs2 zzns2 zzvvs2 zznv2 zzo2 zzkvs2 zzu2 zzh2 zztk2 zzF2 zzN2 zzhsv2 zzhva2 zzhdo2 zzhfo2 zzhlt2; (simp only [List.cons_append] at zzN2)))
  (k_with "krn_off!" => first | (refine' Nn.off_gt ?q9c738_ogh ?q9c738_oge; (case q9c738_ogh => assumption); (case q9c738_oge => omega)) | fail)
  trivial
section
local macro_rules | `(tactic| omega) => `(tactic| k_extra "oP21")
theorem Nn.oP21 : True := by
  (k_with "oP21" => with_reducible (k_whole; first | k_extra "omega!" | ((show (_ : Nat) < _); first | exact Nn.q362 (by assumption) (by assumption) (by assumption) | fail) | ((show (_ : Nat) ≤ _); first | exact Nn.q356 (by assumption) | exact Nn.q357 (by assumption) (by assumption) | exact Nn.q358 (by assumption) (by assumption) (by assumption) (by assumption) (by assumption) | exact Nn.q359 (by assumption) (by assumption) (by assumption) (by assumption) (by assumption) (by assumption) (by assumption) | exact Nn.q360 (by assumption) (by assumption) (by assumption) | fail) | ((show (_ : Nat) ≠ _); first | exact Nn.q292 (by assumption) (by assumption) (by assumption) (by assumption) | exact Nn.q354 (by assumption) (by assumption) (by assumption) | exact Nn.q298 (by assumption) (by assumption) | exact Nn.q355 (by assumption) (by assumption) | exact Nn.q299 (by assumption) (by assumption) (by assumption) | exact Nn.q288 (by assumption) (by assumption) (by assumption) (by assumption) | fail) | ((show (_ : Int) < _); first | exact Nn.q353 (by assumption) (by assumption) | fail) | ((show (_ : Int) ≤ _); first | exact Nn.q361 | fail) | fail))
  trivial
namespace Nn
theorem Pick.deep7 {a1 a2 a3 a4 a5 a6 a7 led r1 r2 r3 r4 r5 r6 r7} {h₀ h : Heap} {L : Addr} (p1 : Pick a1 led r1) (p2 : Pick a2 r1 r2) (p3 : Pick a3 r2 r3) (p4 : Pick a4 r3 r4) (p5 : Pick a5 r4 r5) (p6 : Pick a6 r5 r6) (p7 : Pick a7 r6 r7) (N : News h₀ L h led) : News h₀ L h (a1 :: a2 :: a3 :: a4 :: a5 :: a6 :: a7 :: r7) :=
  news_sub (Pick.deep5 p1 p2 p3 p4 p5 N) (sub_cons (.head _) (sub_tail (sub_cons (.head _) (sub_tail (sub_cons (.head _) (sub_tail (sub_cons (.head _) (sub_tail (sub_cons (.head _) (sub_tail (fun p hp => p6.sub p (sub_cons (.head _) (sub_tail p7.sub) p hp))))))))))))
structure DS where
  n : Nat
  p : Nat
  st : RS
  svs : List Value
  ns1 : Nat
  vvs : List Value
  nv : Nat
  o : Obj
  kvs : List (Str × Value)
  ext : List (Addr × Obj)
  tw : Tok
  v2 : Tok
  u4 : Tok
  u6 : Tok
structure DOk (prog : Program) (w : World) (l : List Nat) (vn : List (Addr × Obj)) (ch : Nat) (e : Nat) (st' : RS) (c : DS) : Prop where
  d : Decls l c.n c.p c.st e st'
  sv : TxtsAre c.svs c.st.sp
  va : VarsAre (vn ++ c.ext) c.vvs c.st.vs
  hd : c.o.IsDictOf (strKind prog w) c.kvs
  hf : FlatPairs PyData.str c.kvs (Dw c.st.ns)
  lt : ∀ p ∈ c.ext, @LT.lt Nat _ ch p.1
  hp : c.p ≤ l.length
theorem rd_decls_s {w : World} {mean : ExcName → Option Value} {mg mb : Str → Option Value} {dp un : Nat} {gd : Option (List Code)} {cn : Str} {cs : Scope} {a : Addr} {ccd : Value} {cl : List (Str × Addr)} {outer : List Env} {A₀ : Around} {base h₀ : Heap} {L : Addr} {m : Str → Option Value} {news : List (Addr × Obj)} {s : Shared}
    {Q E : Value → Shared → Prop} {rr rdx x dx sl vl wl ch : Nat} {l sc0 : List Nat} {o : Obj} {at0 now : Int} {k1 k2 k3 k4 k5 k6 k7 v2 v7 t1 t2 t3 t4 t5 t6 : Tok} {led r1 r2 r3 r4 r5 r6 vn : List (Addr × Obj)} {e n p0 : Nat} {st0 st' : RS} {oc : Obj} {svs vvs : List Value} {kvs : List (Str × Value)} {ns1 nv : Nat}
    (B : Below A₀ base outer h₀) (F : Fr h₀ L s.heap m) (X : (K w.params).In h₀) (T : Top q looseN mean mg mb h₀) (hk : cs.kind = .function) (N : News h₀ L s.heap (led)) (p1 : Pick (rr, instObj 274 rdx) led r1) (p2 : Pick (rdx, dictOf [kE w "words" k1 (.ref x), kE w "scale" k2 (.str (mk st0.sc) v2), kE w "scopes" k3 (.ref sl), kE w "variables" k4 (.ref vl), kE w "widths" k5 (.ref wl), kE w "changes" k6 (.ref ch), kE w "now" k7 (.int (now) v7)] 7) r1 r2) (p3 : Pick (x, instObj 211 dx) r2 r3) (p4 : Pick (dx, dictOf [kE w "text" t1 (.str (mk l) t2), kE w "place" t3 (.int p0 t4), kE w "at" t5 (.int at0 t6)] 3) r3 r4) (p5 : Pick (sl, listOf svs.toArray ns1) r4 r5) (p6 : Pick (vl, listOf vvs.toArray nv) r5 r6) (p7 : Pick (wl, o) r6 news) (c1 : rdx < rr) (c2 : rr < dx) (c3 : dx < x) (c4 : x < sl) (c5 : sl < vl) (c6 : vl < wl) (m1 : ∀ p ∈ news, p.1 ≠ rdx) (m2 : ∀ p ∈ news, p.1 ≠ dx) (m3 : ∀ p ∈ news, p.1 ≠ sl) (m4 : ∀ p ∈ news, p.1 ≠ vl) (m5 : ∀ p ∈ news, p.1 ≠ wl) (m6 : (wl == sysModules) = false) (c7 : wl < ch) (hch : (ch, oc) ∈ news) (hl : l.length ≤ 100000) (hp0 : p0 ≤ l.length) (hsv : TxtsAre svs st0.sp) (hva : VarsAre vn vvs st0.vs) (hdo : o.IsDictOf (strKind PySem.Challenge.rw_nn0316_01.prog w) kvs) (hfo : FlatPairs PyData.str kvs (Dw st0.ns)) (hD : Decls l n p0 st0 e st')
    (hd : dp + 60 < recursionLimit) (hu : un + 900 < cLine)
    (ret : ∀ a ext svs' ns1' vvs' nv' o' kvs' u2 u4 u6 h' tk', Fr h₀ L h' m → News h₀ L h' ((rr, instObj 274 rdx) :: (rdx, dictOf [kE w "words" k1 (.ref x), kE w "scale" k2 (.str (mk st'.sc) u2), kE w "scopes" k3 (.ref sl), kE w "variables" k4 (.ref vl), kE w "widths" k5 (.ref wl), kE w "changes" k6 (.ref ch), kE w "now" k7 (.int (now) v7)] 7) :: (x, instObj 211 dx) :: (dx, dictOf [kE w "text" t1 (.str (mk l) t2), kE w "place" t3 (.int e u4), kE w "at" t5 (.int (a : Nat) u6)] 3) :: (sl, listOf svs'.toArray ns1') :: (vl, listOf vvs'.toArray nv') :: (wl, o') :: (news ++ ext)) → TxtsAre svs' st'.sp → VarsAre (vn ++ ext) vvs' st'.vs → o'.IsDictOf (strKind PySem.Challenge.rw_nn0316_01.prog w) kvs' → FlatPairs PyData.str kvs' (Dw st'.ns) → (∀ p ∈ ext, @LT.lt Nat _ ch p.1) → e ≤ l.length → Q (.none) { s with heap := h', toks := tk' }) :
    wpAny (model PySem.Challenge.rw_nn0316_01.prog w) (ktrTop dp un gd cn cs L a ccd cl outer) (call (.ref 243) [.ref rr]) Q E s := by
  replace N := Pick.deep7 p1 p2 p3 p4 p5 p6 p7 N
  clear p1 p2 p3 p4 p5 p6 p7
  refine wpAny_call ?_
  ktr_call [("self", .ref rr)] ()
  k_steps
  rename Fr _ _ _ _ => F1
  rename News _ _ _ _ => N1
  refine go (whileX (σ := DS) (fun c => (rr, instObj 274 rdx) :: (rdx, dictOf [kE w "words" k1 (.ref x), kE w "scale" k2 (.str (mk c.st.sc) c.v2), kE w "scopes" k3 (.ref sl), kE w "variables" k4 (.ref vl), kE w "widths" k5 (.ref wl), kE w "changes" k6 (.ref ch), kE w "now" k7 (.int (now) v7)] 7) :: (x, instObj 211 dx) :: (dx, dictOf [kE w "text" t1 (.str (mk l) t2), kE w "place" t3 (.int (wEnd l c.p) c.u4), kE w "at" t5 (.int (wAt l c.p) c.u6)] 3) :: (sl, listOf c.svs.toArray c.ns1) :: (vl, listOf c.vvs.toArray c.nv) :: (wl, c.o) :: (news ++ c.ext)) (fun c => [(Str.ofString "word", .str (mk (wTok l c.p)) c.tw)]) [Str.ofString "at"]
    (DOk PySem.Challenge.rw_nn0316_01.prog w l vn ch e st') (fun c => DOk PySem.Challenge.rw_nn0316_01.prog w l vn ch e st' c ∧ c.n = 0) (fun c => c.n)
    ⟨n, p0, st0, svs, ns1, vvs, nv, o, kvs, [], _, v2, _, _⟩ F1 (news_sub N1 (l := (rr, instObj 274 rdx) :: (rdx, dictOf [kE w "words" k1 (.ref x), kE w "scale" k2 (.str (mk st0.sc) v2), kE w "scopes" k3 (.ref sl), kE w "variables" k4 (.ref vl), kE w "widths" k5 (.ref wl), kE w "changes" k6 (.ref ch), kE w "now" k7 (.int (now) v7)] 7) :: (x, instObj 211 dx) :: (dx, dictOf [kE w "text" t1 (.str (mk l) t2), kE w "place" t3 (.int (wEnd l p0) _), kE w "at" t5 (.int (wAt l p0) _)] 3) :: (sl, listOf svs.toArray ns1) :: (vl, listOf vvs.toArray nv) :: (wl, o) :: (news ++ [])) (by ksw_less)) (ag_cons rfl ag_nil) ⟨hD, hsv, by rw [List.append_nil]; exact hva, hdo, hfo, (fun _ h => nomatch h), hp0⟩ ?_ ?_)
  · rintro ⟨n, p, st, svs, ns1, vvs, nv, o, kvs, ext, tw, v2, u4, u6⟩ u h tk hJ F2 N2
    (repeat ((with_reducible show ∀ _, Nn.Cut _ _ → _); intro _ _))
    clear F1 N1
    obtain ⟨hD, hsv, hva, hdo, hfo, hext, hp⟩ := hJ
    dsimp only at hD hsv hva hdo hfo hext hp F2 N2
    have q1 : ∀ p ∈ news ++ ext, p.1 ≠ rdx := off_app m1 (off_gt hext (by omega))
    have q2 : ∀ p ∈ news ++ ext, p.1 ≠ dx := off_app m2 (off_gt hext (by omega))
    have q3 : ∀ p ∈ news ++ ext, p.1 ≠ sl := off_app m3 (off_gt hext (by omega))
    have q4 : ∀ p ∈ news ++ ext, p.1 ≠ vl := off_app m4 (off_gt hext (by omega))
    have q5 : ∀ p ∈ news ++ ext, p.1 ≠ wl := off_app m5 (off_gt hext (by omega))
    refine hD.elim ?_ ?_
    · intro hn0 hst h ws ea hu hz
      have f1 : (mk (wTok l p) != Str.ofString "$enddefinitions") = false := by rw [h]; decide +kernel
      k_steps
      rename Fr _ _ _ _ => F3
      rename News _ _ _ _ => N3
      exact WExit.intro (⟨n, p, _, svs, ns1, vvs, nv, o, kvs, ext, tw, v2, u4, u6⟩ : DS) F3 N3 (by ksw_less) ⟨ag_cons rfl ag_nil, by ksw_same⟩ ⟨⟨hD, hsv, hva, hdo, hfo, hext, hp⟩, hn0⟩
    · intro n1 st1 ws ea ej hn hu hz hpp ho hc hr
      obtain ⟨f1, f2, f3, f4, f5, f6⟩ := cmd_facts hc
      obtain ⟨ho1, ho2, ho3, ho4⟩ := ho
      have hvl : vvs.length ≤ 1000 := by rw [hva.1]; exact ho2
      have hjl := until_le hu (wEnd_le hp) _ _ rfl
      have hchn : (ch, oc) ∈ news ++ ext := List.mem_append.mpr (.inl hch)
      generalize hnw : news ++ ext = nw at *
      have hpe := wEnd_le hp
      k_steps
      rename Fr _ _ _ _ => F3
      rename News _ _ _ _ => N3
      rename TxtsAre _ _ => hsv2
      rename VarsAre _ _ _ => hva2
      replace hva2 : VarsAre (vn ++ ext ++ _) _ _ := hva2
      rename Obj.IsDictOf _ _ _ => hdo2
      rename FlatPairs PyData.str _ _ => hfo2
      rename (∀ p : Addr × Obj, p ∈ _ → @LT.lt Nat _ ch p.1) => hlt2
      subst hnw
      rw [List.append_assoc] at N3 hva2
      exact WEnd.intro (⟨_, _, _, _, _, _, _, _, _, ext ++ _, _, _, _, _⟩ : DS) F3 N3 (by ksw_less) ⟨ag_cons rfl ag_nil, by ksw_same⟩ ⟨hr, hsv2, hva2, hdo2, hfo2, (fun p hp => (List.mem_append.mp hp).elim (hext p) (hlt2 p)), hjl⟩ (by rw [hn]; exact Nat.lt_succ_self _)
  intro c u h tk hX F2 N2
  clear F1 N1
  obtain ⟨n, p, st, svs, ns1, vvs, nv, o, kvs, ext, tw, v2, u4, u6⟩ := c
  obtain ⟨⟨hD, hsv, hva, hdo, hfo, hext, hp⟩, hn0⟩ := hX
  dsimp only at hD hsv hva hdo hfo hext hp hn0 F2 N2
  have q1 : ∀ p ∈ news ++ ext, p.1 ≠ rdx := off_app m1 (off_gt hext (by omega))
  have q2 : ∀ p ∈ news ++ ext, p.1 ≠ dx := off_app m2 (off_gt hext (by omega))
  have q3 : ∀ p ∈ news ++ ext, p.1 ≠ sl := off_app m3 (off_gt hext (by omega))
  have q4 : ∀ p ∈ news ++ ext, p.1 ≠ vl := off_app m4 (off_gt hext (by omega))
  have q5 : ∀ p ∈ news ++ ext, p.1 ≠ wl := off_app m5 (off_gt hext (by omega))
  have hpe := wEnd_le hp
  refine hD.elim ?_ (fun n1 _ _ _ _ hn => absurd (hn.symm.trans hn0) (Nat.succ_ne_zero n1))
  intro _ hst h ws ea hu hz
  have he := until_le hu hpe _ _ rfl
  k_steps
  rename News _ _ _ _ => N3
  rw [hst] at hsv hva hfo N3
  exact ret _ ext _ _ _ _ _ _ _ _ _ _ _ (by k_asm) (news_sub N3 (by ksw_less)) hsv hva hdo hfo hext he
end Nn
end
-- NnCh
section
open PySem PySem.W PySem.Spec PySem.Calls PyProof.Rows PyProof.V
set_option maxRecDepth 100000
section
local macro_rules | `(tactic| omega) => `(tactic| k_extra "oNnCh")
theorem Nn.oNnCh : True := by
  (k_with "oNnCh" => with_reducible (k_whole; first | k_extra "omega!" | ((show (_ : Nat) ≤ _); first | exact Nn.q68 (by assumption) | exact Nn.q63 (by assumption) | fail) | ((show (_ : Nat) = _); first | exact Nn.q66 (by assumption) (by assumption) | fail) | ((show (_ : Int) < _); first | exact Nn.q69 | fail) | ((show (_ : Int) ≤ _); first | exact Nn.q70 | fail) | fail))
  trivial
namespace Nn
/-! ## The value changes as read -/
noncomputable def mkC (ns : List (List Nat × Int)) (now : Int) (ds nm : List Nat) : CR := ⟨now, nm, wdD ns nm, lowT (longL ds (wdD ns nm).toNat), highT (longL ds (wdD ns nm).toNat)⟩
inductive Chs (l : List Nat) (ns : List (List Nat × Int)) : Nat → Nat → Int → List CR → List CR → Option (Str × Int) → Prop
  | fin {p now cs} (h : wTok l p = []) : Chs l ns 0 p now cs cs none
  | time {n p now cs cs' o w} (h : wTok l p = 35 :: w) (hn : numOk w = true) (hz : w.length ≤ 600) (ht : now ≤ ((NumText.digitsVal w : Nat) : Int)) (hr : Chs l ns n (wEnd l p) ((NumText.digitsVal w : Nat) : Int) cs cs' o) : Chs l ns (n + 1) p now cs cs' o
  | bit {n p now cs cs' o d w} (h : wTok l p = d :: w) (hd : d = 48 ∨ d = 49 ∨ d = 122 ∨ d = 120) (hr0 : rcErr ns [d] w = none) (hr : Chs l ns n (wEnd l p) now (cs ++ [mkC ns now [d] w]) cs' o) : Chs l ns (n + 1) p now cs cs' o
  | vec {n p now cs cs' o ds} (h : wTok l p = 98 :: ds) (hg : goodD ds) (hr0 : rcErr ns ds (wTok l (wEnd l p)) = none) (hr : Chs l ns n (wEnd l (wEnd l p)) now (cs ++ [mkC ns now ds (wTok l (wEnd l p))]) cs' o) : Chs l ns (n + 1) p now cs cs' o
  | eunk {p now cs} (h : wTok l p = S "?" ∨ wTok l p = S "$foo") : Chs l ns 0 p now cs cs (some (Str.ofString "unexpected_word", (wAt l p : Int)))
  | ebit {p now cs d w kd} (h : wTok l p = d :: w) (hd : d = 48 ∨ d = 49 ∨ d = 122 ∨ d = 120) (hr0 : rcErr ns [d] w = some kd) : Chs l ns 0 p now cs cs (some (kd, (wAt l p : Int)))
  | evec {p now cs ds kd} (h : wTok l p = 98 :: ds) (hr0 : rcErr ns ds (wTok l (wEnd l p)) = some kd) : Chs l ns 0 p now cs cs (some (kd, (wAt l p : Int)))
  | ereal {p now cs} (h : wTok l p = S "r1.5") : Chs l ns 0 p now cs cs (some (Str.ofString "real_unsupported", (wAt l p : Int)))
  | enum {p now cs w} (h : wTok l p = 35 :: w) (hz : w.length ≤ 600) (hn : numOk w = false) : Chs l ns 0 p now cs cs (some (Str.ofString "bad_number", (wAt l p : Int) + 1))
  | ecom {p now cs ws} (h : wTok l p = S "$comment") (hu : Until l (wEnd l p) ws none) (hz : ws.length ≤ 100) : Chs l ns 0 p now cs cs (some (Str.ofString "end_missing", (wAt l p : Int)))
theorem rc_no {ns a b k} {p : Prop} (h1 : rcErr ns a b = none) (h2 : rcErr ns a b = some k) : p := by rw [h1] at h2; cases h2
theorem ns_at {ns : List (List Nat × Int)} (h : ∀ nm k, wOf ns nm = some k → 1 ≤ k ∧ k ≤ 1000) {nm : List Nat} : ∀ k, wOf ns nm = some k → 1 ≤ k ∧ k ≤ 1000 := h nm
theorem wTok_len {l : List Nat} {p : Nat} (h : p ≤ l.length) : (wTok l p).length ≤ l.length := by
  rw [wTok_eq, List.length_take, List.length_drop]; omega
noncomputable def isB (n : Nat) : Bool := decide (n ∈ [98, 66])
noncomputable def isR (n : Nat) : Bool := decide (n ∈ [114, 82])
theorem b_lit : Str.ofString "bB" = mk [98, 66] := by decide +kernel
theorem r_lit : Str.ofString "rR" = mk [114, 82] := by decide +kernel
theorem h_lit : Str.ofString "#" = mk [35] := by decide +kernel
theorem b_in (n : Nat) : (!(Builtin.Str.occurrences (Str.ofString "bB") (mk [n]) 0 (Str.ofString "bB").length 1).isEmpty) = isB n := by
  show (!(Builtin.Str.occurrences (Str.ofString "bB") ⟨#[n]⟩ 0 (Str.ofString "bB").length 1).isEmpty) = isB n
  rw [StrLaws.found_one, b_lit]
  rfl
theorem r_in (n : Nat) : (!(Builtin.Str.occurrences (Str.ofString "rR") (mk [n]) 0 (Str.ofString "rR").length 1).isEmpty) = isR n := by
  show (!(Builtin.Str.occurrences (Str.ofString "rR") ⟨#[n]⟩ 0 (Str.ofString "rR").length 1).isEmpty) = isR n
  rw [StrLaws.found_one, r_lit]
  rfl
theorem sign_facts (d : Nat) (w : List Nat) : (mk (d :: w) != Str.ofString "") = true ∧ (mk [d] == Str.ofString "#") = decide (d = 35) ∧ (!(Builtin.Str.occurrences (Str.ofString "01xzXZ") (mk [d]) 0 (Str.ofString "01xzXZ").length 1).isEmpty) = isVal d ∧ (!(Builtin.Str.occurrences (Str.ofString "bB") (mk [d]) 0 (Str.ofString "bB").length 1).isEmpty) = isB d ∧ (!(Builtin.Str.occurrences (Str.ofString "rR") (mk [d]) 0 (Str.ofString "rR").length 1).isEmpty) = isR d ∧ Txt.slice (mk (d :: w)) (some 1) none = mk w := by
  refine ⟨?_, ?_, val_in d, b_in d, r_in d, ?_⟩
  · rw [bne, strNe]; rfl
  · rw [h_lit, mk_beq]; simp
  · exact slice_from (i := 1) (l := d :: w) (by decide) (by rw [List.length_cons]; omega)
theorem ChsAre.snoc {news : List (Addr × Obj)} {vvs : List Value} {vs : List CR} (h : ChsAre news vvs vs) {a b : Nat} {r : CR} {t1 t2 t3 t4 t5 : Tok} (hm : (a, tupO [.int r.tm t1, .str (mk r.nm) t2, .ref b]) ∈ news) (hm2 : (b, tupO [.int r.wd t3, .int r.lo t4, .int r.hi t5]) ∈ news) : ChsAre news (vvs ++ [.ref a]) (vs ++ [r]) := by
  refine ⟨by rw [List.length_append, List.length_append, h.1]; rfl, fun i v e => ?_⟩
  rw [List.getElem?_append] at e
  split at e
  · obtain ⟨a', b', r', u1, u2, u3, u4, u5, e1, e2, e3, e4⟩ := h.2 i v e
    refine ⟨a', b', r', u1, u2, u3, u4, u5, ?_, e2, e3, e4⟩
    rw [List.getElem?_append_left (by rw [← h.1]; assumption)]; exact e1
  · rename_i hi
    have h0 : i - vvs.length = 0 := by
      rcases Nat.eq_zero_or_pos (i - vvs.length) with h | h
      · exact h
      · rw [List.getElem?_eq_none (by rw [List.length_singleton]; omega)] at e; cases e
    rw [h0] at e
    cases e
    have hi2 : i = vs.length := by rw [← h.1]; omega
    exact ⟨a, b, r, t1, t2, t3, t4, t5, by rw [hi2]; simp, rfl, hm, hm2⟩
section
variable {prog : Program} {w : World} {A : Around} {E : Value → Shared → Prop} {s : Shared} {Q : Value → Shared → Prop} {a : Nat} {l : List Nat} {t u : Tok} {value slice : Expr}
theorem item_hd (h : ∀ t' j, Q (.str (mk [a]) t') { s with toks := j })
    (hs : subscripted slice false (.str (mk (a :: l)) t) (.int 0 u) = operate [.str (mk (a :: l)) t, .int 0 u] (getItem (.str (mk (a :: l)) t) (.int 0 u)) := by with_unfolding_all rfl)
    (hg : ∀ r, letTemporaryGo value (.str (mk (a :: l)) t) r = pure () := by intro _; with_unfolding_all rfl) (hz : (a :: l).length ≤ 1000000000) :
    wpAny (model prog w) A (subscriptTail value slice (.str (mk (a :: l)) t) (.int 0 u)) Q E s :=
  item_l (by decide) (by rw [List.length_cons]; omega) hz h hs hg
end
end Nn
namespace Nn
theorem nm2' {h₀ h : Heap} {L a b : Nat} {o1 o2 : Obj} {rest : List (Addr × Obj)} (_N : News h₀ L h ((a, o1) :: (b, o2) :: rest)) : ∃ (a' b' : Nat), a' = a ∧ b' = b := ⟨_, _, rfl, rfl⟩
theorem ChsAre.grow {vn ext : List (Addr × Obj)} {vvs : List Value} {vs : List CR} (h : ChsAre (vn ++ ext) vvs vs) {a b : Nat} {r : CR} {t1 t2 t3 t4 t5 : Tok} :
    ChsAre (vn ++ (ext ++ [(a, tupO [.int r.tm t1, .str (mk r.nm) t2, .ref b]), (b, tupO [.int r.wd t3, .int r.lo t4, .int r.hi t5])])) (vvs ++ [.ref a]) (vs ++ [r]) := by
  refine (h.mono ?_).snoc (t1 := t1) (t2 := t2) (t3 := t3) (t4 := t4) (t5 := t5) (b := b) ?_ ?_
  · intro p hp
    rw [← List.append_assoc]
    exact List.mem_append.mpr (.inl hp)
  · simp
  · simp
theorem ext2_lt {ext : List (Addr × Obj)} {ch a b : Nat} {o1 o2 : Obj} (h : ∀ p ∈ ext, @LT.lt Nat _ ch p.1) (h1 : ch < b) (h2 : b < a) : ∀ p ∈ ext ++ [(a, o1), (b, o2)], @LT.lt Nat _ ch p.1 := by
  intro p hp
  rcases List.mem_append.mp hp with h' | h'
  · exact h p h'
  · rcases List.mem_cons.mp h' with rfl | h'
    · exact Nat.lt_trans h1 h2
    · rw [List.mem_singleton.mp h']; exact h1
theorem not_form {b c : Bool} (h : (!b) = c) : b = !c := by cases b <;> cases c <;> simp_all
end Nn
namespace Nn
theorem not_t {b : Bool} (h : (!b) = true) : b = false := by cases b <;> simp_all
theorem not_f {b : Bool} (h : (!b) = false) : b = true := by cases b <;> simp_all
end Nn
end
end
-- P22
theorem Nn.wP22 : True := by
  (k_with "call ref!" => (k_here; (with_reducible show wpAny _ _ (call (Value.ref 250) _) _ _ _); k_dflt (refine' Nn.rd_command_s ?q10fab_B ?q10fab_F ?q10fab_X ?q10fab_T ?q10fab_hk ?q10fab_N ?q10fab_p1 ?q10fab_p2 ?q10fab_p3 ?q10fab_p4 ?q10fab_p5 ?q10fab_W ?q10fab_hdo ?q10fab_hfo ?q10fab_hnz ?q10fab_hsv ?q10fab_hsl ?q10fab_hsp ?q10fab_hvz ?q10fab_hpl ?q10fab_hps ?q10fab_hpn ?q10fab_hpp ?q10fab_hva ?q10fab_hcmd ?q10fab_hd ?q10fab_hu ?_; (case q10fab_hcmd => assumption); (case q10fab_B => k_asm); (case q10fab_F => k_asm); (case q10fab_X => k_asm); (case q10fab_T => k_asm); (case q10fab_hk => first | exact rfl | assumption); (case q10fab_N => k_asm); (case q10fab_p1 => lcg_sub); (case q10fab_p2 => lcg_sub); (case q10fab_p3 => lcg_sub); (case q10fab_p4 => lcg_sub); (case q10fab_p5 => lcg_sub); (case q10fab_hdo => assumption); (case q10fab_hfo => assumption); (case q10fab_W => exact Nn.R5.mk (by omega) (by omega) (by omega) (by omega) (by krn_off) (by krn_off) (by krn_off) (by krn_off) (by assumption)); (case q10fab_hnz => assumption); (case q10fab_hsv => assumption); (case q10fab_hsl => assumption); (case q10fab_hsp => assumption); (case q10fab_hvz => assumption); (case q10fab_hpl => k_mem); (case q10fab_hps => assumption); (case q10fab_hpn => assumption); (case q10fab_hpp => assumption); (case q10fab_hva => assumption); (case q10fab_hd => ktr_room); (case q10fab_hu => ktr_units); k_whole); intro zzext2 zzsvs2 zzns2 zzvvs2 zznv2 zzo2 zzkvs2 zzu2 zzh2 zztk2 zzF2 zzN2 zzhsv2 zzhva2 zzhdo2 zzhfo2 zzhlt2; (simp only [List.cons_append] at zzN2)))
  (k_with "call ref!" => (k_here; (with_reducible show wpAny _ _ (call (Value.ref 271) _) _ _ _); k_dflt (refine' Nn.rd_change_s ?qcb5a9_B ?qcb5a9_F ?qcb5a9_X ?qcb5a9_T ?qcb5a9_hk ?qcb5a9_N ?qcb5a9_p1 ?qcb5a9_p2 ?qcb5a9_p3 ?qcb5a9_p4 ?qcb5a9_d1 ?qcb5a9_d2 ?qcb5a9_d3 ?qcb5a9_m1 ?qcb5a9_d5 ?qcb5a9_hdo ?qcb5a9_hfo ?qcb5a9_hnz ?qcb5a9_hcz ?qcb5a9_hdl ?qcb5a9_hnl ?qcb5a9_hns ?qcb5a9_hgood ?qcb5a9_hd ?qcb5a9_hu (fun zzhw2 zztp2 zzva2 zzu1 zzu2 zzu3 zzu4 zzu5 zzh2 zztk2 zzF2 zzN2 zzla2 zzlb2 zzlc2 => ?_) (fun zzkd2 zzhw2 zzg2 zze2 zzh2 zztk2 zzhs2 zzF2 zzR2 => ?_); (case qcb5a9_B => k_asm); (case qcb5a9_F => k_asm); (case qcb5a9_X => k_asm); (case qcb5a9_T => k_asm); (case qcb5a9_hk => first | exact rfl | assumption); (case qcb5a9_N => k_asm); (case qcb5a9_p1 => lcg_sub); (case qcb5a9_p2 => lcg_sub); (case qcb5a9_p3 => lcg_sub); (case qcb5a9_p4 => lcg_sub); (case qcb5a9_d1 => omega); (case qcb5a9_d2 => omega); (case qcb5a9_d3 => omega); (case qcb5a9_d5 => assumption); (case qcb5a9_m1 => krn_off); (case qcb5a9_hdo => assumption); (case qcb5a9_hfo => assumption); (case qcb5a9_hnz => assumption); (case qcb5a9_hcz => first | assumption | omega); (case qcb5a9_hdl => first | assumption | omega | (simp; done)); (case qcb5a9_hnl => first | assumption | omega); (case qcb5a9_hns => first | assumption | exact Nn.ns_at (by assumption)); (case qcb5a9_hgood => first | assumption | (intro _; assumption) | (intro zzhq; exact Nn.rc_no zzhq (by assumption))); (case qcb5a9_hd => ktr_room); (case qcb5a9_hu => ktr_units); k_whole); (rotate_left 1); (first | (focus (exact Nn.rc_no (by assumption) zzhw2)) | (focus (refine Nn.pass_on (by k_asm) zzF2 zzhs2 zzR2 ?_; intro zzh3 zzhs3 zzR3; (try dsimp only)))); (rotate_right 1); (first | (focus (exact Nn.rc_no zzhw2 (by assumption))) | (try dsimp only))))
  (k_with "subscriptTail Name Constant str int!" => (k_here; (with_reducible show wpAny _ _ (subscriptTail _ _ (Value.str (Nn.mk (_ :: _)) _) (Value.int 0 _)) _ _ _); k_dflt (refine' Nn.item_hd ?_ ?qe0340_hs ?qe0340_hg ?qe0340_hz; (case qe0340_hz => (first | (rw [List.length_cons]; omega) | omega)); (case qe0340_hs => with_unfolding_all rfl); (case qe0340_hg => (intro _; with_unfolding_all rfl))); intro _ _))
  (k_with "steps22!" => repeat' ((fail_if_success (with_reducible show wpAny _ _ (call (Value.ref 271) _) _ _ _)); (fail_if_success (with_reducible show wpAny _ _ (call (Value.ref 222) _) _ _ _)); (fail_if_success (with_reducible show Nn.GEnd _ _ _ _ _ _ _ _ _ _ _)); (fail_if_success (with_reducible show Nn.GPost _ _ _ _ _ _ _ _ _ _ _ _ _)); (fail_if_success (with_reducible show Nn.GPostT _ _ _ _ _ _ _ _ _ _ _ _)); (fail_if_success (with_reducible show Nn.WEnd _ _ _ _ _ _ _ _ _ _ _)); (fail_if_success (with_reducible show Nn.WPost _ _ _ _ _ _ _ _ _ _ _ _ _)); first | (k_unfold; (try dsimp only)) | (k_end; wrow_close) | (walk1; all_goals (try dsimp only)) | (leave1; walk_say "STEP leave1"; try dsimp only) | ((with_reducible show ∀ _, Nn.Cut _ _ → _); intro _ _) | ((fail_if_success (with_reducible show wpAny _ _ _ _ _ _)); first | ((with_reducible refine Nn.Nx.use (by assumption) ?_); (try dsimp only)) | ((with_reducible refine Nn.Rx.ret (by assumption) ?_); (try dsimp only)) | ((with_reducible refine Nn.Rx.brk (by assumption) ?_); (try dsimp only)) | ((with_reducible refine Nn.Rx.cont (by assumption) ?_); (try dsimp only)) | ((with_reducible refine Nn.Cut.use (by assumption) ?_); (try dsimp only))) | fail "no step"))
  trivial
section
local macro_rules | `(tactic| omega) => `(tactic| k_extra "oP22")
theorem Nn.oP22 : True := by
  (k_with "oP22" => with_reducible (k_whole; first | k_extra "omega!" | ((show (_ : Nat) < _); first | exact Nn.q362 (by assumption) (by assumption) (by assumption) | fail) | ((show (_ : Nat) ≤ _); first | exact Nn.q363 (by assumption) (by assumption) | exact Nn.q364 | exact Nn.q360 (by assumption) (by assumption) (by assumption) | exact Nn.q365 (by assumption) (by assumption) | exact Nn.q366 (by assumption) (by assumption) | exact Nn.q367 (by assumption) (by assumption) | exact Nn.q369 (by assumption) (by assumption) | exact Nn.q370 (by assumption) (by assumption) | exact Nn.q372 (by assumption) | exact Nn.q373 (by assumption) | exact Nn.q358 (by assumption) (by assumption) (by assumption) (by assumption) (by assumption) | exact Nn.q356 (by assumption) | exact Nn.q374 (by assumption) (by assumption) | exact Nn.q375 (by assumption) | fail) | ((show (_ : Nat) ≠ _); first | exact Nn.q292 (by assumption) (by assumption) (by assumption) (by assumption) | exact Nn.q368 (by assumption) (by assumption) (by assumption) (by assumption) (by assumption) | fail) | ((show False); first | exact Nn.q371 (by assumption) (by assumption) | fail) | fail))
  trivial
namespace Nn
theorem Pick.deep6 {a1 a2 a3 a4 a5 a6 led r1 r2 r3 r4 r5 r6} {h₀ h : Heap} {L : Addr} (p1 : Pick a1 led r1) (p2 : Pick a2 r1 r2) (p3 : Pick a3 r2 r3) (p4 : Pick a4 r3 r4) (p5 : Pick a5 r4 r5) (p6 : Pick a6 r5 r6) (N : News h₀ L h led) : News h₀ L h (a1 :: a2 :: a3 :: a4 :: a5 :: a6 :: r6) :=
  news_sub (Pick.deep5 p1 p2 p3 p4 p5 N) (sub_cons (.head _) (sub_tail (sub_cons (.head _) (sub_tail (sub_cons (.head _) (sub_tail (sub_cons (.head _) (sub_tail (sub_cons (.head _) (sub_tail p6.sub))))))))))
theorem chg_order {h₀ h : Heap} {L : Addr} {a b c d e f g i : Addr × Obj} {n x : List (Addr × Obj)} (N : News h₀ L h (a :: b :: c :: d :: e :: f :: g :: i :: (n ++ x))) : News h₀ L h (e :: f :: a :: b :: g :: i :: (n ++ (x ++ [c, d]))) := fun p hp => N p (by
  simp only [List.mem_cons, List.mem_append, List.not_mem_nil, or_false] at hp ⊢
  rcases hp with h | h | h | h | h | h | h | h | h | h <;> simp only [h, true_or, or_true])
theorem bit35 {d : Nat} (h : d = 48 ∨ d = 49 ∨ d = 122 ∨ d = 120) : decide (d = 35) = false := by rcases h with rfl | rfl | rfl | rfl <;> decide
theorem bitV {d : Nat} (h : d = 48 ∨ d = 49 ∨ d = 122 ∨ d = 120) : isVal d = true := by rcases h with rfl | rfl | rfl | rfl <;> decide
theorem bitB {d : Nat} (h : d = 48 ∨ d = 49 ∨ d = 122 ∨ d = 120) : isB d = false := by rcases h with rfl | rfl | rfl | rfl <;> decide
theorem bitR {d : Nat} (h : d = 48 ∨ d = 49 ∨ d = 122 ∨ d = 120) : isR d = false := by rcases h with rfl | rfl | rfl | rfl <;> decide
theorem Chs.elim {P : Prop} {l : List Nat} {ns : List (List Nat × Int)} {n p : Nat} {now : Int} {cs cs' : List CR} {out : Option (Str × Int)} (hC : Chs l ns n p now cs cs' out)
    (fin : n = 0 → cs = cs' → out = none → wTok l p = [] → P)
    (time : ∀ m w, n = m + 1 → wTok l p = 35 :: w → numOk w = true → w.length ≤ 600 → now ≤ ((NumText.digitsVal w : Nat) : Int) → Chs l ns m (wEnd l p) ((NumText.digitsVal w : Nat) : Int) cs cs' out → P)
    (bit : ∀ m d w, n = m + 1 → wTok l p = d :: w → (d = 48 ∨ d = 49 ∨ d = 122 ∨ d = 120) → rcErr ns [d] w = none → Chs l ns m (wEnd l p) now (cs ++ [mkC ns now [d] w]) cs' out → P)
    (vec : ∀ m ds, n = m + 1 → wTok l p = 98 :: ds → goodD ds → rcErr ns ds (wTok l (wEnd l p)) = none → Chs l ns m (wEnd l (wEnd l p)) now (cs ++ [mkC ns now ds (wTok l (wEnd l p))]) cs' out → P)
    (eunk : out = some (Str.ofString "unexpected_word", (wAt l p : Int)) → (wTok l p = S "?" ∨ wTok l p = S "$foo") → P)
    (ebit : ∀ d w kd, out = some (kd, (wAt l p : Int)) → wTok l p = d :: w → (d = 48 ∨ d = 49 ∨ d = 122 ∨ d = 120) → rcErr ns [d] w = some kd → P)
    (evec : ∀ ds kd, out = some (kd, (wAt l p : Int)) → wTok l p = 98 :: ds → rcErr ns ds (wTok l (wEnd l p)) = some kd → P)
    (ereal : out = some (Str.ofString "real_unsupported", (wAt l p : Int)) → wTok l p = S "r1.5" → P)
    (enum : ∀ w, out = some (Str.ofString "bad_number", (wAt l p : Int) + 1) → wTok l p = 35 :: w → w.length ≤ 600 → numOk w = false → P)
    (ecom : ∀ ws, out = some (Str.ofString "end_missing", (wAt l p : Int)) → wTok l p = S "$comment" → Until l (wEnd l p) ws none → ws.length ≤ 100 → P) : P := by
  cases hC with
  | fin h => exact fin rfl rfl rfl h
  | time h hn hz ht hr => exact time _ _ rfl h hn hz ht hr
  | bit h hd hr0 hr => exact bit _ _ _ rfl h hd hr0 hr
  | vec h hg hr0 hr => exact vec _ _ rfl h hg hr0 hr
  | eunk h => exact eunk rfl h
  | ebit h hd hr0 => exact ebit _ _ _ rfl h hd hr0
  | evec h hr0 => exact evec _ _ rfl h hr0
  | ereal h => exact ereal rfl h
  | enum h hz hn => exact enum _ rfl h hz hn
  | ecom h hu hz => exact ecom _ rfl h hu hz
structure CST where
  n : Nat
  p : Nat
  now : Int
  cs : List CR
  cvs : List Value
  nc : Nat
  ext : List (Addr × Obj)
  tw : Tok
  v7 : Tok
  u4 : Tok
  u6 : Tok
structure CJ (l : List Nat) (ns : List (List Nat × Int)) (vn : List (Addr × Obj)) (ch : Nat) (cs' : List CR) (out : Option (Str × Int)) (c : CST) : Prop where
  d : Chs l ns c.n c.p c.now c.cs cs' out
  ca : ChsAre (vn ++ c.ext) c.cvs c.cs
  lt : ∀ p ∈ c.ext, @LT.lt Nat _ ch p.1
  hp : c.p ≤ l.length
  hz : c.cs.length + c.n ≤ 1000
theorem rd_changes_s {w : World} {mean : ExcName → Option Value} {mg mb : Str → Option Value} {dp un : Nat} {gd : Option (List Code)} {cn : Str} {cs : Scope} {a : Addr} {ccd : Value} {cl : List (Str × Addr)} {outer : List Env} {A₀ : Around} {base h₀ : Heap} {L : Addr} {m : Str → Option Value} {news : List (Addr × Obj)} {s : Shared}
    {Q E : Value → Shared → Prop} {rr rdx x dx sl vl wl ch nc : Nat} {l sc : List Nat} {o : Obj} {at0 now : Int} {k1 k2 k3 k4 k5 k6 k7 v2 v7 t1 t2 t3 t4 t5 t6 : Tok} {led r1 r2 r3 r4 r5 vn : List (Addr × Obj)} {n p0 : Nat} {cvs : List Value} {kvs : List (Str × Value)} {ns : List (List Nat × Int)} {css cs' : List CR} {out : Option (Str × Int)}
    (B : Below A₀ base outer h₀) (F : Fr h₀ L s.heap m) (X : (K w.params).In h₀) (T : Top q looseN mean mg mb h₀) (hk : cs.kind = .function) (N : News h₀ L s.heap (led)) (p1 : Pick (rr, instObj 274 rdx) led r1) (p2 : Pick (rdx, dictOf [kE w "words" k1 (.ref x), kE w "scale" k2 (.str (mk sc) v2), kE w "scopes" k3 (.ref sl), kE w "variables" k4 (.ref vl), kE w "widths" k5 (.ref wl), kE w "changes" k6 (.ref ch), kE w "now" k7 (.int (now) v7)] 7) r1 r2) (p3 : Pick (x, instObj 211 dx) r2 r3) (p4 : Pick (dx, dictOf [kE w "text" t1 (.str (mk l) t2), kE w "place" t3 (.int p0 t4), kE w "at" t5 (.int at0 t6)] 3) r3 r4) (p5 : Pick (wl, o) r4 r5) (p6 : Pick (ch, listOf cvs.toArray nc) r5 news) (c1 : rdx < rr) (c2 : rr < dx) (c3 : dx < x) (c4 : x < wl) (c5 : wl < ch) (m1 : ∀ p ∈ news, p.1 ≠ rdx) (m2 : ∀ p ∈ news, p.1 ≠ dx) (m3 : ∀ p ∈ news, p.1 ≠ ch) (m6 : (wl == sysModules) = false) (hl : l.length ≤ 100000) (hp0 : p0 ≤ l.length) (hca : ChsAre vn cvs css) (hdo : o.IsDictOf (strKind PySem.Challenge.rw_nn0316_01.prog w) kvs) (hfo : FlatPairs PyData.str kvs (Dw ns)) (hnz : ns.length ≤ 1000) (hns : ∀ nm k, wOf ns nm = some k → 1 ≤ k ∧ k ≤ 1000) (hcn : css.length + n ≤ 1000) (hC : Chs l ns n p0 now css cs' out)
    (hd : dp + 70 < recursionLimit) (hu : un + 1000 < cLine)
    (ret : out = none → ∀ (a : Nat) e ext cvs' nc' now' v7' u4 u6 h' tk', Fr h₀ L h' m → News h₀ L h' ((rr, instObj 274 rdx) :: (rdx, dictOf [kE w "words" k1 (.ref x), kE w "scale" k2 (.str (mk sc) v2), kE w "scopes" k3 (.ref sl), kE w "variables" k4 (.ref vl), kE w "widths" k5 (.ref wl), kE w "changes" k6 (.ref ch), kE w "now" k7 (.int (now') v7')] 7) :: (x, instObj 211 dx) :: (dx, dictOf [kE w "text" t1 (.str (mk l) t2), kE w "place" t3 (.int (e : Nat) u4), kE w "at" t5 (.int (a : Nat) u6)] 3) :: (wl, o) :: (ch, listOf cvs'.toArray nc') :: (news ++ ext)) → ChsAre (vn ++ ext) cvs' cs' → (∀ p ∈ ext, @LT.lt Nat _ ch p.1) → Q (.none) { s with heap := h', toks := tk' })
    (exc : ∀ kd k, out = some (kd, k) → ∀ g e h' tk', g.UpToSlots h' → Fr h₀ L g m → Fly w base (envX cn cs L a ccd cl :: outer) e (news) (kd) (k) h' → E (.ref e) { s with heap := h', toks := tk' }) :
    wpAny (model PySem.Challenge.rw_nn0316_01.prog w) (ktrTop dp un gd cn cs L a ccd cl outer) (call (.ref 264) [.ref rr]) Q E s := by
  replace N := Pick.deep6 p1 p2 p3 p4 p5 p6 N
  clear p1 p2 p3 p4 p5 p6
  refine wpAny_call ?_
  ktr_call [("self", .ref rr)] ()
  k_steps
  rename Fr _ _ _ _ => F1
  rename News _ _ _ _ => N1
  refine go (whileX (σ := CST) (fun c => (rr, instObj 274 rdx) :: (rdx, dictOf [kE w "words" k1 (.ref x), kE w "scale" k2 (.str (mk sc) v2), kE w "scopes" k3 (.ref sl), kE w "variables" k4 (.ref vl), kE w "widths" k5 (.ref wl), kE w "changes" k6 (.ref ch), kE w "now" k7 (.int (c.now) c.v7)] 7) :: (x, instObj 211 dx) :: (dx, dictOf [kE w "text" t1 (.str (mk l) t2), kE w "place" t3 (.int (wEnd l c.p) c.u4), kE w "at" t5 (.int (wAt l c.p) c.u6)] 3) :: (wl, o) :: (ch, listOf c.cvs.toArray c.nc) :: (news ++ c.ext)) (fun c => [(Str.ofString "word", .str (mk (wTok l c.p)) c.tw)]) [Str.ofString "at", Str.ofString "time"]
    (CJ l ns vn ch cs' out) (fun c => CJ l ns vn ch cs' out c ∧ out = none ∧ c.cs = cs') (fun c => c.n)
    ⟨n, p0, now, css, cvs, nc, [], _, v7, _, _⟩ F1 (news_sub N1 (l := (rr, instObj 274 rdx) :: (rdx, dictOf [kE w "words" k1 (.ref x), kE w "scale" k2 (.str (mk sc) v2), kE w "scopes" k3 (.ref sl), kE w "variables" k4 (.ref vl), kE w "widths" k5 (.ref wl), kE w "changes" k6 (.ref ch), kE w "now" k7 (.int (now) v7)] 7) :: (x, instObj 211 dx) :: (dx, dictOf [kE w "text" t1 (.str (mk l) t2), kE w "place" t3 (.int (wEnd l p0) _), kE w "at" t5 (.int (wAt l p0) _)] 3) :: (wl, o) :: (ch, listOf cvs.toArray nc) :: (news ++ [])) (by ksw_less)) (ag_cons rfl ag_nil) ⟨hC, by rw [List.append_nil]; exact hca, (fun _ h => nomatch h), hp0, hcn⟩ ?_ ?_)
  · rintro ⟨n, p, now, cs, cvs, nc, ext, tw, v7, u4, u6⟩ u h tk hJ F2 N2
    (repeat ((with_reducible show ∀ _, Nn.Cut _ _ → _); intro _ _))
    clear F1 N1
    obtain ⟨hC, hca, hext, hp, hcn⟩ := hJ
    dsimp only at hC hca hext hp hcn F2 N2
    have q1 : ∀ p ∈ news ++ ext, p.1 ≠ rdx := off_app m1 (off_gt hext (by omega))
    have q2 : ∀ p ∈ news ++ ext, p.1 ≠ dx := off_app m2 (off_gt hext (by omega))
    have q3 : ∀ p ∈ news ++ ext, p.1 ≠ ch := off_app m3 (off_gt hext (by omega))
    have hpe := wEnd_le hp
    have hpe2 := wEnd_le hpe
    have hcvl : cvs.length ≤ 1000 := by rw [hca.1]; omega
    have htl := wTok_len hp
    have htl2 := wTok_len hpe
    generalize hnw : news ++ ext = nw at q1 q2 q3 N2
    refine hC.elim ?_ ?_ ?_ ?_ ?_ ?_ ?_ ?_ ?_ ?_
    · intro hn0 hcs ho h
      have f1 : (mk (wTok l p) != Str.ofString "") = false := by rw [h]; decide +kernel
      k_steps
      rename Fr _ _ _ _ => F3
      rename News _ _ _ _ => N3
      subst hnw
      exact WExit.intro (⟨0, p, now, _, cvs, nc, ext, tw, v7, u4, u6⟩ : CST) F3 N3 (by ksw_less) ⟨ag_cons rfl ag_nil, by ksw_same⟩ ⟨⟨by subst hn0 hcs ho; exact .fin h, hca, hext, hp, by dsimp only; omega⟩, ho, hcs⟩
    · intro n1 w0 hn1 h hn hz ht hr
      obtain ⟨d, ed⟩ : ∃ d, d = 35 := ⟨_, rfl⟩
      have h' : wTok l p = d :: w0 := by rw [ed]; exact h
      rw [h'] at F2 htl
      obtain ⟨f1, e2, e3, e4, e5, e6⟩ := sign_facts d w0
      rw [show decide (d = 35) = true by (rw [ed]; decide)] at e2
      rw [show isVal d = false by (rw [ed]; decide)] at e3
      rw [show isB d = false by (rw [ed]; decide)] at e4
      rw [show isR d = false by (rw [ed]; decide)] at e5
      rw [List.length_cons] at htl
      have g3 := not_f e3
      have g4 := not_f e4
      have g5 := not_f e5
      k_extra "steps22!"
      rw [e6]
      k_steps
      rename Fr _ _ _ _ => F3
      rename News _ _ _ _ => N3
      subst hnw
      exact WEnd.intro (⟨_, _, _, _, cvs, nc, ext, _, _, _, _⟩ : CST) F3 N3 (by ksw_less) ⟨ag_cons rfl ag_nil, by ksw_same⟩ ⟨hr, hca, hext, hpe, by dsimp only; omega⟩ (by rw [hn1]; exact Nat.lt_succ_self _)
    · intro n1 d w0 hn1 h hd hr0 hr
      rw [h] at F2 htl
      obtain ⟨f1, e2, e3, e4, e5, e6⟩ := sign_facts d w0
      rw [bit35 hd] at e2
      rw [bitV hd] at e3
      rw [bitB hd] at e4
      rw [bitR hd] at e5
      rw [List.length_cons] at htl
      have g3 := not_t e3
      have g4 := not_f e4
      have g5 := not_f e5
      have hgd : goodD [d] := fun y hy => by rw [List.mem_singleton.mp hy]; exact hd
      k_extra "steps22!"
      rw [e6]
      k_steps
      rename Fr _ _ _ _ => F3
      rename News _ _ _ _ => N3
      subst hnw
      replace N3 := chg_order N3
      exact WEnd.intro (⟨_, _, now, _, _, _, ext ++ [(_, _), (_, _)], _, v7, _, _⟩ : CST) F3 N3 (by dsimp only; exact Nn.sub_refl) ⟨ag_cons rfl ag_nil, by ksw_same⟩ ⟨hr, hca.grow, ext2_lt hext (by assumption) (by assumption), by assumption, by dsimp only; rw [List.length_append, List.length_singleton]; omega⟩ (by rw [hn1]; exact Nat.lt_succ_self _)
    · intro n1 ds hn1 h hg hr0 hr
      obtain ⟨d, ed⟩ : ∃ d, d = 98 := ⟨_, rfl⟩
      have h' : wTok l p = d :: ds := by rw [ed]; exact h
      rw [h'] at F2 htl
      obtain ⟨f1, e2, e3, e4, e5, e6⟩ := sign_facts d ds
      rw [show decide (d = 35) = false by (rw [ed]; decide)] at e2
      rw [show isVal d = false by (rw [ed]; decide)] at e3
      rw [show isB d = true by (rw [ed]; decide)] at e4
      rw [show isR d = false by (rw [ed]; decide)] at e5
      rw [List.length_cons] at htl
      have g3 := not_f e3
      have g4 := not_t e4
      have g5 := not_f e5
      k_extra "steps22!"
      rw [e6]
      k_steps
      rename Fr _ _ _ _ => F3
      rename News _ _ _ _ => N3
      subst hnw
      replace N3 := chg_order N3
      exact WEnd.intro (⟨_, _, now, _, _, _, ext ++ [(_, _), (_, _)], _, v7, _, _⟩ : CST) F3 N3 (by dsimp only; exact Nn.sub_refl) ⟨ag_cons rfl ag_nil, by ksw_same⟩ ⟨hr, hca.grow, ext2_lt hext (by assumption) (by assumption), by assumption, by dsimp only; rw [List.length_append, List.length_singleton]; omega⟩ (by rw [hn1]; exact Nat.lt_succ_self _)
    · intro ho h
      rcases h with h | h
      · skip
        obtain ⟨d, w0, ed, ew⟩ : ∃ d w0, d = 63 ∧ w0 = ([] : List Nat) := ⟨_, _, rfl, rfl⟩
        have h' : wTok l p = d :: w0 := by rw [ed, ew]; exact h
        rw [h'] at F2 htl
        obtain ⟨f1, e2, e3, e4, e5, e6⟩ := sign_facts d w0
        rw [show decide (d = 35) = false by (rw [ed]; decide)] at e2
        rw [show isVal d = false by (rw [ed]; decide)] at e3
        rw [show isB d = false by (rw [ed]; decide)] at e4
        rw [show isR d = false by (rw [ed]; decide)] at e5
        rw [List.length_cons] at htl
        have g3 := not_f e3
        have g4 := not_f e4
        have g5 := not_f e5
        have f7 : (mk (d :: w0) == Str.ofString "$comment") = false := by rw [ed, ew]; decide +kernel
        have f8 : ([Str.ofString "$dumpvars", Str.ofString "$dumpall", Str.ofString "$dumpon", Str.ofString "$dumpoff", Str.ofString "$end"].any fun x => x == mk (d :: w0)) = false := by rw [ed, ew]; decide +kernel
        k_steps
        replace exc := exc _ _ ho
        exact exc _ _ _ _ (by assumption) (by assumption) (Fly.sub (by assumption) (by subst hnw; ksw_less))
      · skip
        obtain ⟨d, w0, ed, ew⟩ : ∃ d w0, d = 36 ∧ w0 = ([102, 111, 111] : List Nat) := ⟨_, _, rfl, rfl⟩
        have h' : wTok l p = d :: w0 := by rw [ed, ew]; exact h
        rw [h'] at F2 htl
        obtain ⟨f1, e2, e3, e4, e5, e6⟩ := sign_facts d w0
        rw [show decide (d = 35) = false by (rw [ed]; decide)] at e2
        rw [show isVal d = false by (rw [ed]; decide)] at e3
        rw [show isB d = false by (rw [ed]; decide)] at e4
        rw [show isR d = false by (rw [ed]; decide)] at e5
        rw [List.length_cons] at htl
        have g3 := not_f e3
        have g4 := not_f e4
        have g5 := not_f e5
        have f7 : (mk (d :: w0) == Str.ofString "$comment") = false := by rw [ed, ew]; decide +kernel
        have f8 : ([Str.ofString "$dumpvars", Str.ofString "$dumpall", Str.ofString "$dumpon", Str.ofString "$dumpoff", Str.ofString "$end"].any fun x => x == mk (d :: w0)) = false := by rw [ed, ew]; decide +kernel
        k_steps
        replace exc := exc _ _ ho
        exact exc _ _ _ _ (by assumption) (by assumption) (Fly.sub (by assumption) (by subst hnw; ksw_less))
    · intro d w0 kd ho h hd hr0
      rw [h] at F2 htl
      obtain ⟨f1, e2, e3, e4, e5, e6⟩ := sign_facts d w0
      rw [bit35 hd] at e2
      rw [bitV hd] at e3
      rw [bitB hd] at e4
      rw [bitR hd] at e5
      rw [List.length_cons] at htl
      have g3 := not_t e3
      have g4 := not_f e4
      have g5 := not_f e5
      have hgd : goodD [d] := fun y hy => by rw [List.mem_singleton.mp hy]; exact hd
      k_extra "steps22!"
      rw [e6]
      k_steps
      rename rcErr ns _ _ = some _ => hw3
      rw [hr0] at hw3
      cases hw3
      replace exc := exc _ _ ho
      exact exc _ _ _ _ (by assumption) (by assumption) (Fly.sub (by assumption) (by subst hnw; ksw_less))
    · intro ds kd ho h hr0
      obtain ⟨d, ed⟩ : ∃ d, d = 98 := ⟨_, rfl⟩
      have h' : wTok l p = d :: ds := by rw [ed]; exact h
      rw [h'] at F2 htl
      obtain ⟨f1, e2, e3, e4, e5, e6⟩ := sign_facts d ds
      rw [show decide (d = 35) = false by (rw [ed]; decide)] at e2
      rw [show isVal d = false by (rw [ed]; decide)] at e3
      rw [show isB d = true by (rw [ed]; decide)] at e4
      rw [show isR d = false by (rw [ed]; decide)] at e5
      rw [List.length_cons] at htl
      have g3 := not_f e3
      have g4 := not_t e4
      have g5 := not_f e5
      k_extra "steps22!"
      rw [e6]
      k_steps
      rename rcErr ns _ _ = some _ => hw3
      rw [hr0] at hw3
      cases hw3
      replace exc := exc _ _ ho
      exact exc _ _ _ _ (by assumption) (by assumption) (Fly.sub (by assumption) (by subst hnw; ksw_less))
    · intro ho h
      obtain ⟨d, w0, ed, ew⟩ : ∃ d w0, d = 114 ∧ w0 = ([49, 46, 53] : List Nat) := ⟨_, _, rfl, rfl⟩
      have h' : wTok l p = d :: w0 := by rw [ed, ew]; exact h
      rw [h'] at F2 htl
      obtain ⟨f1, e2, e3, e4, e5, e6⟩ := sign_facts d w0
      rw [show decide (d = 35) = false by (rw [ed]; decide)] at e2
      rw [show isVal d = false by (rw [ed]; decide)] at e3
      rw [show isB d = false by (rw [ed]; decide)] at e4
      rw [show isR d = true by (rw [ed]; decide)] at e5
      rw [List.length_cons] at htl
      have g3 := not_f e3
      have g4 := not_f e4
      have g5 := not_t e5
      k_steps
      replace exc := exc _ _ ho
      exact exc _ _ _ _ (by assumption) (by assumption) (Fly.sub (by assumption) (by subst hnw; ksw_less))
    · intro w0 ho h hz hn
      obtain ⟨d, ed⟩ : ∃ d, d = 35 := ⟨_, rfl⟩
      have h' : wTok l p = d :: w0 := by rw [ed]; exact h
      rw [h'] at F2 htl
      obtain ⟨f1, e2, e3, e4, e5, e6⟩ := sign_facts d w0
      rw [show decide (d = 35) = true by (rw [ed]; decide)] at e2
      rw [show isVal d = false by (rw [ed]; decide)] at e3
      rw [show isB d = false by (rw [ed]; decide)] at e4
      rw [show isR d = false by (rw [ed]; decide)] at e5
      rw [List.length_cons] at htl
      have g3 := not_f e3
      have g4 := not_f e4
      have g5 := not_f e5
      k_extra "steps22!"
      rw [e6]
      k_steps
      replace exc := exc _ _ ho
      exact exc _ _ _ _ (by assumption) (by assumption) (Fly.sub (by assumption) (by subst hnw; ksw_less))
    · intro ws ho h hu hz
      obtain ⟨d, w0, ed, ew⟩ : ∃ d w0, d = 36 ∧ w0 = ([99, 111, 109, 109, 101, 110, 116] : List Nat) := ⟨_, _, rfl, rfl⟩
      have h' : wTok l p = d :: w0 := by rw [ed, ew]; exact h
      rw [h'] at F2 htl
      obtain ⟨f1, e2, e3, e4, e5, e6⟩ := sign_facts d w0
      rw [show decide (d = 35) = false by (rw [ed]; decide)] at e2
      rw [show isVal d = false by (rw [ed]; decide)] at e3
      rw [show isB d = false by (rw [ed]; decide)] at e4
      rw [show isR d = false by (rw [ed]; decide)] at e5
      rw [List.length_cons] at htl
      have g3 := not_f e3
      have g4 := not_f e4
      have g5 := not_f e5
      have f7 : (mk (d :: w0) == Str.ofString "$comment") = true := by rw [ed, ew]; decide +kernel
      k_steps
      replace exc := exc _ _ ho
      exact exc _ _ _ _ (by assumption) (by assumption) (Fly.sub (by assumption) (by subst hnw; ksw_less))
  intro c u h tk hX F2 N2
  clear F1 N1
  obtain ⟨n, p, now, cs, cvs, nc, ext, tw, v7, u4, u6⟩ := c
  obtain ⟨⟨hC, hca, hext, hp, hcn⟩, hno, hcs⟩ := hX
  dsimp only at hC hca hext hp hcn hcs F2 N2
  k_steps
  rename News _ _ _ _ => N3
  subst hcs
  exact ret hno _ _ ext _ _ _ _ _ _ _ _ (by k_asm) (news_sub N3 (by ksw_less)) hca hext
end Nn
end
-- P23
theorem Nn.wP23 : True := by
  (k_with "call ref!" => (k_here; (with_reducible show wpAny _ _ (call (Value.ref 180) _) _ _ _); skip; k_dflt (refine' Nn.decl_rows_s ?q8ae4b_B ?q8ae4b_F ?q8ae4b_X ?q8ae4b_T ?q8ae4b_hk ?q8ae4b_N ?q8ae4b_hv ?q8ae4b_hvs ?q8ae4b_hsm ?q8ae4b_hok ?q8ae4b_hd ?q8ae4b_hu ?_; (case q8ae4b_B => k_asm); (case q8ae4b_F => k_asm); (case q8ae4b_X => k_asm); (case q8ae4b_T => k_asm); (case q8ae4b_hk => first | exact rfl | assumption); (case q8ae4b_N => k_asm); (case q8ae4b_hv => k_mem); (case q8ae4b_hvs => exact Nn.VarsAre.mono (by assumption) (by ksw_less)); (case q8ae4b_hsm => first | assumption | omega); (case q8ae4b_hok => assumption); (case q8ae4b_hd => ktr_room); (case q8ae4b_hu => ktr_units); k_whole); intro zzd' zzrv' zzrn' zzh' zztk' zzhrv' zzF' zzN' zzlt'; (try dsimp only)))
  (k_with "call ref!" => (k_here; (with_reducible show wpAny _ _ (call (Value.ref 124) _) _ _ _); skip; k_dflt (refine' Nn.change_row_s ?qa570d_B ?qa570d_F ?qa570d_X ?qa570d_T ?qa570d_hk ?qa570d_N ?qa570d_hl ?qa570d_hv ?qa570d_hw ?qa570d_hn ?qa570d_hd ?qa570d_hu ?_; (case qa570d_B => k_asm); (case qa570d_F => k_asm); (case qa570d_X => k_asm); (case qa570d_T => k_asm); (case qa570d_hk => first | exact rfl | assumption); (case qa570d_N => k_asm); (case qa570d_hl => first | assumption | omega); (case qa570d_hv => k_mem); (case qa570d_hw => first | assumption | omega); (case qa570d_hn => first | assumption | omega); (case qa570d_hd => ktr_room); (case qa570d_hu => ktr_units); k_whole); intro zzt' zzh' zztk' zzF' zzN'; (try dsimp only)))
  (k_with "exec For Tuple Attribute cons nil!" => (k_here; (rename Fr _ _ _ _ => zzlF'); (with_unfolding_all refine' For_invTF zzlF' ?qca24f_kh ?qca24f_ks; (case qca24f_ks => (intro _; rfl)); k_whole)))
  (k_with "steps23!" => repeat' ((fail_if_success (with_reducible show wpAny _ _ (binaryOp _ (Value.str (Txt.join _ _) _) _) _ _ _)); (fail_if_success (with_reducible show Nn.GEnd _ _ _ _ _ _ _ _ _ _ _)); (fail_if_success (with_reducible show Nn.GPost _ _ _ _ _ _ _ _ _ _ _ _ _)); (fail_if_success (with_reducible show Nn.GPostT _ _ _ _ _ _ _ _ _ _ _ _)); (fail_if_success (with_reducible show Nn.WEnd _ _ _ _ _ _ _ _ _ _ _)); (fail_if_success (with_reducible show Nn.WPost _ _ _ _ _ _ _ _ _ _ _ _ _)); first | (k_unfold; (try dsimp only)) | (k_end; wrow_close) | (walk1; all_goals (try dsimp only)) | (leave1; walk_say "STEP leave1"; try dsimp only) | ((with_reducible show ∀ _, Nn.Cut _ _ → _); intro _ _) | ((fail_if_success (with_reducible show wpAny _ _ _ _ _ _)); first | ((with_reducible refine Nn.Nx.use (by assumption) ?_); (try dsimp only)) | ((with_reducible refine Nn.Rx.ret (by assumption) ?_); (try dsimp only)) | ((with_reducible refine Nn.Rx.brk (by assumption) ?_); (try dsimp only)) | ((with_reducible refine Nn.Rx.cont (by assumption) ?_); (try dsimp only)) | ((with_reducible refine Nn.Cut.use (by assumption) ?_); (try dsimp only))) | fail "no step"))
  trivial
section
local macro_rules | `(tactic| omega) => `(tactic| k_extra "oP23")
theorem Nn.oP23 : True := by
  (k_with "oP23" => with_reducible (k_whole; first | k_extra "omega!" | ((show (_ : Nat) ≤ _); first | exact Nn.q376 (by assumption) (by assumption) (by assumption) (by assumption) | exact Nn.q377 (by assumption) | exact Nn.q95 (by assumption) | exact Nn.q378 (by assumption) | exact Nn.q379 (by assumption) | exact Nn.q92 (by assumption) | exact Nn.q380 (by assumption) (by assumption) (by assumption) (by assumption) | exact Nn.q381 (by assumption) (by assumption) (by assumption) (by assumption) | exact Nn.q382 (by assumption) | exact Nn.q384 (by assumption) (by assumption) (by assumption) | exact Nn.q385 (by assumption) (by assumption) | exact Nn.q32 (by assumption) | fail) | ((show (_ : Nat) = _); first | exact Nn.q387 | fail) | ((show _ ∧ _); first | exact Nn.q383 (by assumption) (by assumption) | exact Nn.q386 (by assumption) (by assumption) | fail) | fail))
  trivial
namespace Nn
theorem chF_take {i : Nat} {cs : List CR} {c : CR} (h : cs[i]? = some c) (p) : (cs.take (i + 1)).foldl chF p = chF ((cs.take i).foldl chF p) c := by
  rw [List.take_add_one, h, List.foldl_append]; rfl
theorem nmN {h₀ h : Heap} {L a b n : Nat} {o2 : Obj} {vs : List Value} {rest : List (Addr × Obj)} (_N : News h₀ L h ((a, listOf vs.toArray n) :: (b, o2) :: rest)) : ∃ (a' b' : Nat) (vs' : List Value) (n' : Nat), a' = a ∧ b' = b ∧ vs' = vs ∧ n' = n := ⟨_, _, _, _, rfl, rfl, rfl, rfl⟩
theorem tm_text (n : Int) : Str.ofString "#" ++ Str.ofString (toString n) = mk (timeRow n) := by
  unfold timeRow
  simp only [numL_S, lit_eq, mk_app]
theorem joinN_len : ∀ rows : List (List Nat), (joinN rows).length = ((rows.map mk).map (·.length)).sum + (rows.map mk).length
  | [] => rfl
  | a :: r => by
    have h := joinN_len r
    unfold joinN at h ⊢
    rw [List.flatMap_cons, List.length_append, h, List.length_append, List.length_singleton]
    simp only [List.map_cons, List.sum_cons, List.length_cons, mk_len]
    omega
theorem chF_ne : ∀ (cs : List CR) (p : Int × List (List Nat)), p.2 ≠ [] → (cs.foldl chF p).2 ≠ []
  | [], _, h => h
  | c :: r, p, h => chF_ne r (chF p c) (fun e => h (List.append_eq_nil_iff.mp e).1)
structure TS where
  rv : List Value
  rn : Nat
  now : Int
  t : Tok
theorem w_text_s {w : World} {mean : ExcName → Option Value} {mg mb : Str → Option Value} {dp un : Nat} {gd : Option (List Code)} {cn : Str} {cs : Scope} {a : Addr} {ccd : Value} {cl : List (Str × Addr)} {outer : List Env} {A₀ : Around} {base h₀ : Heap} {L : Addr} {m : Str → Option Value} {news : List (Addr × Obj)} {s : Shared}
    {Q E : Value → Shared → Prop} {wr wdx vl wl ch nv nc : Nat} {vvs cvs : List Value} {sc : List Nat} {o : Obj} {kvs : List (Str × Value)} {ns : List (List Nat × Int)} {now : Int} {k1 k2 k3 k4 k5 v1 v5 : Tok} {led r1 r2 r3 r4 : List (Addr × Obj)} {vs : List VR} {cs2 : List CR}
    (B : Below A₀ base outer h₀) (F : Fr h₀ L s.heap m) (X : (K w.params).In h₀) (T : Top q looseN mean mg mb h₀) (hk : cs.kind = .function) (N : News h₀ L s.heap (led)) (p1 : Pick (wr, instObj 162 wdx) led r1) (p2 : Pick (wdx, dictOf [kE w "scale" k1 (.str (mk sc) v1), kE w "variables" k2 (.ref vl), kE w "widths" k3 (.ref wl), kE w "changes" k4 (.ref ch), kE w "now" k5 (.int (now) v5)] 5) r1 r2) (p3 : Pick (vl, listOf vvs.toArray nv) r2 r3) (p4 : Pick (wl, o) r3 r4) (p5 : Pick (ch, listOf cvs.toArray nc) r4 news) (W : WOk wdx wr vl wl ch news) (hdo : o.IsDictOf (strKind PySem.Challenge.rw_nn0316_01.prog w) kvs) (hfo : FlatPairs PyData.str kvs (Dw ns)) (hnz : ns.length ≤ 1000) (hvs : VarsAre news vvs vs) (hok : ∀ r ∈ vs, VOk r) (hvz : vs.length ≤ 10) (hcs : ChsAre news cvs cs2) (hck : ∀ c ∈ cs2, COk ns c) (hcz : cs2.length ≤ 20) (hsl : sc.length ≤ 1000)
    (hd : dp + 60 < recursionLimit) (hu : un + 700 < cLine)
    (ret : ∀ t' h' tk', Fr h₀ L h' m → News h₀ L h' ((wr, instObj 162 wdx) :: (wdx, dictOf [kE w "scale" k1 (.str (mk sc) v1), kE w "variables" k2 (.ref vl), kE w "widths" k3 (.ref wl), kE w "changes" k4 (.ref ch), kE w "now" k5 (.int (now) v5)] 5) :: (vl, listOf vvs.toArray nv) :: (wl, o) :: (ch, listOf cvs.toArray nc) :: news) → Q (.str (mk (joinN (allRows sc vs cs2))) t') { s with heap := h', toks := tk' }) :
    wpAny (model PySem.Challenge.rw_nn0316_01.prog w) (ktrTop dp un gd cn cs L a ccd cl outer) (call (.ref 159) [.ref wr]) Q E s := by
  replace N := Pick.deep5 p1 p2 p3 p4 p5 N
  clear p1 p2 p3 p4 p5
  obtain ⟨c1, c2, c3, c4, m1, m2, m3, m4, m5⟩ := W
  refine wpAny_call ?_
  ktr_call [("self", .ref wr)] ()
  k_steps
  rename Fr _ _ _ _ => F1
  rename News _ _ _ _ => N1
  rename TxtsAre _ (declRows vs) => hdr
  rename (∀ p : Addr × Obj, p ∈ (_, _) :: (wr, _) :: _ → p.1 < _) => ld
  rename (wr < _ ∧ _) => l1
  obtain ⟨dd, ra, drv, drn, e1, e2, e3, e4⟩ := nmN N1
  subst e1 e2 e3 e4
  have hrd : @LT.lt Nat _ ra dd := ld _ (.head _)
  have l0 := allLt_of' l1.2.2.2.2.2
  have hn0 := ne_of_ltAll l0
  have hdn := declRows_num hok
  have hdl := hdr.len
  obtain ⟨hh1, hh2⟩ := headRows_le (sc := sc) hsl hok
  refine go (listV (σ := List Value × Nat) (fun c => (dd, listOf drv.toArray drn) :: (ra, listOf c.1.toArray c.2) :: (wr, instObj 162 wdx) :: (wdx, dictOf [kE w "scale" k1 (.str (mk sc) v1), kE w "variables" k2 (.ref vl), kE w "widths" k3 (.ref wl), kE w "changes" k4 (.ref ch), kE w "now" k5 (.int (now) v5)] 5) :: (vl, listOf vvs.toArray nv) :: (wl, o) :: (ch, listOf cvs.toArray nc) :: news) (fun _ => []) [] (fun i c => TxtsAre c.1 ((S "$timescale " ++ sc ++ S " $end") :: (declRows vs).take i)) ([_], 0) rfl (fun _ => .head _) F1 N1 ag_nil TxtsAre.one ?_ ?_)
  · rintro i v ⟨rv, rn⟩ u h tk own hvi hJ ha F2 N2
    (repeat ((with_reducible show ∀ _, Nn.Cut _ _ → _); intro _ _))
    obtain ⟨x, tx, hx, rfl⟩ := hdr.get' hvi
    clear F1 N1
    dsimp (config := {zetaDelta := true}) only [envOf] at F2 N2 hJ
    simp only [List.cons_append] at N2
    have hown : ∀ p ∈ own, p.1 ≠ ra := ha.tail.head
    have hz : rv.length ≤ 1000 := by rw [hJ.len, List.length_cons]; have := @List.length_take_le' _ i (declRows vs); omega
    k_steps
    rename Fr _ _ _ _ => F4
    rename News _ _ _ _ => N4
    rw [List.push_toArray] at N4
    refine GEnd.intro (rv ++ [_], rn + 1) F4 N4 (by ksw_less) (by ksw_less) ha ⟨ag_nil, by ksw_same⟩ ?_
    show TxtsAre (rv ++ [_]) _
    rw [List.take_add_one, hx, ← List.cons_append]
    exact hJ.snoc
  · rintro ⟨rv, rn⟩ u h tk hJ F2 N2
    (repeat ((with_reducible show ∀ _, Nn.Cut _ _ → _); intro _ _))
    clear F1 N1
    dsimp (config := {zetaDelta := true}) only [envOf] at F2 N2 hJ
    rw [hdl, List.take_length] at hJ
    have hz : rv.length ≤ 1000 := by rw [hJ.len, List.length_cons]; omega
    k_steps
    rename Fr _ _ _ _ => F1
    rename News _ _ _ _ => N1
    rw [List.push_toArray, lit_eq] at N1
    have hJ0 : ∀ t, TxtsAre (rv ++ [.str (mk (S "$enddefinitions $end")) t]) (headRows sc vs) := fun t => hJ.snoc
    refine go (listT (σ := TS) (fun c => (dd, listOf drv.toArray drn) :: (ra, listOf c.rv.toArray c.rn) :: (wr, instObj 162 wdx) :: (wdx, dictOf [kE w "scale" k1 (.str (mk sc) v1), kE w "variables" k2 (.ref vl), kE w "widths" k3 (.ref wl), kE w "changes" k4 (.ref ch), kE w "now" k5 (.int (now) v5)] 5) :: (vl, listOf vvs.toArray nv) :: (wl, o) :: (ch, listOf cvs.toArray nc) :: news) (fun c => [(Str.ofString "now", .int c.now c.t)])
      [Str.ofString "time", Str.ofString "name", Str.ofString "value"] [Str.ofString "time", Str.ofString "name", Str.ofString "value", Str.ofString "now"]
      (fun i c => c.now = ((cs2.take i).foldl chF (-1, headRows sc vs)).1 ∧ TxtsAre c.rv ((cs2.take i).foldl chF (-1, headRows sc vs)).2) ⟨rv ++ [_], rn + 1, -1, _⟩ (by decide +kernel) rfl (fun _ => by k_mem) F1 N1 (ag_cons rfl ag_nil) ⟨rfl, hJ0 _⟩ ?_ ?_)
    · rintro i v ⟨rv2, rn2, nw, tn⟩ u s1 own hvi hJ2 ha F3 N3
      (repeat ((with_reducible show ∀ _, Nn.Cut _ _ → _); intro _ _))
      obtain ⟨va, vb, r, t1, t2, t3, t4, t5, hr, rfl, hm1, hm2⟩ := hcs.2 i v hvi
      clear F1 N1
      dsimp (config := {zetaDelta := true}) only [envOf] at F3 N3 hJ2
      simp only [List.cons_append] at N3
      obtain ⟨hnw, hrv2⟩ := hJ2
      have hc1 := hck r (List.mem_of_getElem? hr)
      have hb1 := hc1.t0
      have hb2 := hc1.t1
      have hb3 := hc1.nl
      have hb4 := hc1.w0
      have hb5 := hc1.w1
      have hb6 := hc1.lo0
      have hb7 := hc1.hi0
      have hlk := lookup_Dw r.nm ns
      rw [hc1.known] at hlk
      replace hlk : Spec.lookup (.str (mk r.nm)) (Dw ns) = some (.int r.wd) := hlk
      have hown : ∀ p ∈ own, p.1 ≠ ra := ha.tail.head
      have hit : (cs2.take i).length ≤ 20 := Nat.le_trans (List.length_take_le' _ _) hcz
      have hz : rv2.length ≤ 1000 := by
        rw [hrv2.len]
        have h3 := (chF_le (ns := ns) (cs2.take i) (-1, headRows sc vs) (fun c hc => hck c (List.mem_of_mem_take hc)) hh1).2
        dsimp only at h3
        omega
      have hst := chF_take hr (-1, headRows sc vs)
      generalize (cs2.take i).foldl chF (-1, headRows sc vs) = pq at hnw hrv2 hst
      have hnz : (Str.ofString (toString r.tm)).length ≤ 16 := numS_len hb1 (by omega)
      k_steps
      all_goals
        rename Fr _ _ _ _ => F4
        rename News _ _ _ _ => N4
        simp only [List.push_toArray] at N4
      · rename r.tm ≠ nw => hne
        rw [tm_text] at N4
        refine ⟨rfl, GEnd.intro (⟨rv2 ++ [_] ++ [_], rn2 + 1 + 1, r.tm, _⟩ : TS) F4 N4 (by ksw_less) (by ksw_less) ha ⟨ag_cons rfl ag_nil, by ksw_same⟩ ?_⟩
        rw [hst]
        refine ⟨rfl, ?_⟩
        show TxtsAre (rv2 ++ [_] ++ [_]) (pq.2 ++ chStep pq.1 r)
        unfold chStep
        rw [← hnw, if_pos hne, ← List.append_assoc]
        exact hrv2.snoc.snoc
      · rename r.tm = nw => hne
        refine ⟨rfl, GEnd.intro (⟨rv2 ++ [_], rn2 + 1, nw, _⟩ : TS) F4 N4 (by ksw_less) (by ksw_less) ha ⟨ag_cons rfl ag_nil, by ksw_same⟩ ?_⟩
        rw [hst]
        refine ⟨hne.symm, ?_⟩
        show TxtsAre (rv2 ++ [_]) (pq.2 ++ chStep pq.1 r)
        unfold chStep
        rw [← hnw, if_neg (fun h => h hne), List.nil_append]
        exact hrv2.snoc
    · rintro ⟨rv2, rn2, nw, tn⟩ u h tk hJ2 F3 N3
      (repeat ((with_reducible show ∀ _, Nn.Cut _ _ → _); intro _ _))
      obtain ⟨hnw, hrv2⟩ := hJ2
      clear F1 N1
      have et : cs2.take cvs.length = cs2 := by rw [hcs.1]; exact List.take_length
      rw [et] at hnw hrv2
      dsimp (config := {zetaDelta := true}) only [envOf] at F3 N3 hnw hrv2
      obtain ⟨hr1, hr2⟩ := chF_le (ns := ns) cs2 (-1, headRows sc vs) hck hh1
      have hjt : StrsAre rv2 ((cs2.foldl chF (-1, headRows sc vs)).2.map mk) := hrv2
      dsimp only at hr2
      have hjs := sum_le' hr1 300 (by omega)
      have hjz : (((cs2.foldl chF (-1, headRows sc vs)).2.map mk).map (·.length)).sum + ((cs2.foldl chF (-1, headRows sc vs)).2.map mk).length ≤ 1048576 := by omega
      k_extra "steps23!"
      have hjl : Txt.join (Str.ofString "\n") (List.map mk (cs2.foldl chF (-1, headRows sc vs)).2) = mk (joinBy (Str.ofString "\n") (cs2.foldl chF (-1, headRows sc vs)).2) := joinBy_eq _ _
      have hrow : (cs2.foldl chF (-1, headRows sc vs)).2 ≠ [] := chF_ne _ _ (by unfold headRows; exact fun h => nomatch h)
      have hjn : mk (joinBy (Str.ofString "\n") (cs2.foldl chF (-1, headRows sc vs)).2 ++ S "\n") = mk (joinN (cs2.foldl chF (-1, headRows sc vs)).2) := by
        rw [← mk_app, ← hjl, ← lit_eq]
        exact joinN_eq _ hrow
      have hjk := congrArg Str.length hjn
      rw [mk_len, mk_len, joinN_len, List.length_append] at hjk
      rw [hjl]
      k_steps
      rw [hjn]
      exact ret _ _ _ (by k_asm) (news_sub (by k_asm) (by ksw_less))
end Nn
end
-- P24
theorem Nn.wP24 : True := by
  (k_with "call ref!" => (k_here; (with_reducible show wpAny _ _ (call (Value.ref 274) _) _ _ _); k_dflt (refine' Nn.reader_new ?q6dd37_B ?q6dd37_F ?q6dd37_X ?q6dd37_T ?q6dd37_hk ?q6dd37_N ?q6dd37_hl ?q6dd37_hd ?q6dd37_hu ?_; (case q6dd37_B => k_asm); (case q6dd37_F => k_asm); (case q6dd37_X => k_asm); (case q6dd37_T => k_asm); (case q6dd37_hk => first | exact rfl | assumption); (case q6dd37_N => k_asm); (case q6dd37_hl => assumption); (case q6dd37_hd => ktr_room); (case q6dd37_hu => ktr_units); k_whole); intro zzrr zzrdx zzx zzdx zzsl zzvl zzwl zzch zzk1 zzk2 zzk3 zzk4 zzk5 zzk6 zzk7 zzv2 zzv7 zzt1 zzt2 zzt3 zzt4 zzt5 zzt6 zzo zzh' zztk' zzF' zzN' zzl1' zzl2' zzl3' zzl4' zzl5' zzl6' zzl7' zzl8' zzhd' zzhf' zzhs'))
  (k_with "subscriptTail Name Constant str int!" => (k_here; (with_reducible show wpAny _ _ (subscriptTail _ _ (Value.str (Nn.mk (_ :: _)) _) (Value.int 0 _)) _ _ _); k_dflt (refine' Nn.item_hd ?_ ?q7f856_hs ?q7f856_hg ?q7f856_hz; (case q7f856_hz => (first | omega | (rw [List.length_cons]; omega))); (case q7f856_hs => with_unfolding_all rfl); (case q7f856_hg => (intro _; with_unfolding_all rfl))); intro _ _))
  (k_with "steps24!" => repeat' ((fail_if_success (with_reducible show wpAny _ _ (call (Value.ref 243) _) _ _ _)); (fail_if_success (with_reducible show wpAny _ _ (call (Value.ref 264) _) _ _ _)); (fail_if_success (with_reducible show Nn.GEnd _ _ _ _ _ _ _ _ _ _ _)); (fail_if_success (with_reducible show Nn.GPost _ _ _ _ _ _ _ _ _ _ _ _ _)); (fail_if_success (with_reducible show Nn.GPostT _ _ _ _ _ _ _ _ _ _ _ _)); (fail_if_success (with_reducible show Nn.WEnd _ _ _ _ _ _ _ _ _ _ _)); (fail_if_success (with_reducible show Nn.WPost _ _ _ _ _ _ _ _ _ _ _ _ _)); first | (k_unfold; (try dsimp only)) | (k_end; wrow_close) | (walk1; all_goals (try dsimp only)) | (leave1; walk_say "STEP leave1"; try dsimp only) | ((with_reducible show ∀ _, Nn.Cut _ _ → _); intro _ _) | ((fail_if_success (with_reducible show wpAny _ _ _ _ _ _)); first | ((with_reducible refine Nn.Nx.use (by assumption) ?_); (try dsimp only)) | ((with_reducible refine Nn.Rx.ret (by assumption) ?_); (try dsimp only)) | ((with_reducible refine Nn.Rx.brk (by assumption) ?_); (try dsimp only)) | ((with_reducible refine Nn.Rx.cont (by assumption) ?_); (try dsimp only)) | ((with_reducible refine Nn.Cut.use (by assumption) ?_); (try dsimp only))) | fail "no step"))
  trivial
section
local macro_rules | `(tactic| omega) => `(tactic| k_extra "oP24")
theorem Nn.oP24 : True := by
  (k_with "oP24" => with_reducible (k_whole; first | k_extra "omega!" | ((show (_ : Nat) < _); first | exact Nn.q362 (by assumption) (by assumption) (by assumption) | fail) | ((show (_ : Nat) ≤ _); first | exact Nn.q357 (by assumption) (by assumption) | exact Nn.q389 (by assumption) (by assumption) (by assumption) (by assumption) | exact Nn.q390 (by assumption) (by assumption) (by assumption) (by assumption) (by assumption) (by assumption) | exact Nn.q391 (by assumption) | exact Nn.q364 | exact Nn.q359 (by assumption) (by assumption) (by assumption) (by assumption) (by assumption) (by assumption) (by assumption) | exact Nn.q358 (by assumption) (by assumption) (by assumption) (by assumption) (by assumption) | fail) | ((show (_ : Nat) ≠ _); first | exact Nn.q368 (by assumption) (by assumption) (by assumption) (by assumption) (by assumption) | exact Nn.q388 (by assumption) (by assumption) (by assumption) (by assumption) (by assumption) (by assumption) (by assumption) | exact Nn.q292 (by assumption) (by assumption) (by assumption) (by assumption) | fail) | fail))
  trivial
namespace Nn
theorem read_dump_s {w : World} {mean : ExcName → Option Value} {mg mb : Str → Option Value} {dp un : Nat} {gd : Option (List Code)} {cn : Str} {cs : Scope} {a : Addr} {ccd : Value} {cl : List (Str × Addr)} {outer : List Env} {A₀ : Around} {base h₀ : Heap} {L : Addr} {m : Str → Option Value} {news : List (Addr × Obj)} {s : Shared}
    {Q E : Value → Shared → Prop} {l : List Nat} {t0 : Tok} {n n2 e : Nat} {st' : RS} {cs' : List CR} {out : Option (Str × Int)}
    (B : Below A₀ base outer h₀) (F : Fr h₀ L s.heap m) (X : (K w.params).In h₀) (T : Top q looseN mean mg mb h₀) (hk : cs.kind = .function) (N : News h₀ L s.heap (news)) (hl : l.length ≤ 100000) (hD : Decls l n 0 ⟨[], [], [], []⟩ e st') (hC : Chs l st'.ns n2 e 0 [] cs' out) (hn2 : n2 ≤ 1000) (hnz : st'.ns.length ≤ 1000) (hns : ∀ nm k, wOf st'.ns nm = some k → 1 ≤ k ∧ k ≤ 1000)
    (hd : dp + 90 < recursionLimit) (hu : un + 1500 < cLine)
    (ret : out = none → ∀ (tp vl ch : Nat) vvs' nv' cvs' nc' ext u1 h' tk', Fr h₀ L h' m → News h₀ L h' ((tp, tupO [.str (mk st'.sc) u1, .ref vl, .ref ch]) :: (vl, listOf vvs'.toArray nv') :: (ch, listOf cvs'.toArray nc') :: (news ++ ext)) → VarsAre ext vvs' st'.vs → ChsAre ext cvs' cs' → Q (.ref tp) { s with heap := h', toks := tk' })
    (exc : ∀ kd k, out = some (kd, k) → ∀ g e h' tk', g.UpToSlots h' → Fr h₀ L g m → Fly w base (envX cn cs L a ccd cl :: outer) e (news) (kd) (k) h' → E (.ref e) { s with heap := h', toks := tk' }) :
    wpAny (model PySem.Challenge.rw_nn0316_01.prog w) (ktrTop dp un gd cn cs L a ccd cl outer) (call (.ref 285) [.str (mk l) t0]) Q E s := by
  refine wpAny_call ?_
  ktr_call [("text", .str (mk l) t0)] ()
  k_extra "steps24!"
  refine' rd_decls_s (vn := []) (sc0 := []) ?B ?F ?X ?T ?hk ?N ?p1 ?p2 ?p3 ?p4 ?p5 ?p6 ?p7 ?c1 ?c2 ?c3 ?c4 ?c5 ?c6 ?m1 ?m2 ?m3 ?m4 ?m5 ?m6 ?c7 ?hch ?hl ?hp0 ?hsv ?hva ?hdo ?hfo ?hD ?hd ?hu ?_
  (case hD => exact hD); (case B => k_asm); (case F => k_asm); (case X => k_asm); (case T => k_asm); (case hk => first | exact rfl | assumption); (case N => k_asm)
  (case p1 => lcg_sub); (case p2 => lcg_sub); (case p3 => lcg_sub); (case p4 => lcg_sub); (case p5 => lcg_sub); (case p6 => lcg_sub); (case p7 => lcg_sub)
  (case c1 => omega); (case c2 => omega); (case c3 => omega); (case c4 => omega); (case c5 => omega); (case c6 => omega); (case c7 => omega)
  (case m1 => krn_off); (case m2 => krn_off); (case m3 => krn_off); (case m4 => krn_off); (case m5 => krn_off); (case m6 => assumption)
  (case hch => exact .head _); (case hl => assumption); (case hp0 => exact Nat.zero_le _); (case hsv => exact TxtsAre.none); (case hva => exact ⟨rfl, fun i v e => by cases e⟩)
  (case hdo => assumption); (case hfo => assumption); (case hd => ktr_room); (case hu => ktr_units)
  k_whole
  intro a ext svs' ns1' vvs' nv' o' kvs' u2 u4 u6 h' tk' F' N' hsv' hva' hdo' hfo' hlt' he'
  simp only [List.cons_append, List.nil_append] at N' hva'
  k_extra "steps24!"
  refine' rd_changes_s (vn := []) (css := []) ?B ?F ?X ?T ?hk ?N ?p1 ?p2 ?p3 ?p4 ?p5 ?p6 ?c1 ?c2 ?c3 ?c4 ?c5 ?m1 ?m2 ?m3 ?m6 ?hl ?hp0 ?hca ?hdo ?hfo ?hnz ?hns ?hcn ?hC ?hd ?hu (fun ho a2 e2 ext2 cvs2 nc2 now2 v72 u42 u62 h2 tk2 F2 N2 hca2 hlt2 => ?_) (fun kd k ho g2 e2 h2 tk2 hs2 F2 R2 => ?_)
  (case hC => exact hC); (case B => k_asm); (case F => k_asm); (case X => k_asm); (case T => k_asm); (case hk => first | exact rfl | assumption); (case N => k_asm)
  (case p1 => lcg_sub); (case p2 => lcg_sub); (case p3 => lcg_sub); (case p4 => lcg_sub); (case p5 => lcg_sub); (case p6 => lcg_sub)
  (case c1 => omega); (case c2 => omega); (case c3 => omega); (case c4 => omega); (case c5 => omega)
  (case m1 => krn_off); (case m2 => krn_off); (case m3 => krn_off); (case m6 => assumption)
  (case hl => assumption); (case hp0 => assumption); (case hca => exact ⟨rfl, fun i v e => by cases e⟩)
  (case hdo => assumption); (case hfo => assumption); (case hnz => assumption); (case hns => assumption); (case hcn => (show 0 + _ ≤ _; omega)); (case hd => ktr_room); (case hu => ktr_units)
  · simp only [List.cons_append, List.nil_append] at N2 hca2
    k_extra "steps24!"
    rename Fr _ _ _ _ => F3
    rename News _ _ _ _ => N3
    exact ret ho _ _ _ vvs' nv' cvs2 nc2 (ext ++ ext2) _ _ _ F3 (news_sub N3 (by ksw_less)) (hva'.mono (fun p hp => List.mem_append.mpr (.inl hp))) (hca2.mono (fun p hp => List.mem_append.mpr (.inr hp)))
  · refine pass_on (by k_asm) F2 hs2 R2 ?_
    intro h3 hs3 R3
    try dsimp only
    replace exc := exc kd k ho
    exact exc _ _ _ _ (by assumption) (by assumption) (Fly.sub (by assumption) (by ksw_less))
end Nn
end
-- P25
section
local macro_rules | `(tactic| omega) => `(tactic| k_extra "oP25")
theorem Nn.oP25 : True := by
  (k_with "oP25" => with_reducible (k_whole; first | k_extra "omega!" | ((show (_ : Nat) ≤ _); first | exact Nn.q395 (by assumption) (by assumption) | fail) | ((show (_ : Int) < _); first | exact Nn.q394 (by assumption) (by assumption) (by assumption) | exact Nn.q396 (by assumption) (by assumption) | fail) | ((show (_ : Int) ≤ _); first | exact Nn.q392 (by assumption) | exact Nn.q393 (by assumption) (by assumption) | fail) | ((show (_ : Int) ≠ _); first | exact Nn.q397 (by assumption) (by assumption) | fail) | fail))
  trivial
namespace Nn
theorem law_pick_s {w : World} {mean : ExcName → Option Value} {mg mb : Str → Option Value} {dp un : Nat} {gd : Option (List Code)} {cn : Str} {cs : Scope} {a : Addr} {ccd : Value} {cl : List (Str × Addr)} {outer : List Env} {A₀ : Around} {base h₀ : Heap} {L : Addr} {m : Str → Option Value} {news : List (Addr × Obj)} {s : Shared}
    {Q E : Value → Shared → Prop} {pl fl np nf : Nat} {fvs : List Value} {fs : List Int} {ix mx : Int} {pt1 pt2 : Tok} {led : List (Addr × Obj)} {bd : Int} {t1 : Tok}
    (B : Below A₀ base outer h₀) (F : Fr h₀ L s.heap m) (X : (K w.params).In h₀) (T : Top q looseN mean mg mb h₀) (hk : cs.kind = .function) (N : News h₀ L s.heap (led)) (p1 : Pick (pl, listOf #[.ref fl, .int ix pt1, .int mx pt2] np) led news) (hfm : (fl, listOf fvs.toArray nf) ∈ news) (hnp : ∀ p ∈ news, p.1 ≠ pl) (hfi : IntsAre fvs fs) (hfz : fs.length ≤ 500) (hfb : ∀ f ∈ fs, 0 ≤ f ∧ f < 840) (hix : 0 ≤ ix ∧ ix ≤ fs.length) (hmx : 0 ≤ mx ∧ mx < 1009) (hbd : 0 < bd ∧ bd ≤ 1000)
    (hd : dp + 15 < recursionLimit) (hu : un + 300 < cLine)
    (ret : ∀ (ix' mx' : Int) pt1' pt2' np' r t h' tk', 0 ≤ ix' ∧ ix' ≤ (fs.length : Int) → 0 ≤ mx' ∧ mx' < 1009 → Fr h₀ L h' m → News h₀ L h' ((pl, listOf #[.ref fl, .int ix' pt1', .int mx' pt2'] np') :: news) → 0 ≤ r ∧ r < bd → Q (.int r t) { s with heap := h', toks := tk' }) :
    wpAny (model PySem.Challenge.rw_nn0316_01.prog w) (ktrTop dp un gd cn cs L a ccd cl outer) (call (.ref 299) [.ref pl, .int bd t1]) Q E s := by
  replace N := p1.news N
  clear p1
  obtain ⟨hix0, hix1⟩ := hix
  obtain ⟨hmx0, hmx1⟩ := hmx
  obtain ⟨hbd0, hbd1⟩ := hbd
  have hfl : fvs.length = fs.length := hfi.length
  have hfm2 : ∀ x : Int, 0 ≤ x.fmod bd ∧ x.fmod bd < bd := fun x => ⟨Int.fmod_nonneg_of_pos x hbd0, Int.fmod_lt_of_pos x hbd0⟩
  refine wpAny_call ?_
  ktr_call [("pool", .ref pl), ("bound", .int bd t1)] ()
  k_steps
  · rename ix < _ => hlt
    exact ret (ix + 1) mx _ _ _ _ _ _ _ ⟨by omega, by omega⟩ ⟨hmx0, hmx1⟩ (by k_asm) (news_sub (by k_asm) (by ksw_less)) (hfm2 _)
  · exact ret ix mx _ _ _ _ _ _ _ ⟨hix0, hix1⟩ ⟨hmx0, hmx1⟩ (by k_asm) (news_sub (by k_asm) (by ksw_less)) (hfm2 _)
  · exact ret ix _ _ _ _ _ _ _ _ ⟨hix0, hix1⟩ ⟨Int.fmod_nonneg_of_pos _ (by decide), Int.fmod_lt_of_pos _ (by decide)⟩ (by k_asm) (news_sub (by k_asm) (by ksw_less)) (hfm2 _)
end Nn
end
-- P26
theorem Nn.wP26 : True := by
  (k_with "call ref!" => (k_here; (with_reducible show wpAny _ _ (call (Value.ref 299) _) _ _ _); skip; k_dflt (refine' Nn.law_pick_s ?q2933a_B ?q2933a_F ?q2933a_X ?q2933a_T ?q2933a_hk ?q2933a_N ?q2933a_p1 ?q2933a_hfm ?q2933a_hnp ?q2933a_hfi ?q2933a_hfz ?q2933a_hfb ?q2933a_hix ?q2933a_hmx ?q2933a_hbd ?q2933a_hd ?q2933a_hu ?_; (case q2933a_B => k_asm); (case q2933a_F => k_asm); (case q2933a_X => k_asm); (case q2933a_T => k_asm); (case q2933a_hk => first | exact rfl | assumption); (case q2933a_N => k_asm); (case q2933a_p1 => lcg_sub); (case q2933a_hfm => k_mem); (case q2933a_hnp => first | assumption | krn_off); (case q2933a_hfi => assumption); (case q2933a_hfz => assumption); (case q2933a_hfb => assumption); (case q2933a_hix => assumption); (case q2933a_hmx => assumption); (case q2933a_hbd => first | assumption | decide | omega); (case q2933a_hd => ktr_room); (case q2933a_hu => ktr_units); k_whole); intro zzix' zzmx' zzpt1' zzpt2' zznp' zzr' zzt' zzh' zztk' zzhix' zzhmx' zzF' zzN' zzhr'; (try dsimp only)))
  trivial
section
local macro_rules | `(tactic| omega) => `(tactic| k_extra "oP26")
theorem Nn.oP26 : True := by
  (k_with "oP26" => with_reducible (k_whole; first | k_extra "omega!" | ((show (_ : Nat) ≤ _); first | exact Nn.q401 (by assumption) (by assumption) | fail) | ((show (_ : Int) < _); first | exact Nn.q399 (by assumption) | exact Nn.q400 (by assumption) (by assumption) | exact Nn.q403 (by assumption) (by assumption) (by assumption) (by assumption) (by assumption) | fail) | ((show (_ : Int) = _); first | exact Nn.q402 (by assumption) | fail) | ((show _ ∧ _); first | exact Nn.q398 (by assumption) (by assumption) | exact Nn.q404 (by assumption) (by assumption) | exact Nn.q406 (by assumption) (by assumption) | exact Nn.q407 (by assumption) (by assumption) | fail) | ((show _ ∨ _); first | exact Nn.q405 (by assumption) | fail) | fail))
  trivial
namespace Nn
structure LV where
  lo : Int
  hi : Int
  la : Int
  ix : Int
  mx : Int
  pt1 : Tok
  pt2 : Tok
  np : Nat
  t1 : Tok
  t2 : Tok
  t3 : Tok
theorem lv_step {lo hi la : Int} {j : Nat} (h1 : 0 ≤ lo ∧ lo < 2 ^ j) (h2 : 0 ≤ hi ∧ hi < 2 ^ j) (h3 : 0 ≤ la ∧ la < 4) : (0 ≤ 2 * lo + la.fmod 2 ∧ 2 * lo + la.fmod 2 < 2 ^ (j + 1)) ∧ (0 ≤ 2 * hi + la.fdiv 2 ∧ 2 * hi + la.fdiv 2 < 2 ^ (j + 1)) := by
  have e : (2 : Int) ^ (j + 1) = 2 ^ j * 2 := rfl
  rw [e]
  have h4 : la = 0 ∨ la = 1 ∨ la = 2 ∨ la = 3 := by omega
  rcases h4 with rfl | rfl | rfl | rfl
  · rw [show Int.fmod 0 2 = 0 by decide, show Int.fdiv 0 2 = 0 by decide]; omega
  · rw [show Int.fmod 1 2 = 1 by decide, show Int.fdiv 1 2 = 0 by decide]; omega
  · rw [show Int.fmod 2 2 = 0 by decide, show Int.fdiv 2 2 = 1 by decide]; omega
  · rw [show Int.fmod 3 2 = 1 by decide, show Int.fdiv 3 2 = 1 by decide]; omega
theorem two_le {j : Nat} (h : j ≤ 40) : (2 : Int) ^ j ≤ 1099511627776 := by
  have h1 : (2 : Nat) ^ j ≤ 2 ^ 40 := Nat.pow_le_pow_right (by decide) h
  have h2 : ((2 ^ j : Nat) : Int) ≤ ((2 ^ 40 : Nat) : Int) := Int.ofNat_le.mpr h1
  rw [Int.natCast_pow] at h2
  exact h2
theorem law_value_s {w : World} {mean : ExcName → Option Value} {mg mb : Str → Option Value} {dp un : Nat} {gd : Option (List Code)} {cn : Str} {cs : Scope} {a : Addr} {ccd : Value} {cl : List (Str × Addr)} {outer : List Env} {A₀ : Around} {base h₀ : Heap} {L : Addr} {m : Str → Option Value} {news : List (Addr × Obj)} {s : Shared}
    {Q E : Value → Shared → Prop} {pl fl np nf : Nat} {fvs : List Value} {fs : List Int} {ix mx : Int} {pt1 pt2 : Tok} {led : List (Addr × Obj)} {wn : Nat} {t1 : Tok}
    (B : Below A₀ base outer h₀) (F : Fr h₀ L s.heap m) (X : (K w.params).In h₀) (T : Top q looseN mean mg mb h₀) (hk : cs.kind = .function) (N : News h₀ L s.heap (led)) (p1 : Pick (pl, listOf #[.ref fl, .int ix pt1, .int mx pt2] np) led news) (hfm : (fl, listOf fvs.toArray nf) ∈ news) (hnp : ∀ p ∈ news, p.1 ≠ pl) (hfi : IntsAre fvs fs) (hfz : fs.length ≤ 500) (hfb : ∀ f ∈ fs, 0 ≤ f ∧ f < 840) (hix : 0 ≤ ix ∧ ix ≤ fs.length) (hmx : 0 ≤ mx ∧ mx < 1009) (hwn : 1 ≤ wn ∧ wn ≤ 40)
    (hd : dp + 25 < recursionLimit) (hu : un + 400 < cLine)
    (ret : ∀ (ix' mx' : Int) pt1' pt2' np' va lo hi u1 u2 u3 h' tk', 0 ≤ ix' ∧ ix' ≤ (fs.length : Int) → 0 ≤ mx' ∧ mx' < 1009 → Fr h₀ L h' m → News h₀ L h' ((va, tupO [.int (wn : Int) u1, .int lo u2, .int hi u3]) :: (pl, listOf #[.ref fl, .int ix' pt1', .int mx' pt2'] np') :: news) → (0 ≤ lo ∧ lo < 2 ^ wn) → (0 ≤ hi ∧ hi < 2 ^ wn) → (∀ p ∈ news, p.1 < va) → @LT.lt Nat _ pl va → Q (.ref va) { s with heap := h', toks := tk' }) :
    wpAny (model PySem.Challenge.rw_nn0316_01.prog w) (ktrTop dp un gd cn cs L a ccd cl outer) (call (.ref 306) [.ref pl, .int (wn : Int) t1]) Q E s := by
  replace N := p1.news N
  clear p1
  refine wpAny_call ?_
  ktr_call [("pool", .ref pl), ("width", .int (wn : Int) t1)] ()
  k_steps
  rename IsRange _ _ _ _ _ _ _ _ => rg
  rename Fr _ _ _ _ => F1
  rename News _ _ _ _ => N1
  rename (0 ≤ _ ∧ _ < 1009) => hmx1
  rename (0 ≤ _ ∧ _ < 4) => hr1
  rename (0 ≤ _ ∧ _ ≤ (fs.length : Int)) => hix1
  refine go (rangeK (σ := LV) (n := wn) (fun c => (pl, listOf #[.ref fl, .int c.ix c.pt1, .int c.mx c.pt2] c.np) :: news) (fun c => [(Str.ofString "low", .int c.lo c.t1), (Str.ofString "high", .int c.hi c.t2), (Str.ofString "last", .int c.la c.t3)]) []
    (fun j c => (0 ≤ c.lo ∧ c.lo < 2 ^ j) ∧ (0 ≤ c.hi ∧ c.hi < 2 ^ j) ∧ (0 ≤ c.la ∧ c.la < 4) ∧ (0 ≤ c.ix ∧ c.ix ≤ (fs.length : Int)) ∧ (0 ≤ c.mx ∧ c.mx < 1009)) ⟨0, 0, _, _, _, _, _, _, _, _, _⟩ rfl rg ?_ ?_ F1 N1 (ag_cons rfl (ag_cons rfl (ag_cons rfl ag_nil))) ⟨⟨Int.le_refl 0, Int.zero_lt_one⟩, ⟨Int.le_refl 0, Int.zero_lt_one⟩, hr1, hix1, hmx1⟩ ?_ ?_)
  · exact small_one (by omega) (by omega) (by omega) (by omega)
  · rw [rangeSize_nat]; omega
  · rintro j k t ⟨lo, hi, la, ix, mx, q1, q2, np, q3, q4, q5⟩ u h tk own hki hj hJ ha F2 N2
    (repeat ((with_reducible show ∀ _, Nn.Cut _ _ → _); intro _ _))
    clear F1 N1
    dsimp (config := {zetaDelta := true}) only [envOf] at F2 N2 hJ
    obtain ⟨⟨hlo0, hlo1⟩, ⟨hhi0, hhi1⟩, ⟨hla0, hla1⟩, hix2, hmx2⟩ := hJ
    simp only [List.cons_append] at N2
    have h2j := two_le (j := j) (by omega)
    have hown : ∀ p ∈ own, p.1 ≠ pl := ha.head
    have hnn : ∀ p ∈ news ++ own, p.1 ≠ pl := off_app hnp hown
    have hlo2 : lo < 1099511627776 := by omega
    have hhi2 : hi < 1099511627776 := by omega
    k_steps
    · rename Fr _ _ _ _ => F3
      rename News _ _ _ _ => N3
      rename (0 ≤ _ ∧ _ < 1009) => hmx3
      rename (0 ≤ _ ∧ _ ≤ (fs.length : Int)) => hix3
      have hst := lv_step ⟨hlo0, hlo1⟩ ⟨hhi0, hhi1⟩ ⟨hla0, hla1⟩
      exact GEnd.intro (⟨_, _, la, _, _, _, _, _, _, _, _⟩ : LV) F3 N3 (by ksw_less) (by ksw_less) (by exact ha) ⟨ag_cons rfl (ag_cons rfl (ag_cons rfl ag_nil)), by ksw_same⟩ ⟨hst.1, hst.2, ⟨hla0, hla1⟩, hix3, hmx3⟩
    · rename Fr _ _ _ _ => F3
      rename News _ _ _ _ => N3
      rename (0 ≤ _ ∧ _ < 1009) => hmx3
      rename (0 ≤ _ ∧ _ < 4) => hla3
      rename (0 ≤ _ ∧ _ ≤ (fs.length : Int)) => hix3
      have hst := lv_step ⟨hlo0, hlo1⟩ ⟨hhi0, hhi1⟩ hla3
      exact GEnd.intro (⟨_, _, _, _, _, _, _, _, _, _, _⟩ : LV) F3 N3 (by ksw_less) (by ksw_less) (by exact ha) ⟨ag_cons rfl (ag_cons rfl (ag_cons rfl ag_nil)), by ksw_same⟩ ⟨hst.1, hst.2, hla3, hix3, hmx3⟩
  · rintro ⟨lo, hi, la, ix, mx, q1, q2, np, q3, q4, q5⟩ u h tk hJ F2 N2
    (repeat ((with_reducible show ∀ _, Nn.Cut _ _ → _); intro _ _))
    clear F1 N1
    dsimp (config := {zetaDelta := true}) only [envOf] at F2 N2 hJ
    obtain ⟨hlo, hhi, hla, hix2, hmx2⟩ := hJ
    k_steps
    rename Fr _ _ _ _ => F3
    rename News _ _ _ _ => N3
    rename (pl < _ ∧ _) => lt
    exact ret _ _ _ _ _ _ _ _ _ _ _ _ _ hix2 hmx2 F3 (news_sub N3 (by ksw_less)) hlo hhi (allLt_of' lt.2) lt.1
end Nn
end
-- P27
section
local macro_rules | `(tactic| omega) => `(tactic| k_extra "oP27")
theorem Nn.oP27 : True := by
  (k_with "oP27" => with_reducible (k_whole; first | k_extra "omega!" | ((show (_ : Nat) < _); first | exact Nn.q408 (by assumption) (by assumption) | exact Nn.q409 (by assumption) (by assumption) | exact Nn.q410 (by assumption) (by assumption) | exact Nn.q413 (by assumption) (by assumption) | exact Nn.q414 (by assumption) (by assumption) | exact Nn.q415 (by assumption) (by assumption) | exact Nn.q416 (by assumption) (by assumption) | exact Nn.q418 (by assumption) (by assumption) | exact Nn.q419 (by assumption) (by assumption) | exact Nn.q420 (by assumption) (by assumption) | exact Nn.q421 (by assumption) (by assumption) | exact Nn.q424 (by assumption) (by assumption) | fail) | ((show (_ : Nat) = _); first | exact Nn.q417 | fail) | ((show (_ : Int) ≤ _); first | exact Nn.q412 (by assumption) | exact Nn.q196 | exact Nn.q423 (by assumption) | fail) | fail))
  trivial
namespace Nn
noncomputable def rowsOf (wd : Nat) : List (List Nat × List Nat × Int) := [(S "", S "", 0), (S "?", S "unexpected_word", 0), (S "$foo $end", S "unexpected_word", 0), (S "1~~~", S "unknown_id", 0), (S "b10 ~~~", S "unknown_id", 0), (S "b1", S "unknown_id", 0), (S "r1.5 !", S "real_unsupported", 0), (S "#", S "bad_number", 1), (S "#1x", S "bad_number", 1), (S "b !", S "wrong_width", 0), (S "b" ++ List.replicate (wd + 1) 48 ++ S " !", S "wrong_width", 0), (S "b2 !", S "bad_digit", 0), (S "$comment a b", S "end_missing", 0)]
noncomputable def RA (led : List (Addr × Obj)) (rvs : List Value) (rows : List (List Nat × List Nat × Int)) : Prop := rvs.length = rows.length ∧ ∀ (i : Nat) (v : Value), rvs[i]? = some v → ∃ (a : Nat) (r : List Nat × List Nat × Int) (t1 t2 t3 : Tok), rows[i]? = some r ∧ v = .ref a ∧ (a, tupO [.str (mk r.1) t1, .str (mk r.2.1) t2, .int r.2.2 t3]) ∈ led
theorem RA.nil {led} : RA led [] [] := ⟨rfl, fun i v e => by cases e⟩
theorem RA.cons {led vs rows} {a : Nat} {X Y : Str} {x y : List Nat} {k : Int} {t1 t2 t3 : Tok} (hX : X = mk x) (hY : Y = mk y) (hm : (a, tupO [.str X t1, .str Y t2, .int k t3]) ∈ led) (h : RA led vs rows) : RA led (.ref a :: vs) ((x, y, k) :: rows) := by
  refine ⟨by rw [List.length_cons, List.length_cons, h.1], fun i v e => ?_⟩
  cases i with
  | zero =>
    cases e
    subst hX hY
    exact ⟨a, (x, y, k), t1, t2, t3, rfl, rfl, hm⟩
  | succ i =>
    exact h.2 i v e
theorem wide_row (wd : Nat) : Str.ofString "b" ++ Txt.mul (Str.ofString "0") ((wd : Int) + 1) ++ Str.ofString " !" = mk (S "b" ++ List.replicate (wd + 1) 48 ++ S " !") := by
  rw [show Str.ofString "0" = mk [48] by decide +kernel, mul_eq 48 (by omega), lit_eq, lit_eq, mk_app, mk_app, show ((wd : Int) + 1).toNat = wd + 1 by omega]
theorem nm13 {h₀ h : Heap} {L d n : Nat} {vs : List Value} {p1 p2 p3 p4 p5 p6 p7 p8 p9 p10 p11 p12 p13 : Addr × Obj} {news : List (Addr × Obj)} (N : News h₀ L h ((d, listOf vs.toArray n) :: p1 :: p2 :: p3 :: p4 :: p5 :: p6 :: p7 :: p8 :: p9 :: p10 :: p11 :: p12 :: p13 :: news)) :
    ∃ (d' : Nat) (vs' : List Value) (n' : Nat) (ext : List (Addr × Obj)), d' = d ∧ vs' = vs ∧ n' = n ∧ ext = [p1, p2, p3, p4, p5, p6, p7, p8, p9, p10, p11, p12, p13] ∧ News h₀ L h ((d', listOf vs'.toArray n') :: (news ++ ext)) :=
  ⟨_, _, _, _, rfl, rfl, rfl, rfl, news_sub N (by
    intro p hp
    rcases List.mem_cons.mp hp with rfl | hp
    · exact .head _
    · rcases List.mem_append.mp hp with h | h
      · simp [h]
      · simp only [List.mem_cons, List.not_mem_nil, or_false] at h ⊢
        rcases h with rfl | rfl | rfl | rfl | rfl | rfl | rfl | rfl | rfl | rfl | rfl | rfl | rfl <;> simp)⟩
theorem law_rows_s {w : World} {mean : ExcName → Option Value} {mg mb : Str → Option Value} {dp un : Nat} {gd : Option (List Code)} {cn : Str} {cs : Scope} {a : Addr} {ccd : Value} {cl : List (Str × Addr)} {outer : List Env} {A₀ : Around} {base h₀ : Heap} {L : Addr} {m : Str → Option Value} {news : List (Addr × Obj)} {s : Shared}
    {Q E : Value → Shared → Prop} {wd : Nat} {t1 : Tok}
    (B : Below A₀ base outer h₀) (F : Fr h₀ L s.heap m) (X : (K w.params).In h₀) (T : Top q looseN mean mg mb h₀) (hk : cs.kind = .function) (N : News h₀ L s.heap (news)) (hwd : wd ≤ 40)
    (hd : dp + 15 < recursionLimit) (hu : un + 300 < cLine)
    (ret : ∀ d rvs nn ext h' tk', RA ext rvs (rowsOf wd) → Fr h₀ L h' m → News h₀ L h' ((d, listOf rvs.toArray nn) :: (news ++ ext)) → (∀ p ∈ news, p.1 < d) → (∀ p ∈ ext, ∀ r ∈ news, @LT.lt Nat _ r.1 p.1) → Q (.ref d) { s with heap := h', toks := tk' }) :
    wpAny (model PySem.Challenge.rw_nn0316_01.prog w) (ktrTop dp un gd cn cs L a ccd cl outer) (call (.ref 313) [.int (wd : Int) t1]) Q E s := by
  refine wpAny_call ?_
  ktr_call [("width", .int (wd : Int) t1)] ()
  k_steps
  rename Fr _ _ _ _ => F3
  rename News h₀ _ _ _ => N3
  rename (_ < _ ∧ _ < _ ∧ _ < _ ∧ _ < _ ∧ _ < _ ∧ _ < _ ∧ _ < _ ∧ _ < _ ∧ _ < _ ∧ _ < _ ∧ _ < _ ∧ _ < _ ∧ _ < _ ∧ AllLt _ _) => lz
  rename (∀ p : Addr × Obj, p ∈ news → p.1 < _) => l00
  have lz2 := allLt_of' lz.2.2.2.2.2.2.2.2.2.2.2.2.2
  obtain ⟨d, rvs, nn, ext, e1, e2, e3, e4, N4⟩ := nm13 N3
  subst e1 e3
  have hra : RA ext rvs (rowsOf wd) := by
    rw [e4, e2]
    refine RA.cons (lit_eq _) (lit_eq _) (by k_mem) ?_
    refine RA.cons (lit_eq _) (lit_eq _) (by k_mem) ?_
    refine RA.cons (lit_eq _) (lit_eq _) (by k_mem) ?_
    refine RA.cons (lit_eq _) (lit_eq _) (by k_mem) ?_
    refine RA.cons (lit_eq _) (lit_eq _) (by k_mem) ?_
    refine RA.cons (lit_eq _) (lit_eq _) (by k_mem) ?_
    refine RA.cons (lit_eq _) (lit_eq _) (by k_mem) ?_
    refine RA.cons (lit_eq _) (lit_eq _) (by k_mem) ?_
    refine RA.cons (lit_eq _) (lit_eq _) (by k_mem) ?_
    refine RA.cons (lit_eq _) (lit_eq _) (by k_mem) ?_
    refine RA.cons (wide_row wd) (lit_eq _) (by k_mem) ?_
    refine RA.cons (lit_eq _) (lit_eq _) (by k_mem) ?_
    refine RA.cons (lit_eq _) (lit_eq _) (by k_mem) ?_
    exact RA.nil
  refine ret d rvs 0 ext _ _ hra F3 N4 lz2 ?_
  intro p hp r hr
  have h1 : @LT.lt Nat _ r.1 _ := l00 r hr
  clear ret N3 N4 hra
  rw [e4] at hp
  simp only [List.mem_cons, List.not_mem_nil, or_false] at hp
  rcases hp with rfl | rfl | rfl | rfl | rfl | rfl | rfl | rfl | rfl | rfl | rfl | rfl | rfl <;> (dsimp only; omega)
end Nn
end
-- P28
section
local macro_rules | `(tactic| omega) => `(tactic| k_extra "oP28")
theorem Nn.oP28 : True := by
  (k_with "oP28" => with_reducible (k_whole; first | k_extra "omega!" | ((show (_ : Nat) < _); first | exact Nn.q428 (by assumption) (by assumption) (by assumption) | exact Nn.q431 (by assumption) (by assumption) | fail) | ((show (_ : Nat) ≤ _); first | exact Nn.q425 (by assumption) (by assumption) (by assumption) | exact Nn.q32 (by assumption) | exact Nn.q426 (by assumption) (by assumption) (by assumption) | exact Nn.q427 (by assumption) | exact Nn.q429 (by assumption) (by assumption) (by assumption) (by assumption) | exact Nn.q430 (by assumption) (by assumption) (by assumption) | exact Nn.q432 (by assumption) (by assumption) | exact Nn.q434 (by assumption) (by assumption) (by assumption) | exact Nn.q436 (by assumption) (by assumption) (by assumption) | exact Nn.q437 (by assumption) | exact Nn.q440 (by assumption) (by assumption) (by assumption) (by assumption) | fail) | ((show (_ : Nat) = _); first | exact Nn.q433 (by assumption) | fail) | ((show (_ : Int) ≤ _); first | exact Nn.q438 (by assumption) | exact Nn.q439 (by assumption) | fail) | ((show (_ : Int) = _); first | exact Nn.q435 | fail) | fail))
  trivial
namespace Nn
theorem islist_keep {h₀ h : Heap} {a : Addr} {its : Array Value} (k : ∀ b o, h₀.get? b = some o → h.get? b = some o) (hl : h₀.IsList a its) : h.IsList a its := by
  obtain ⟨o, e, r⟩ := hl
  exact ⟨o, k _ _ e, r⟩
theorem ints_take : ∀ {vs : List Value} {ks : List Int}, IntsAre vs ks → ∀ n : Nat, IntsAre (vs.take n) (ks.take n)
  | _, _, _, 0 => .nil
  | _, _, .nil, _ + 1 => .nil
  | _, _, .cons a t h, n + 1 => .cons a t (ints_take h n)
theorem ints_get : ∀ {vs : List Value} {ks : List Int}, IntsAre vs ks → ∀ {i : Nat} {v : Value}, vs[i]? = some v → ∃ c t, ks[i]? = some c ∧ v = .int c t
  | _, _, .nil, i, v, e => by cases e
  | _, _, .cons a t h, 0, v, e => by cases e; exact ⟨a, t, rfl, rfl⟩
  | _, _, .cons a t h, i + 1, v, e => ints_get h (i := i) e
theorem slice_to_i {prog : Program} {w : World} {A : Around} {E : Value → Shared → Prop} {h₀ : Heap} {L l : Addr} {m : Str → Option Value} {led : List (Addr × Obj)} {Q : Value → Shared → Prop} {vs : List Value} {u : Tok} {value slice : Expr} {hp : Heap} {gg : Array GenState} {dd : Drawn} {tt : Nat} {oo : OsState} {j : Nat} (F : Fr h₀ L hp m) (N : News h₀ L hp led) (hl : hp.IsList l vs.toArray) (hz : vs.length ≤ 1000)
    (h : ∀ (d : Nat) h', Fr h₀ L h' m → News h₀ L h' ((d, listOf (vs.take j).toArray 0) :: led) → (∀ p ∈ led, p.1 < d) → Q (.ref d) ⟨h', gg, dd, tt, oo⟩)
    (hs : subscripted slice false (.ref l) (.ref hp.objs.size) = operate [.ref hp.objs.size, .ref l] (getItem (.ref l) (.ref hp.objs.size)))
    (hg : ∀ r, letTemporaryGo value (.ref l) r = pure ()) :
    wpAny (model prog w) A (subscriptTail value slice (.ref l) (.ref hp.objs.size)) Q E ⟨hp.push { cls := .type "slice", data := .fields #[.none, .int (j : Int) u, .none] }, gg, dd, tt, oo⟩ := by
  refine slice_list (s := ⟨hp, gg, dd, tt, oo⟩) F N hl .none (.int (j : Int) u) (fun h' F' N' => h _ h' F' ?_ fun p hp => Nat.lt_succ_of_lt (Heap.lt_size (N p hp).1)) hs hg (by rw [sizeLine_eq, List.size_toArray]; omega)
  rw [slicePick_upto' vs.toArray j] at N'
  exact N'
structure PL where
  fvs : List Value
  fs : List Int
  nf : Nat
  mx : Int
  t : Tok
structure PI where
  fvs : List Value
  fs : List Int
  nf : Nat
  re : Int
  t : Tok
theorem law_pool_s {w : World} {mean : ExcName → Option Value} {mg mb : Str → Option Value} {dp un : Nat} {gd : Option (List Code)} {cn : Str} {cs : Scope} {a : Addr} {ccd : Value} {cl : List (Str × Addr)} {outer : List Env} {A₀ : Around} {base h₀ : Heap} {L : Addr} {m : Str → Option Value} {news : List (Addr × Obj)} {s : Shared}
    {Q E : Value → Shared → Prop} {sa : Addr} {vs : List Value} {ns : List Int}
    (B : Below A₀ base outer h₀) (F : Fr h₀ L s.heap m) (X : (K w.params).In h₀) (T : Top q looseN mean mg mb h₀) (hk : cs.kind = .function) (N : News h₀ L s.heap (news)) (hsl : h₀.IsList sa vs.toArray) (hsi : IntsAre vs ns) (hsz : ns.length ≤ 63) (hlay : (PyData.list (ns.map PyData.int)).layable0 = true)
    (hd : dp + 15 < recursionLimit) (hu : un + 300 < cLine)
    (ret : ∀ (pl fl nf : Nat) fvs fs mx t1 t2 h' tk', IntsAre fvs fs → fs.length ≤ 500 → (∀ f ∈ fs, 0 ≤ f ∧ f < 840) → 0 ≤ mx ∧ mx < 1009 → Fr h₀ L h' m → News h₀ L h' ((pl, listOf #[.ref fl, .int 0 t1, .int mx t2] 0) :: (fl, listOf fvs.toArray nf) :: news) → (∀ p ∈ news, p.1 < fl) → @LT.lt Nat _ fl pl → Q (.ref pl) { s with heap := h', toks := tk' }) :
    wpAny (model PySem.Challenge.rw_nn0316_01.prog w) (ktrTop dp un gd cn cs L a ccd cl outer) (call (.ref 292) [.ref sa]) Q E s := by
  refine wpAny_call ?_
  ktr_call [("script", .ref sa)] ()
  k_steps
  rename Fr h₀ _ _ _ => FG
  rename Fr _ _ _ _ => F1
  rename News _ _ _ _ => N1
  rename (∀ p : Addr × Obj, p ∈ news → p.1 < _) => l1
  have hvl : vs.length ≤ 63 := by rw [hsi.length]; exact hsz
  have hc := islist_keep F1.keep (islist_keep FG.keep hsl)
  refine slice_to_i (j := 40) F1 N1 hc (by omega) (fun d h2 F2 N2 l2 => ?_) (by with_unfolding_all rfl) (by intro _; with_unfolding_all rfl)
  obtain ⟨fl, er⟩ := nm1 (l := _) (news_sub N2 (fun p hp => .tail _ hp))
  subst er
  have lfd : @LT.lt Nat _ fl d := l2 _ (.head _)
  have hit := ints_take hsi 40
  clear F1 N1 hc
  k_steps
  rename Fr _ _ _ _ => F1
  rename News _ _ _ _ => N1
  refine go (listV (σ := PL) (fun c => (d, listOf (vs.take 40).toArray 0) :: (fl, listOf c.fvs.toArray c.nf) :: news) (fun c => [(Str.ofString "mix", .int c.mx c.t)]) [Str.ofString "big", Str.ofString "rest", Str.ofString "step"]
    (fun i c => IntsAre c.fvs c.fs ∧ c.fs.length ≤ 400 ∧ (∀ f ∈ c.fs, 0 ≤ f ∧ f < 840) ∧ 0 ≤ c.mx ∧ c.mx < 1009) ⟨[], [], 0, 5, _⟩ rfl (fun _ => .head _) F1 N1 (ag_cons rfl ag_nil) ⟨.nil, Nat.zero_le _, (fun _ h => nomatch h), (show (0 : Int) ≤ 5 by decide), (show (5 : Int) < 1009 by decide)⟩ ?_ ?_)
  · rintro i v ⟨fvs, fs, nf, mx, tm⟩ u h tk own hvi hJ ha F2 N2
    (repeat ((with_reducible show ∀ _, Nn.Cut _ _ → _); intro _ _))
    obtain ⟨hfi, hfz, hfb, hm0, hm1⟩ := hJ
    obtain ⟨cc, ct, hcc, rfl⟩ := ints_get hit hvi
    clear F1 N1
    dsimp (config := {zetaDelta := true}) only [envOf] at F2 N2 hfi hfz hfb hm0 hm1
    simp only [List.cons_append] at N2
    have hown : ∀ p ∈ own, p.1 ≠ fl := ha.tail.head
    have hcl : fvs.length = fs.length := hfi.length
    k_steps
    rename IsRange _ _ _ _ _ _ _ _ => rg
    rename Fr _ _ _ _ => F1
    rename News _ _ _ _ => N1
    refine go (rangeK (σ := PI) (n := 60) (fun c => (d, listOf (vs.take 40).toArray 0) :: (fl, listOf c.fvs.toArray c.nf) :: (news ++ own)) (fun c => [(Str.ofString "rest", .int c.re c.t)]) []
      (fun j c => IntsAre c.fvs c.fs ∧ c.fs.length ≤ 400 + j ∧ (∀ f ∈ c.fs, 0 ≤ f ∧ f < 840) ∧ 0 ≤ c.re) ⟨fvs, fs, nf, _, _⟩ rfl rg ?_ ?_ F1 N1 (ag_cons rfl ag_nil) ⟨hfi, Nat.le_trans hfz (Nat.le_add_right _ _), hfb, by show 0 ≤ if cc < 0 then -cc else cc; split <;> omega⟩ ?_ ?_)
    · exact small_one (by omega) (by omega) (by omega) (by omega)
    · rw [rangeSize_nat]; omega
    · rintro j k t ⟨fvs2, fs2, nf2, re, tr⟩ u h tk own2 hki hj hJ2 ha2 F3 N3
      (repeat ((with_reducible show ∀ _, Nn.Cut _ _ → _); intro _ _))
      obtain ⟨hfi2, hfz2, hfb2, hre⟩ := hJ2
      clear F1 N1
      dsimp (config := {zetaDelta := true}) only [envOf] at F3 N3 hfi2 hfz2 hfb2 hre
      simp only [List.cons_append] at N3
      have hown2 : ∀ p ∈ own2, p.1 ≠ fl := ha2.tail.head
      have hcl2 : fvs2.length = fs2.length := hfi2.length
      have hl2 : fvs2.length ≤ 460 := by omega
      have hfi3 : ∀ t, IntsAre (fvs2 ++ [.int (re.fmod 840) t]) (fs2 ++ [re.fmod 840]) := fun t => ints_snoc hfi2
      have hfb3 : ∀ f ∈ fs2 ++ [re.fmod 840], 0 ≤ f ∧ f < 840 := by
        intro f hf
        rcases List.mem_append.mp hf with h | h
        · exact hfb2 f h
        · rw [List.mem_singleton.mp h]; exact ⟨Int.fmod_nonneg_of_pos _ (by decide), Int.fmod_lt_of_pos _ (by decide)⟩
      have hl3 : (fs2 ++ [re.fmod 840]).length = fvs2.length + 1 := by rw [List.length_append, List.length_singleton]; omega
      have hre3 : 0 ≤ re.fdiv 840 := Int.fdiv_nonneg hre (by decide)
      k_steps
      · unfold GPost; dsimp only
        rename News _ _ _ _ => N4
        rw [List.push_toArray] at N4
        k_steps
        · unfold GPost; dsimp only
          k_steps
          rename News h₀ _ _ _ => N3
          rename (_ < _ ∧ _ < _ ∧ AllLt _ _) => lz
          exact ret _ fl _ _ _ _ _ _ _ _ (hfi3 _) (by omega) hfb3 ⟨Int.fmod_nonneg_of_pos _ (by decide), Int.fmod_lt_of_pos _ (by decide)⟩ (by k_asm) (news_sub N3 (by ksw_less)) l1 lz.2.1
        · rename Fr _ _ _ _ => F4
          rename News _ _ _ _ => N4
          rename ¬ _ => hle
          try simp only [List.length_append, List.length_singleton] at hle
          exact GEnd.intro (⟨fvs2 ++ [_], fs2 ++ [re.fmod 840], nf2 + 1, _, _⟩ : PL) F4 N4 (by ksw_less) (by ksw_less) (by exact ha) ⟨ag_cons rfl ag_nil, by ksw_same⟩ ⟨hfi3 _, by dsimp only; omega, hfb3, ⟨Int.fmod_nonneg_of_pos _ (by decide), Int.fmod_lt_of_pos _ (by decide)⟩⟩
      · rename Fr _ _ _ _ => F4
        rename News _ _ _ _ => N4
        rw [List.push_toArray] at N4
        exact GEnd.intro (⟨fvs2 ++ [_], fs2 ++ [re.fmod 840], nf2 + 1, _, _⟩ : PI) F4 N4 (by ksw_less) (by ksw_less) (by exact ha2) ⟨ag_cons rfl ag_nil, by ksw_same⟩ ⟨hfi3 _, by dsimp only; omega, hfb3, hre3⟩
    · rintro ⟨fvs2, fs2, nf2, re, tr⟩ u h tk hJ2 F3 N3
      (repeat ((with_reducible show ∀ _, Nn.Cut _ _ → _); intro _ _))
      obtain ⟨hfi2, hfz2, hfb2, hre⟩ := hJ2
      clear F1 N1
      dsimp (config := {zetaDelta := true}) only [envOf] at F3 N3 hfi2 hfz2 hfb2 hre
      have hcl2 : fvs2.length = fs2.length := hfi2.length
      have hl2 : fvs2.length ≤ 460 := by omega
      k_steps
      · unfold GPost; dsimp only
        k_steps
        rename News h₀ _ _ _ => N3
        rename (_ < _ ∧ _ < _ ∧ AllLt _ _) => lz
        exact ret _ fl _ _ _ _ _ _ _ _ hfi2 (by omega) hfb2 ⟨Int.fmod_nonneg_of_pos _ (by decide), Int.fmod_lt_of_pos _ (by decide)⟩ (by k_asm) (news_sub N3 (by ksw_less)) l1 lz.2.1
      · rename Fr _ _ _ _ => F4
        rename News _ _ _ _ => N4
        exact GEnd.intro (⟨fvs2, fs2, nf2, _, _⟩ : PL) F4 N4 (by ksw_less) (by ksw_less) (by exact ha) ⟨ag_cons rfl ag_nil, by ksw_same⟩ ⟨hfi2, by dsimp only; omega, hfb2, ⟨Int.fmod_nonneg_of_pos _ (by decide), Int.fmod_lt_of_pos _ (by decide)⟩⟩
  · rintro ⟨fvs, fs, nf, mx, tm⟩ u h tk hJ F2 N2
    (repeat ((with_reducible show ∀ _, Nn.Cut _ _ → _); intro _ _))
    obtain ⟨hfi, hfz, hfb, hm0, hm1⟩ := hJ
    clear F1 N1
    dsimp (config := {zetaDelta := true}) only [envOf] at F2 N2 hfi hfz hfb hm0 hm1
    k_steps
    rename Fr _ _ _ _ => F3
    rename News _ _ _ _ => N3
    rename (_ < _ ∧ _ < _ ∧ AllLt _ _) => lz
    exact ret _ _ _ fvs fs mx _ _ _ _ hfi (by omega) hfb ⟨hm0, hm1⟩ (by k_asm) (news_sub N3 (by ksw_less)) l1 lz.2.1
end Nn
end
-- NnTok
section
open PySem PySem.W PySem.Spec PySem.Calls PyProof.Rows PyProof.V
set_option maxRecDepth 100000
section
local macro_rules | `(tactic| omega) => `(tactic| k_extra "oNnTok")
theorem Nn.oNnTok : True := by
  (k_with "oNnTok" => with_reducible (k_whole; first | k_extra "omega!" | ((show (_ : Nat) = _); first | exact Nn.q71 | exact Nn.q72 (by assumption) (by assumption) (by assumption) (by assumption) | fail) | fail))
  trivial
namespace Nn
/-! ## Words of a text, read in order -/
noncomputable def At (l : List Nat) (p : Nat) (r : List Nat) : Prop := ∃ sep, (∀ c ∈ sep, isLay c = true) ∧ l.drop p = sep ++ r
structure OkW (w : List Nat) : Prop where
  ne : w ≠ []
  nl : ∀ c ∈ w, isLay c = false
theorem takeWhile_split {p : Nat → Bool} : ∀ {a b : List Nat}, (∀ c ∈ a, p c = true) → (∀ c, b.head? = some c → p c = false) → (a ++ b).takeWhile p = a
  | [], [], _, _ => rfl
  | [], c :: b, _, h => by rw [List.nil_append, List.takeWhile_cons, h c rfl]; rfl
  | x :: a, b, h1, h2 => by
    rw [List.cons_append, List.takeWhile_cons, h1 x (.head _)]
    simp only [if_true]
    rw [takeWhile_split (fun c hc => h1 c (.tail _ hc)) h2]
theorem At.skip {l p s r} (h : At l p (s :: r)) (hs : isLay s = true) : At l p r := by
  obtain ⟨sep, h1, h2⟩ := h
  refine ⟨sep ++ [s], fun c hc => ?_, by rw [h2]; simp⟩
  rcases List.mem_append.mp hc with h | h
  · exact h1 c h
  · rw [List.mem_singleton.mp h]; exact hs
theorem At.tok {l p w r} (h : At l p (w ++ r)) (hw : OkW w) (hr : ∀ s, r.head? = some s → isLay s = true) : wTok l p = w ∧ At l (wEnd l p) r ∧ wAt l p + (w.length + r.length) = l.length := by
  obtain ⟨sep, h1, h2⟩ := h
  have hh : ∀ c, (w ++ r).head? = some c → isLay c = false := by
    intro c hc
    cases w with
    | nil => exact absurd rfl hw.ne
    | cons x w => cases hc; exact hw.nl _ (.head _)
  have e1 : wAt l p = p + sep.length := by
    rw [wAt_eq]; unfold skipL
    rw [h2, takeWhile_split h1 hh]
  have e2 : l.drop (wAt l p) = w ++ r := by
    rw [e1, ← List.drop_drop, h2, List.drop_left]
  have e3 : wEnd l p = wAt l p + w.length := by
    rw [wEnd_eq]; unfold skipL
    rw [e2, takeWhile_split (fun c hc => by rw [hw.nl c hc]; rfl) (fun c hc => by rw [hr c hc]; rfl)]
  have e4 : wTok l p = w := by
    rw [wTok_eq, e2, e3, show wAt l p + w.length - wAt l p = w.length by omega, List.take_left]
  have e5 : l.drop (wEnd l p) = r := by rw [e3, ← List.drop_drop, e2, List.drop_left]
  refine ⟨e4, ⟨[], fun c hc => (nomatch hc), e5⟩, ?_⟩
  have hl := congrArg List.length e2
  rw [List.length_drop, List.length_append] at hl
  have hp : 0 < w.length := List.length_pos_iff.mpr hw.ne
  omega
theorem At.tok1 {l p w s r} (h : At l p (w ++ s :: r)) (hw : OkW w) (hs : isLay s = true) : wTok l p = w ∧ At l (wEnd l p) r ∧ wAt l p + (w.length + (r.length + 1)) = l.length := by
  obtain ⟨a, b, c⟩ := h.tok hw (fun s' e => by cases e; exact hs)
  exact ⟨a, b.skip hs, c⟩
theorem At.done {l p} (h : At l p []) : wTok l p = [] := by
  obtain ⟨sep, h1, h2⟩ := h
  rw [List.append_nil] at h2
  have e1 : wAt l p = p + sep.length := by
    rw [wAt_eq]; unfold skipL
    rw [h2, ← List.append_nil sep, takeWhile_split h1 (fun c hc => by cases hc), List.append_nil]
  rw [wTok_eq, e1, ← List.drop_drop, h2]
  simp
/-- the words of a command and the end of its row -/
noncomputable def toks : List (List Nat) → List Nat → List Nat
  | [], r => S "$end" ++ 10 :: r
  | w :: ws, r => w ++ 32 :: toks ws r
theorem okEnd : OkW (S "$end") := ⟨by decide, by decide +kernel⟩
theorem until_of {l : List Nat} {r : List Nat} : ∀ {ws : List (List Nat)} {i : Nat}, At l i (toks ws r) → (∀ w ∈ ws, OkW w ∧ w ≠ S "$end") → ∃ a j, Until l i ws (some (a, j)) ∧ At l j r
  | [], i, h, _ => by
    obtain ⟨e1, e2, _⟩ := h.tok1 okEnd (by decide)
    exact ⟨_, _, .fin e1, e2⟩
  | w :: ws, i, h, hw => by
    obtain ⟨hw1, hw2⟩ := hw w (.head _)
    obtain ⟨e1, e2, _⟩ := At.tok1 (w := w) h hw1 (by decide)
    obtain ⟨a, j, hu, ha⟩ := until_of e2 (fun v hv => hw v (.tail _ hv))
    refine ⟨a, j, ?_, ha⟩
    have := Until.more (l := l) (i := i) (ws := ws) (o := some (a, j)) (by rw [e1]; exact hw2) (by rw [e1]; exact hw1.ne) hu
    rwa [e1] at this
/-- a row that is one command -/
structure RowRd (row : List Nat) (st st' : RS) : Prop where
  rd : ∃ word ps, row ++ [10] = word ++ 32 :: toks ps [] ∧ OkW word ∧ (∀ w ∈ ps, (OkW w ∧ w ≠ S "$end") ∧ w.length ≤ 500) ∧ ps.length ≤ 100 ∧ Cmd word ps st st'
  ok : RSOk st
theorem toks_app : ∀ (ps : List (List Nat)) (r : List Nat), toks ps r = toks ps [] ++ r
  | [], r => by simp [toks]
  | w :: ps, r => by simp [toks, toks_app ps r]
inductive RowsRd : List (List Nat) → RS → RS → Prop
  | nil {st} : RowsRd [] st st
  | cons {row rows st st1 st2} (h : RowRd row st st1) (t : RowsRd rows st1 st2) : RowsRd (row :: rows) st st2
theorem RowsRd.app {a b st st1 st2} (h : RowsRd a st st1) (t : RowsRd b st1 st2) : RowsRd (a ++ b) st st2 := by
  induction h with
  | nil => exact t
  | cons h _ ih => exact .cons h (ih t)
theorem joinN_cons (row : List Nat) (rows : List (List Nat)) : joinN (row :: rows) = row ++ [10] ++ joinN rows := by unfold joinN; rw [List.flatMap_cons]
theorem joinN_app (a b : List (List Nat)) : joinN (a ++ b) = joinN a ++ joinN b := by unfold joinN; rw [List.flatMap_append]
theorem okEndDef : OkW (S "$enddefinitions") := ⟨by decide, by decide +kernel⟩
theorem decls_of {l : List Nat} {r : List Nat} {rows st st'} (h : RowsRd rows st st') : ∀ {p : Nat}, At l p (joinN rows ++ (joinN [S "$enddefinitions $end"] ++ r)) → ∃ e, Decls l rows.length p st e st' ∧ At l e r := by
  induction h with
  | nil =>
    intro p ha
    have e : joinN ([] : List (List Nat)) ++ (joinN [S "$enddefinitions $end"] ++ r) = S "$enddefinitions" ++ 32 :: toks [] r := by
      show [] ++ ((S "$enddefinitions $end" ++ [10] ++ []) ++ r) = _
      rw [show S "$enddefinitions $end" = S "$enddefinitions" ++ 32 :: S "$end" by decide +kernel]
      simp [toks]
    rw [e] at ha
    obtain ⟨e1, e2, _⟩ := ha.tok1 okEndDef (by decide)
    obtain ⟨a, j, hu, hj⟩ := until_of e2 (fun w hw => nomatch hw)
    exact ⟨j, .fin e1 hu (by decide), hj⟩
  | @cons row rows st st1 st2 h _ ih =>
    intro p ha
    obtain ⟨⟨word, ps, e1, hw, hp, hz, hc⟩, hok⟩ := h
    rw [joinN_cons, e1] at ha
    have e2 : (word ++ 32 :: toks ps [] ++ joinN rows) ++ (joinN [S "$enddefinitions $end"] ++ r) = word ++ 32 :: toks ps (joinN rows ++ (joinN [S "$enddefinitions $end"] ++ r)) := by
      rw [toks_app ps (joinN rows ++ _)]
      simp
    rw [e2] at ha
    obtain ⟨t1, t2, _⟩ := ha.tok1 hw (by decide)
    obtain ⟨a, j, hu, hj⟩ := until_of t2 (fun w hw => (hp w hw).1)
    obtain ⟨e, hD, he⟩ := ih hj
    exact ⟨e, .cmd hu hz (fun x hx => (hp x hx).2) hok (by rw [t1]; exact hc) hD, he⟩
end Nn
end
end
-- NnPure
section
open PySem PySem.W PySem.Spec PySem.Calls PyProof.Rows PyProof.V
set_option maxRecDepth 100000
section
local macro_rules | `(tactic| omega) => `(tactic| k_extra "oNnPure")
theorem Nn.oNnPure : True := by
  (k_with "oNnPure" => with_reducible (k_whole; first | k_extra "omega!" | ((show (_ : Nat) ≤ _); first | exact Nn.q74 (by assumption) | exact Nn.q75 (by assumption) (by assumption) | exact Nn.q78 (by assumption) | exact Nn.q82 (by assumption) | exact Nn.q83 (by assumption) | exact Nn.q84 (by assumption) | exact Nn.q85 (by assumption) | exact Nn.q87 (by assumption) | exact Nn.q88 (by assumption) (by assumption) | fail) | ((show (_ : Nat) ≠ _); first | exact Nn.q86 (by assumption) | fail) | ((show (_ : Nat) = _); first | exact Nn.q73 (by assumption) | exact Nn.q76 (by assumption) (by assumption) | fail) | ((show (_ : Int) < _); first | exact Nn.q77 (by assumption) (by assumption) | exact Nn.q80 (by assumption) (by assumption) | fail) | ((show (_ : Int) ≤ _); first | exact Nn.q43 (by assumption) | exact Nn.q56 (by assumption) | fail) | ((show _ ∨ _); first | exact Nn.q89 (by assumption) | fail) | ((show False); first | exact Nn.q79 (by assumption) (by assumption) | exact Nn.q81 (by assumption) (by assumption) | fail) | fail))
  trivial
namespace Nn
/-! ## What a writer's declarations say to a reader -/
theorem numL_dig {n : Int} (h : 0 ≤ n) : ∀ c ∈ numL n, 48 ≤ c ∧ c ≤ 57 := by
  obtain ⟨k, rfl⟩ := Int.eq_ofNat_of_zero_le h
  unfold numL
  rw [KIN.signs_num]
  intro c hc
  obtain ⟨ch, h1, rfl⟩ := List.mem_map.mp hc
  have := Nat.isDigit_of_mem_toDigits (by decide) (by decide) h1
  unfold Char.isDigit at this
  simp only [Bool.and_eq_true, decide_eq_true_eq] at this
  exact ⟨this.1, this.2⟩
theorem numL_val {n : Int} (h : 0 ≤ n) : ((NumText.digitsVal (numL n) : Nat) : Int) = n := by
  obtain ⟨k, rfl⟩ := Int.eq_ofNat_of_zero_le h
  unfold numL
  rw [KIN.signs_num, KIN.val_back]
theorem numL_ne (n : Int) (h : 0 ≤ n) : numL n ≠ [] := by
  obtain ⟨k, rfl⟩ := Int.eq_ofNat_of_zero_le h
  unfold numL
  rw [KIN.signs_num]
  intro e
  have := congrArg List.length e
  rw [List.length_map] at this
  have h2 := Nat.length_toDigits_pos (b := 10) (n := k)
  rw [List.length_nil] at this
  omega
theorem dig_nolay {c : Nat} (h : 48 ≤ c ∧ c ≤ 57) : isLay c = false := by
  unfold isLay
  simp only [List.mem_cons, List.not_mem_nil, or_false, decide_eq_false_iff_not]
  omega
theorem numL_ok {n : Int} (h : 0 ≤ n) : OkW (numL n) := ⟨numL_ne n h, fun c hc => dig_nolay (numL_dig h c hc)⟩
theorem numOk_of {l : List Nat} (h1 : l ≠ []) (h : ∀ c ∈ l, 48 ≤ c ∧ c ≤ 57) : numOk l = true := by
  unfold numOk
  rw [strNe, show S "" = [] from rfl, decide_eq_false h1]
  simp only [Bool.not_false, Bool.true_and, List.all_eq_true]
  intro c hc
  have := h c hc
  unfold isDig
  simp only [List.mem_cons, List.not_mem_nil, or_false, decide_eq_true_eq]
  omega
theorem ne_end {w : List Nat} {c : Nat} (h : w.head? = some c) (hc : c ≠ 36) : w ≠ S "$end" := by
  intro e
  rw [e] at h
  have : (S "$end").head? = some 36 := by decide +kernel
  rw [this] at h
  cases h
  exact hc rfl
theorem numL_end {n : Int} (h : 0 ≤ n) : numL n ≠ S "$end" := by
  cases e : numL n with
  | nil => exact absurd e (numL_ne n h)
  | cons c r =>
    have := numL_dig h c (by rw [e]; exact .head _)
    exact ne_end (c := c) rfl (by omega)
structure VRd (r : VR) : Prop where
  ok : VOk r
  parts : ∀ p ∈ partsOf r.path, OkW p ∧ p ≠ S "$end"
  back : joinDot (partsOf r.path) = r.path
  kd : OkW r.kd ∧ r.kd ≠ S "$end"
  nm : OkW r.nm ∧ r.nm ≠ S "$end"
theorem end_lit : S " $end" = 32 :: S "$end" := by decide +kernel
theorem scope_lit : S "$scope module " = S "$scope" ++ 32 :: (S "module" ++ [32]) := by decide +kernel
theorem up_lit : S "$upscope $end" = S "$upscope" ++ 32 :: S "$end" := by decide +kernel
theorem var_lit : S "$var " = S "$var" ++ [32] := by decide +kernel
theorem sp_lit : S " " = [32] := by decide +kernel
theorem br_lit : S " [" = 32 :: S "[" := by decide +kernel
theorem ts_lit : S "$timescale " = S "$timescale" ++ [32] := by decide +kernel
theorem up_rd {sc sp vs ns} (ok : RSOk ⟨sc, sp, vs, ns⟩) (h : sp ≠ []) : RowRd upRow ⟨sc, sp, vs, ns⟩ ⟨sc, sp.dropLast, vs, ns⟩ :=
  ⟨⟨S "$upscope", [], by unfold upRow; rw [up_lit]; simp [toks], ⟨by decide, by decide +kernel⟩, (fun w hw => nomatch hw), by decide, .up rfl h⟩, ok⟩
theorem scope_rd {sc sp vs ns p} (ok : RSOk ⟨sc, sp, vs, ns⟩) (hp : OkW p ∧ p ≠ S "$end") (hl : p.length ≤ 100) : RowRd (scopeRow p) ⟨sc, sp, vs, ns⟩ ⟨sc, sp ++ [p], vs, ns⟩ := by
  refine ⟨⟨S "$scope", [S "module", p], ?_, ⟨by decide, by decide +kernel⟩, fun w hw => ?_, (show 2 ≤ 100 by decide), .scope rfl rfl⟩, ok⟩
  · unfold scopeRow
    rw [scope_lit, end_lit]
    simp [toks]
  · rcases List.mem_cons.mp hw with rfl | hw
    · exact ⟨⟨⟨by decide, by decide +kernel⟩, by decide +kernel⟩, by decide⟩
    · rw [List.mem_singleton.mp hw]; exact ⟨hp, by omega⟩
theorem scale_rd {w : List Nat} (hw : OkW w ∧ w ≠ S "$end") (hl : w.length ≤ 100) : RowRd (S "$timescale " ++ w ++ S " $end") ⟨[], [], [], []⟩ ⟨w, [], [], []⟩ := by
  have e : joinSp [w] = w := by
    have h := joinBy_eq (Str.ofString " ") [w]
    have h2 : Txt.join (Str.ofString " ") ([w].map mk) = mk w := by
      unfold Txt.join
      rw [StrLaws.glued_eq_join]
      rfl
    rw [h2] at h
    exact (mk_inj h).symm
  refine ⟨⟨S "$timescale", [w], ?_, ⟨by decide, by decide +kernel⟩, fun v hv => ?_, (show 1 ≤ 100 by decide), ?_⟩, ⟨by decide, by decide, by decide, fun p hp => nomatch hp⟩⟩
  · rw [ts_lit, end_lit]; simp [toks]
  · rw [List.mem_singleton.mp hv]; exact ⟨hw, by omega⟩
  · have := Cmd.scale (word := S "$timescale") (parts := [w]) (sc := []) (sp := []) (vs := []) (ns := []) rfl
    rwa [e] at this
theorem ups_rd {sc vs ns} : ∀ (k : Nat) (sp : List (List Nat)), k ≤ sp.length → (∀ j ≤ k, RSOk ⟨sc, sp.take (sp.length - j), vs, ns⟩) → RowsRd (List.replicate k upRow) ⟨sc, sp, vs, ns⟩ ⟨sc, sp.take (sp.length - k), vs, ns⟩
  | 0, sp, _, _ => by rw [Nat.sub_zero, List.take_length]; exact .nil
  | k + 1, sp, h, ok => by
    have ok0 := ok 0 (Nat.zero_le _)
    rw [Nat.sub_zero, List.take_length] at ok0
    have hne : sp ≠ [] := by intro e; rw [e] at h; simp at h
    refine .cons (up_rd ok0 hne) ?_
    have hl : sp.dropLast.length = sp.length - 1 := List.length_dropLast
    have ht : ∀ m, m ≤ sp.length - 1 → sp.dropLast.take m = sp.take m := fun m hm => by
      rw [List.dropLast_eq_take, List.take_take, Nat.min_eq_left hm]
    have := ups_rd (sc := sc) (vs := vs) (ns := ns) k sp.dropLast (by omega) (fun j hj => by
      rw [hl, ht _ (by omega)]
      have := ok (j + 1) (by omega)
      rwa [show sp.length - 1 - j = sp.length - (j + 1) by omega])
    rw [hl, ht _ (by omega), show sp.length - 1 - k = sp.length - (k + 1) by omega] at this
    exact this
theorem scopes_rd {sc vs ns} : ∀ (ps sp : List (List Nat)), (∀ p ∈ ps, (OkW p ∧ p ≠ S "$end") ∧ p.length ≤ 100) → (∀ j ≤ ps.length, RSOk ⟨sc, sp ++ ps.take j, vs, ns⟩) → RowsRd (ps.map scopeRow) ⟨sc, sp, vs, ns⟩ ⟨sc, sp ++ ps, vs, ns⟩
  | [], sp, _, _ => by rw [List.append_nil]; exact .nil
  | p :: ps, sp, h, ok => by
    have ok0 := ok 0 (Nat.zero_le _)
    rw [List.take_zero, List.append_nil] at ok0
    refine .cons (scope_rd ok0 (h p (.head _)).1 (h p (.head _)).2) ?_
    have := scopes_rd (sc := sc) (vs := vs) (ns := ns) ps (sp ++ [p]) (fun q hq => h q (.tail _ hq)) (fun j hj => by
      have := ok (j + 1) (by rw [List.length_cons]; omega)
      rw [List.take_succ_cons] at this
      simpa using this)
    simpa using this
theorem var_rd {sc vs ns} {r : VR} (hr : VRd r) (ok : RSOk ⟨sc, wantedOf r, vs, ns⟩) (hnew : wOf ns r.nm = none) : RowRd (varRow r) ⟨sc, wantedOf r, vs, ns⟩ ⟨sc, wantedOf r, vs ++ [r], ns ++ [(r.nm, r.wd)]⟩ := by
  have w0 : 0 ≤ r.wd := by have := hr.ok.w0; omega
  have w1 : 0 ≤ r.wd - 1 := by have := hr.ok.w0; omega
  have hll := numL_len w0 (by have := hr.ok.w1; omega)
  have hll1 := numL_len w1 (by have := hr.ok.w1; omega)
  have hlm := getLastD_mem (x := []) hr.ok.ne
  have hval := numL_val w0
  have hjn : joinDot (wantedOf r ++ [(partsOf r.path).getLastD []]) = r.path := by
    have e : wantedOf r ++ [(partsOf r.path).getLastD []] = partsOf r.path := by
      unfold wantedOf
      rw [List.getLastD_eq_getLast?, List.getLast?_eq_some_getLast hr.ok.ne]
      exact List.dropLast_concat_getLast hr.ok.ne
    rw [e, hr.back]
  let ext : List (List Nat) := if r.wd > 1 then [S "[" ++ numL (r.wd - 1) ++ S ":0]"] else []
  have hext : ∀ w ∈ ext, (OkW w ∧ w ≠ S "$end") ∧ w.length ≤ 500 := by
    intro w hw
    by_cases hg : r.wd > 1
    · have : ext = [S "[" ++ numL (r.wd - 1) ++ S ":0]"] := if_pos hg
      rw [this] at hw
      rw [List.mem_singleton.mp hw]
      refine ⟨⟨⟨by simp [S], fun c hc => ?_⟩, ne_end (c := 91) (by simp [S]) (by decide)⟩, ?_⟩
      · rcases List.mem_append.mp hc with h | h
        · rcases List.mem_append.mp h with h | h
          · have : c = 91 := by simpa [S] using h
            rw [this]; decide
          · exact dig_nolay (numL_dig w1 c h)
        · have : c = 58 ∨ c = 48 ∨ c = 93 := by simpa [S] using h
          rcases this with rfl | rfl | rfl <;> decide
      · rw [List.length_append, List.length_append]
        have e1 : (S "[").length = 1 := by decide +kernel
        rw [e1, sl9]; omega
    · have : ext = [] := if_neg hg
      rw [this] at hw; cases hw
  refine ⟨⟨S "$var", [r.kd, numL r.wd, r.nm, (partsOf r.path).getLastD []] ++ ext, ?_, ⟨by decide, by decide +kernel⟩, fun w hw => ?_, ?_, ?_⟩, ok⟩
  · unfold varRow extentL
    by_cases hg : r.wd > 1
    · have : ext = [S "[" ++ numL (r.wd - 1) ++ S ":0]"] := if_pos hg
      rw [this, if_pos hg, var_lit, end_lit, sp_lit, br_lit]
      simp [toks]
    · have : ext = [] := if_neg hg
      rw [this, if_neg hg, var_lit, end_lit, sp_lit]
      simp [toks]
  · rcases List.mem_append.mp hw with h | h
    · simp only [List.mem_cons, List.not_mem_nil, or_false] at h
      rcases h with rfl | rfl | rfl | rfl
      · exact ⟨hr.kd, by have := hr.ok.kl; omega⟩
      · exact ⟨⟨numL_ok w0, numL_end w0⟩, by omega⟩
      · exact ⟨hr.nm, by have := hr.ok.nl; omega⟩
      · exact ⟨hr.parts _ hlm, by have := hr.ok.pp _ hlm; omega⟩
    · exact hext w h
  · have : ext.length ≤ 1 := by
      by_cases hg : r.wd > 1
      · rw [show ext = [S "[" ++ numL (r.wd - 1) ++ S ":0]"] from if_pos hg]; exact Nat.le_refl _
      · rw [show ext = [] from if_neg hg]; exact Nat.zero_le _
    rw [List.length_append]
    simp only [List.length_cons, List.length_nil]
    omega
  · have hc := Cmd.var (word := S "$var") (parts := [r.kd, numL r.wd, r.nm, (partsOf r.path).getLastD []] ++ ext) (sc := sc) (sp := wantedOf r) (vs := vs) (ns := ns) rfl (by rw [List.length_append]; simp)
      (numOk_of (numL_ne _ w0) (numL_dig w0)) (by show 1 ≤ NumText.digitsVal (numL r.wd); have := hr.ok.w0; omega) hnew
    change Cmd _ _ _ ⟨sc, wantedOf r, vs ++ [⟨joinDot (wantedOf r ++ [(partsOf r.path).getLastD []]), ((NumText.digitsVal (numL r.wd) : Nat) : Int), r.kd, r.nm⟩], ns ++ [(r.nm, ((NumText.digitsVal (numL r.wd) : Nat) : Int))]⟩ at hc
    rw [hjn, hval] at hc
    exact hc
end Nn
end
end
-- NnPure2
section
open PySem PySem.W PySem.Spec PySem.Calls PyProof.Rows PyProof.V
set_option maxRecDepth 100000
section
local macro_rules | `(tactic| omega) => `(tactic| k_extra "oNnPure2")
theorem Nn.oNnPure2 : True := by
  (k_with "oNnPure2" => with_reducible (k_whole; first | k_extra "omega!" | ((show (_ : Nat) ≤ _); first | exact Nn.q90 (by assumption) (by assumption) | exact Nn.q91 (by assumption) | exact Nn.q92 (by assumption) | exact Nn.q94 (by assumption) (by assumption) | exact Nn.q95 (by assumption) | exact Nn.q96 (by assumption) | exact Nn.q97 (by assumption) | fail) | ((show (_ : Nat) = _); first | exact Nn.q93 (by assumption) (by assumption) | fail) | fail))
  trivial
namespace Nn
theorem common_take : ∀ a b : List (List Nat), a.take (commonL a b) = b.take (commonL a b)
  | [], b => by unfold commonL; rw [List.take_zero, List.take_zero]
  | x :: r, [] => by unfold commonL; rw [List.take_zero, List.take_zero]
  | x :: r, y :: s => by
    unfold commonL
    split
    · rename_i h
      rw [List.take_succ_cons, List.take_succ_cons, common_take r s, h]
    · rw [List.take_zero, List.take_zero]
theorem rsok {sc sp vs ns} (h1 : sp.length ≤ 10) (h2 : ∀ p ∈ sp, p.length ≤ 100) (h3 : vs.length ≤ 100) (h4 : ns.length ≤ 100) : RSOk ⟨sc, sp, vs, ns⟩ :=
  ⟨by show ns.length ≤ 1000; omega, by show vs.length ≤ 1000; omega, by show sp.length ≤ 100; omega, fun p hp => Nat.le_trans (h2 p hp) (by decide)⟩
theorem wanted_ok {r : VR} (h : VRd r) : ∀ p ∈ wantedOf r, (OkW p ∧ p ≠ S "$end") ∧ p.length ≤ 100 := fun p hp => by
  have := (List.dropLast_sublist _).subset hp
  exact ⟨h.parts p this, h.ok.pp p this⟩
theorem step_rd {sc vs ns} {sp : List (List Nat)} {r : VR} (hr : VRd r) (h1 : sp.length ≤ 10) (h2 : ∀ p ∈ sp, p.length ≤ 100) (h3 : vs.length ≤ 100) (h4 : ns.length ≤ 100) (hnew : wOf ns r.nm = none) :
    RowsRd (declStep sp r) ⟨sc, sp, vs, ns⟩ ⟨sc, wantedOf r, vs ++ [r], ns ++ [(r.nm, r.wd)]⟩ := by
  have hw := hr.ok.wanted
  obtain ⟨k1, k2⟩ := commonL_le sp (wantedOf r)
  have ht := common_take sp (wantedOf r)
  unfold declStep
  generalize commonL sp (wantedOf r) = k at *
  have a := ups_rd (sc := sc) (vs := vs) (ns := ns) (sp.length - k) sp (Nat.sub_le _ _) (fun j _ => rsok (by rw [List.length_take]; omega) (fun p hp => h2 p (List.mem_of_mem_take hp)) h3 h4)
  rw [show sp.length - (sp.length - k) = k by omega, ht] at a
  have hwl : ∀ p ∈ wantedOf r, p.length ≤ 100 := fun p hp => (wanted_ok hr p hp).2
  have b := scopes_rd (sc := sc) (vs := vs) (ns := ns) ((wantedOf r).drop k) ((wantedOf r).take k) (fun p hp => wanted_ok hr p (List.mem_of_mem_drop hp)) (fun j _ => rsok (by
      rw [List.length_append, List.length_take, List.length_take, List.length_drop]; omega) (fun p hp => by
      rcases List.mem_append.mp hp with h | h
      · exact hwl p (List.mem_of_mem_take h)
      · exact hwl p (List.mem_of_mem_drop (List.mem_of_mem_take h))) h3 h4)
  rw [List.take_append_drop] at b
  exact (a.app b).app (.cons (var_rd hr (rsok hw hwl h3 h4) hnew) .nil)
noncomputable def nsOf (vs : List VR) : List (List Nat × Int) := vs.map fun r => (r.nm, r.wd)
theorem fold_rd {sc st0} : ∀ (vs : List VR) (p : List (List Nat) × List (List Nat)) (vs0 : List VR) (ns0 : List (List Nat × Int)), p.1.length ≤ 10 → (∀ q ∈ p.1, q.length ≤ 100) → vs0.length + vs.length ≤ 100 → ns0.length + vs.length ≤ 100 →
    (∀ r ∈ vs, VRd r) → (∀ i r, vs[i]? = some r → wOf (ns0 ++ nsOf (vs.take i)) r.nm = none) → RowsRd p.2 st0 ⟨sc, p.1, vs0, ns0⟩ →
    RowsRd (vs.foldl declF p).2 st0 ⟨sc, (vs.foldl declF p).1, vs0 ++ vs, ns0 ++ nsOf vs⟩ ∧ (vs.foldl declF p).1.length ≤ 10 ∧ ∀ q ∈ (vs.foldl declF p).1, q.length ≤ 100
  | [], p, vs0, ns0, h1, h2, _, _, _, _, h => by
    unfold nsOf
    rw [List.map_nil, List.append_nil, List.append_nil]
    exact ⟨h, h1, h2⟩
  | r :: vs, p, vs0, ns0, h1, h2, h3, h4, hr, hn, h => by
    rw [List.length_cons] at h3 h4
    have hr0 := hr r (.head _)
    have hn0 := hn 0 r rfl
    rw [List.take_zero] at hn0
    unfold nsOf at hn0
    rw [List.map_nil, List.append_nil] at hn0
    have hs := h.app (step_rd (sc := sc) hr0 h1 h2 (by omega) (by omega) hn0)
    have := fold_rd vs (declF p r) (vs0 ++ [r]) (ns0 ++ [(r.nm, r.wd)]) hr0.ok.wanted (fun q hq => (wanted_ok hr0 q hq).2) (by rw [List.length_append, List.length_singleton]; omega) (by rw [List.length_append, List.length_singleton]; omega) (fun r' h' => hr r' (.tail _ h')) (fun i r' e => by
      have := hn (i + 1) r' e
      rw [List.take_succ_cons] at this
      unfold nsOf at this ⊢
      rw [List.map_cons] at this
      simpa using this) hs
    rw [List.foldl_cons]
    unfold nsOf at this ⊢
    rw [List.map_cons]
    simpa using this
theorem decls_rd {sc : List Nat} {vs : List VR} (hsc : OkW sc ∧ sc ≠ S "$end") (hsl : sc.length ≤ 100) (hz : vs.length ≤ 10) (hr : ∀ r ∈ vs, VRd r) (hn : ∀ i r, vs[i]? = some r → wOf (nsOf (vs.take i)) r.nm = none) :
    RowsRd ((S "$timescale " ++ sc ++ S " $end") :: declRows vs) ⟨[], [], [], []⟩ ⟨sc, [], vs, nsOf vs⟩ := by
  obtain ⟨h1, h2, h3⟩ := fold_rd (sc := sc) (st0 := ⟨sc, [], [], []⟩) vs ([], []) [] [] (Nat.zero_le _) (fun q hq => nomatch hq) (by simp; omega) (by simp; omega) hr (fun i r e => by simpa using hn i r e) .nil
  rw [List.nil_append, List.nil_append] at h1
  refine .cons (scale_rd hsc hsl) ?_
  unfold declRows
  refine h1.app ?_
  have hnl : (nsOf vs).length ≤ 100 := by unfold nsOf; rw [List.length_map]; omega
  have := ups_rd (sc := sc) (vs := vs) (ns := nsOf vs) (vs.foldl declF ([], [])).1.length (vs.foldl declF ([], [])).1 (Nat.le_refl _) (fun j _ => rsok (by rw [List.length_take]; omega) (fun p hp => h3 p (List.mem_of_mem_take hp)) (by omega) hnl)
  rw [Nat.sub_self, List.take_zero] at this
  exact this
/-- the declarations of a writer's text, read back -/
theorem text_decls {sc : List Nat} {vs : List VR} (hsc : OkW sc ∧ sc ≠ S "$end") (hsl : sc.length ≤ 100) (hz : vs.length ≤ 10) (hr : ∀ r ∈ vs, VRd r) (hn : ∀ i r, vs[i]? = some r → wOf (nsOf (vs.take i)) r.nm = none)
    {tail : List Nat} {l : List Nat} (hl : l = joinN (headRows sc vs) ++ tail) : ∃ n e, Decls l n 0 ⟨[], [], [], []⟩ e ⟨sc, [], vs, nsOf vs⟩ ∧ At l e tail := by
  have e1 : l = joinN ((S "$timescale " ++ sc ++ S " $end") :: declRows vs) ++ (joinN [S "$enddefinitions $end"] ++ tail) := by
    rw [hl]
    unfold headRows
    rw [← List.append_assoc, ← joinN_app]
  have ha : At l 0 (joinN ((S "$timescale " ++ sc ++ S " $end") :: declRows vs) ++ (joinN [S "$enddefinitions $end"] ++ tail)) := ⟨[], fun c hc => (nomatch hc), by rw [List.drop_zero, List.nil_append]; exact e1⟩
  obtain ⟨e, h1, h2⟩ := decls_of (decls_rd hsc hsl hz hr hn) ha
  exact ⟨_, e, h1, h2⟩
end Nn
end
end
-- NnVal
section
open PySem PySem.W PySem.Spec PySem.Calls PyProof.Rows PyProof.V
set_option maxRecDepth 100000
section
local macro_rules | `(tactic| omega) => `(tactic| k_extra "oNnVal")
theorem Nn.oNnVal : True := by
  (k_with "oNnVal" => with_reducible (k_whole; first | k_extra "omega!" | ((show (_ : Nat) < _); first | exact Nn.q100 | fail) | ((show (_ : Nat) ≠ _); first | exact Nn.q106 (by assumption) | fail) | ((show (_ : Nat) = _); first | exact Nn.q102 (by assumption) | fail) | ((show (_ : Int) = _); first | exact Nn.q98 | exact Nn.q99 | exact Nn.q101 | exact Nn.q103 | exact Nn.q105 | fail) | ((show _ ∨ _); first | exact Nn.q104 (by assumption) | fail) | fail))
  trivial
namespace Nn
/-! ## Values: digits written, digits read -/
theorem fdiv_nat (a i : Nat) : Int.fdiv (a : Int) (2 ^ i) = ((a / 2 ^ i : Nat) : Int) := by
  have h : (0 : Int) ≤ 2 ^ i := Int.le_of_lt (Int.pow_pos (by decide))
  rw [Int.fdiv_eq_ediv_of_nonneg _ h, Int.natCast_ediv, Int.natCast_pow]
  rfl
theorem codeI_nat (a b i : Nat) : codeI a b i = ((a / 2 ^ i % 2 + 2 * (b / 2 ^ i % 2) : Nat) : Int) := by
  unfold codeI
  rw [Int.toNat_natCast, fdiv_nat, fdiv_nat, and_one (Int.natCast_nonneg _), and_one (Int.natCast_nonneg _)]
  omega
theorem code_lt (a b i : Nat) : a / 2 ^ i % 2 + 2 * (b / 2 ^ i % 2) < 4 := by omega
theorem dg_good : ∀ m : Nat, m < 4 → (dg m = 48 ∨ dg m = 49 ∨ dg m = 122 ∨ dg m = 120) ∧ dcode (dg m) = m := by
  intro m h
  have : m = 0 ∨ m = 1 ∨ m = 2 ∨ m = 3 := by omega
  rcases this with rfl | rfl | rfl | rfl <;> exact ⟨by decide +kernel, by decide +kernel⟩
noncomputable def bitsN (a b n : Nat) : List Nat := bitsL a b n n
theorem bitsN_succ (a b n : Nat) : bitsN a b (n + 1) = dg ((a / 2 ^ n % 2 + 2 * (b / 2 ^ n % 2) : Nat) : Int) :: bitsN a b n := by
  unfold bitsN bitsL
  rw [List.range_succ_eq_map, List.map_cons, List.map_map]
  congr 1
  · rw [← codeI_nat]
    congr 2
    omega
  · apply List.map_congr_left
    intro i _
    show dg (codeI a b (((n + 1 : Nat) : Int) - 1 + ((i + 1 : Nat) : Int) * (-1))) = _
    congr 2
    omega
theorem bits_good (a b : Nat) : ∀ n, goodD (bitsN a b n)
  | 0 => fun d hd => by cases hd
  | n + 1 => fun d hd => by
    rw [bitsN_succ] at hd
    rcases List.mem_cons.mp hd with rfl | h
    · exact (dg_good _ (code_lt a b n)).1
    · exact bits_good a b n d h
theorem bitsN_len (a b n : Nat) : (bitsN a b n).length = n := bitsL_len _ _ _ _
theorem low_bits (a b : Nat) : ∀ n, lowT (bitsN a b n) = ((a % 2 ^ n : Nat) : Int)
  | 0 => by show (0 : Int) = _; rw [Nat.pow_zero, Nat.mod_one]; rfl
  | n + 1 => by
    have ih := low_bits a b n
    unfold lowT at ih ⊢
    rw [bitsN_succ, List.reverse_cons, List.map_append, List.map_cons, List.map_nil, packS_snoc, ih, List.length_map, List.length_reverse, bitsN_len, (dg_good _ (code_lt a b n)).2, Nat.mod_pow_succ]
    have e : (((a / 2 ^ n % 2 + 2 * (b / 2 ^ n % 2) : Nat) : Int) % 2) = ((a / 2 ^ n % 2 : Nat) : Int) := by omega
    rw [e, Int.natCast_add, Int.natCast_mul, Int.natCast_pow, Int.mul_comm]
    rfl
theorem high_bits (a b : Nat) : ∀ n, highT (bitsN a b n) = ((b % 2 ^ n : Nat) : Int)
  | 0 => by show (0 : Int) = _; rw [Nat.pow_zero, Nat.mod_one]; rfl
  | n + 1 => by
    have ih := high_bits a b n
    unfold highT at ih ⊢
    rw [bitsN_succ, List.reverse_cons, List.map_append, List.map_cons, List.map_nil, packS_snoc, ih, List.length_map, List.length_reverse, bitsN_len, (dg_good _ (code_lt a b n)).2, Nat.mod_pow_succ]
    have e : (((a / 2 ^ n % 2 + 2 * (b / 2 ^ n % 2) : Nat) : Int) / 2) = ((b / 2 ^ n % 2 : Nat) : Int) := by omega
    rw [e, Int.natCast_add, Int.natCast_mul, Int.natCast_pow, Int.mul_comm]
    rfl
theorem ext_iff (a b : Nat) : one a = ext (one b) ↔ a = extN b := by
  rw [ext_one]
  unfold extN
  constructor
  · intro h; injection h with h; simpa using h
  · intro h; rw [h]
theorem extN_idem (b : Nat) : extN (extN b) = extN b := by unfold extN; split <;> simp_all
/-- shortening keeps the head's extension -/
theorem short_ext : ∀ l : List Nat, l ≠ [] → (shortL l) ≠ [] ∧ ∃ k, l = List.replicate k (extN ((shortL l).headD 0)) ++ shortL l
  | [], h => absurd rfl h
  | [a], _ => ⟨by unfold shortL; simp, 0, by unfold shortL; simp⟩
  | a :: b :: r, _ => by
    unfold shortL
    by_cases e : one a = ext (one b)
    · rw [if_pos e]
      obtain ⟨h1, k, h2⟩ := short_ext (b :: r) (by simp)
      refine ⟨h1, k + 1, ?_⟩
      rw [List.replicate_succ, List.cons_append, ← h2]
      congr 1
      rw [(ext_iff a b).mp e]
      cases k with
      | zero =>
        have : b :: r = shortL (b :: r) := by simpa using h2
        rw [← this]; rfl
      | succ k =>
        rw [List.replicate_succ, List.cons_append] at h2
        have := (List.cons.inj h2).1
        exact (congrArg extN this).trans (extN_idem _)
    · rw [if_neg e]
      exact ⟨by simp, 0, by simp⟩
theorem long_short (l : List Nat) (h : l ≠ []) : longL (shortL l) l.length = l := by
  obtain ⟨_, k, e⟩ := short_ext l h
  unfold longL
  have hl := congrArg List.length e
  rw [List.length_append, List.length_replicate] at hl
  rw [show l.length - (shortL l).length = k by omega]
  exact e.symm
theorem short_mem {l : List Nat} : ∀ d ∈ shortL l, d ∈ l := by
  intro d hd
  by_cases h : l = []
  · subst h; simpa [shortL] using hd
  · obtain ⟨_, k, e⟩ := short_ext l h
    rw [e]
    exact List.mem_append.mpr (.inr hd)
theorem good_val {l : List Nat} (h : goodD l) : l.all isVal = true := by
  rw [List.all_eq_true]
  intro d hd
  rcases h d hd with rfl | rfl | rfl | rfl <;> decide
theorem good_ok {l : List Nat} (h : goodD l) : ∀ c ∈ l, isLay c = false := by
  intro d hd
  rcases h d hd with rfl | rfl | rfl | rfl <;> decide
/-- a change written and read is the change -/
theorem back_vec {a b w : Nat} (hw : 1 ≤ w) (ha : a < 2 ^ w) (hb : b < 2 ^ w) : lowT (longL (shortL (bitsN a b w)) w) = (a : Int) ∧ highT (longL (shortL (bitsN a b w)) w) = (b : Int) := by
  have hne : bitsN a b w ≠ [] := by
    intro e
    have := bitsN_len a b w
    rw [e, List.length_nil] at this; omega
  have e := long_short _ hne
  rw [bitsN_len] at e
  rw [e, low_bits, high_bits, Nat.mod_eq_of_lt ha, Nat.mod_eq_of_lt hb]
  exact ⟨rfl, rfl⟩
theorem back_bit {a b : Nat} (ha : a < 2 ^ 1) (hb : b < 2 ^ 1) : ∃ d, bitsN a b 1 = [d] ∧ (d = 48 ∨ d = 49 ∨ d = 122 ∨ d = 120) ∧ lowT (longL [d] 1) = (a : Int) ∧ highT (longL [d] 1) = (b : Int) := by
  have h := back_vec (w := 1) (Nat.le_refl 1) ha hb
  have e : bitsN a b 1 = [dg ((a / 2 ^ 0 % 2 + 2 * (b / 2 ^ 0 % 2) : Nat) : Int)] := by rw [bitsN_succ]; rfl
  refine ⟨_, e, (dg_good _ (code_lt a b 0)).1, ?_⟩
  rw [e] at h
  exact h
end Nn
end
end
-- NnPure3
section
open PySem PySem.W PySem.Spec PySem.Calls PyProof.Rows PyProof.V
set_option maxRecDepth 100000
section
local macro_rules | `(tactic| omega) => `(tactic| k_extra "oNnPure3")
theorem Nn.oNnPure3 : True := by
  (k_with "oNnPure3" => with_reducible (k_whole; first | k_extra "omega!" | ((show (_ : Nat) ≤ _); first | exact Nn.q108 (by assumption) | exact Nn.q110 (by assumption) (by assumption) | exact Nn.q112 (by assumption) (by assumption) | exact Nn.q115 | fail) | ((show (_ : Nat) ≠ _); first | exact Nn.q113 (by assumption) (by assumption) | fail) | ((show (_ : Nat) = _); first | exact Nn.q109 (by assumption) | fail) | ((show (_ : Int) < _); first | exact Nn.q116 (by assumption) (by assumption) | fail) | ((show (_ : Int) ≤ _); first | exact Nn.q114 (by assumption) (by assumption) | fail) | ((show (_ : Int) = _); first | exact Nn.q107 (by assumption) (by assumption) (by assumption) (by assumption) (by assumption) | fail) | ((show False); first | exact Nn.q111 (by assumption) (by assumption) (by assumption) | fail) | fail))
  trivial
namespace Nn
/-! ## A writer's changes, read back -/
structure CRd (ns : List (List Nat × Int)) (c : CR) : Prop where
  ok : COk ns c
  nm : OkW c.nm
  lo1 : c.lo < 2 ^ c.wd.toNat
  hi1 : c.hi < 2 ^ c.wd.toNat
theorem h35 : S "#" = [35] := by decide +kernel
theorem b98 : S "b" = [98] := by decide +kernel
theorem wd_known {ns c} (h : COk ns c) : wdD ns c.nm = c.wd := by unfold wdD; rw [h.known]; rfl
theorem lt_nat {a w : Nat} (h : (a : Int) < 2 ^ w) : a < 2 ^ w := by
  have e : ((2 ^ w : Nat) : Int) = (2 : Int) ^ w := by rw [Int.natCast_pow]; rfl
  rw [← e] at h
  exact Int.ofNat_lt.mp h
theorem val_of {l : List Nat} {ns : List (List Nat × Int)} {c : CR} {r : List Nat} {p : Nat} (hc : CRd ns c) (ha : At l p (rowL c.wd c.lo c.hi c.nm ++ 10 :: r)) :
    ∃ p2, At l p2 r ∧ ∀ acc n cs' out, Chs l ns n p2 c.tm (acc ++ [c]) cs' out → Chs l ns (n + 1) p c.tm acc cs' out := by
  obtain ⟨tm, nm, wd, lo, hi⟩ := c
  obtain ⟨ok, hnm, hlo, hhi⟩ := hc
  have hwk := wd_known ok
  obtain ⟨t0, t1, nl, w0, w1, lo0, hi0, known⟩ := ok
  dsimp only at *
  obtain ⟨w, rfl⟩ := Int.eq_ofNat_of_zero_le (show 0 ≤ wd by omega)
  obtain ⟨a, rfl⟩ := Int.eq_ofNat_of_zero_le lo0
  obtain ⟨b, rfl⟩ := Int.eq_ofNat_of_zero_le hi0
  rw [Int.toNat_natCast] at hlo hhi
  have ha2 := lt_nat hlo
  have hb2 := lt_nat hhi
  have hbn : bitsL (a : Int) (b : Int) (w : Int) ((w : Int).toNat) = bitsN a b w := by rw [Int.toNat_natCast]; rfl
  unfold rowL at ha
  rw [hbn] at ha
  by_cases hw : (w : Int) = 1
  · have hw1 : w = 1 := by omega
    subst hw1
    rw [if_pos hw] at ha
    obtain ⟨d, e, hd, v1, v2⟩ := back_bit ha2 hb2
    rw [e, List.singleton_append] at ha
    have hdo : OkW (d :: nm) := ⟨by simp, fun x hx => by
      rcases List.mem_cons.mp hx with rfl | hx
      · rcases hd with rfl | rfl | rfl | rfl <;> decide
      · exact hnm.nl x hx⟩
    obtain ⟨t1, t2, _⟩ := ha.tok1 hdo (by decide)
    refine ⟨_, t2, fun acc n cs' out h => ?_⟩
    refine .bit t1 hd ?_ ?_
    · unfold rcErr
      rw [known]
      dsimp only
      rw [if_neg (by simp), good_val (fun x hx => by rw [List.mem_singleton.mp hx]; exact hd)]
      rfl
    · have hm : mkC ns tm [d] nm = ⟨tm, nm, ((1 : Nat) : Int), (a : Int), (b : Int)⟩ := by
        unfold mkC
        rw [hwk, Int.toNat_natCast, v1, v2]
      rw [hm]
      exact h
  · rw [if_neg hw] at ha
    have hw0 : 1 ≤ w := by omega
    obtain ⟨v1, v2⟩ := back_vec hw0 ha2 hb2
    have hgb := bits_good a b w
    have hgd : goodD (shortL (bitsN a b w)) := fun x hx => hgb x (short_mem x hx)
    have hbl := bitsN_len a b w
    have hsl := shortL_len (bitsN a b w)
    have hne : bitsN a b w ≠ [] := by
      intro e
      rw [e, List.length_nil] at hbl; omega
    have hsn := (short_ext _ hne).1
    generalize shortL (bitsN a b w) = ds at *
    rw [b98, sp_lit] at ha
    have e1 : [98] ++ ds ++ [32] ++ nm ++ 10 :: r = (98 :: ds) ++ 32 :: (nm ++ 10 :: r) := by simp
    rw [e1] at ha
    have hdo : OkW (98 :: ds) := ⟨by simp, fun x hx => by
      rcases List.mem_cons.mp hx with rfl | hx
      · decide
      · exact good_ok hgd x hx⟩
    obtain ⟨t1, t2, _⟩ := ha.tok1 hdo (by decide)
    obtain ⟨t3, t4, _⟩ := t2.tok1 hnm (by decide)
    refine ⟨_, t4, fun acc n cs' out h => ?_⟩
    refine .vec t1 hgd ?_ ?_
    · rw [t3]
      unfold rcErr
      rw [known]
      dsimp only
      rw [if_neg (by
        rintro (h | h)
        · exact hsn h
        · omega), good_val hgd]
      rfl
    · rw [t3]
      have hm : mkC ns tm ds nm = ⟨tm, nm, (w : Int), (a : Int), (b : Int)⟩ := by
        unfold mkC
        rw [hwk, Int.toNat_natCast, v1, v2]
      rw [hm]
      exact h
theorem ch_of {l : List Nat} {ns : List (List Nat × Int)} {c : CR} {r : List Nat} {p : Nat} {nowW nowR : Int} (hc : CRd ns c) (h1 : nowW = nowR ∨ nowW < 0) (h2 : nowR ≤ c.tm) (ha : At l p (joinN (chStep nowW c) ++ r)) :
    ∃ p2, At l p2 r ∧ ∀ acc n cs' out, Chs l ns n p2 c.tm (acc ++ [c]) cs' out → ∃ n', n' ≤ n + 2 ∧ Chs l ns n' p nowR acc cs' out := by
  have t0 := hc.ok.t0
  have t1 := hc.ok.t1
  unfold chStep at ha
  by_cases e : c.tm = nowW
  · rw [if_neg (fun h => h e), List.nil_append, joinN_cons] at ha
    have e2 : rowL c.wd c.lo c.hi c.nm ++ [10] ++ joinN [] ++ r = rowL c.wd c.lo c.hi c.nm ++ 10 :: r := by simp [joinN]
    rw [e2] at ha
    obtain ⟨p2, a1, a2⟩ := val_of hc ha
    have hn : nowR = c.tm := by omega
    rw [hn]
    exact ⟨p2, a1, fun acc n cs' out h => ⟨n + 1, by omega, a2 _ _ _ _ h⟩⟩
  · rw [if_pos e, List.singleton_append, joinN_cons, joinN_cons] at ha
    have e2 : timeRow c.tm ++ [10] ++ (rowL c.wd c.lo c.hi c.nm ++ [10] ++ joinN []) ++ r = (35 :: numL c.tm) ++ 10 :: (rowL c.wd c.lo c.hi c.nm ++ 10 :: r) := by
      unfold timeRow
      rw [h35]
      simp [joinN]
    rw [e2] at ha
    have hno := numL_ok t0
    have hlen := numL_len t0 (by omega)
    obtain ⟨q1, q2, _⟩ := ha.tok1 (w := 35 :: numL c.tm) ⟨by simp, fun x hx => by
      rcases List.mem_cons.mp hx with rfl | hx
      · decide
      · exact hno.nl x hx⟩ (by decide)
    obtain ⟨p2, a1, a2⟩ := val_of hc q2
    refine ⟨p2, a1, fun acc n cs' out h => ⟨n + 1 + 1, Nat.le_refl _, ?_⟩⟩
    have hv := numL_val t0
    refine .time q1 (numOk_of hno.ne (numL_dig t0)) (by omega) (by rw [hv]; exact h2) ?_
    rw [hv]
    exact a2 _ _ _ _ h
noncomputable def chL : Int → List CR → List (List Nat)
  | _, [] => []
  | now, c :: cs => chStep now c ++ chL c.tm cs
theorem chF_eq : ∀ (cs : List CR) (now : Int) (rows : List (List Nat)), (cs.foldl chF (now, rows)).2 = rows ++ chL now cs
  | [], now, rows => by simp [chL]
  | c :: cs, now, rows => by
    rw [List.foldl_cons]
    show (cs.foldl chF (c.tm, rows ++ chStep now c)).2 = _
    rw [chF_eq cs, List.append_assoc]
    rfl
noncomputable def srt : Int → List CR → Prop
  | _, [] => True
  | t, c :: r => t ≤ c.tm ∧ srt c.tm r
noncomputable def lastT : Int → List CR → Int
  | t, [] => t
  | _, c :: r => lastT c.tm r
theorem chs_of {l : List Nat} {ns : List (List Nat × Int)} {r : List Nat} : ∀ (cs : List CR) (nowW nowR : Int) (p : Nat), (∀ c ∈ cs, CRd ns c) → srt nowR cs → (nowW = nowR ∨ nowW < 0) → At l p (joinN (chL nowW cs) ++ r) →
    ∃ p2, At l p2 r ∧ ∀ acc n cs' out, Chs l ns n p2 (lastT nowR cs) (acc ++ cs) cs' out → ∃ n', n' ≤ n + 2 * cs.length ∧ Chs l ns n' p nowR acc cs' out
  | [], nowW, nowR, p, _, _, _, ha => ⟨p, ha, fun acc n cs' out h => ⟨n, Nat.le_refl _, by rwa [List.append_nil] at h⟩⟩
  | c :: cs, nowW, nowR, p, hc, hs, h1, ha => by
    unfold chL at ha
    rw [joinN_app, List.append_assoc] at ha
    obtain ⟨p1, a1, a2⟩ := ch_of (hc c (.head _)) h1 hs.1 ha
    obtain ⟨p2, b1, b2⟩ := chs_of cs c.tm c.tm p1 (fun c' h' => hc c' (.tail _ h')) hs.2 (.inl rfl) a1
    refine ⟨p2, b1, fun acc n cs' out h => ?_⟩
    obtain ⟨n1, hn1, hk⟩ := b2 (acc ++ [c]) n cs' out (by
      have : acc ++ [c] ++ cs = acc ++ c :: cs := by simp
      rw [this]; exact h)
    obtain ⟨n2, hn2, hk2⟩ := a2 acc n1 cs' out hk
    exact ⟨n2, by rw [List.length_cons]; omega, hk2⟩
end Nn
end
end
-- NnBad
section
open PySem PySem.W PySem.Spec PySem.Calls PyProof.Rows PyProof.V
set_option maxRecDepth 100000
section
local macro_rules | `(tactic| omega) => `(tactic| k_extra "oNnBad")
theorem Nn.oNnBad : True := by
  (k_with "oNnBad" => with_reducible (k_whole; first | k_extra "omega!" | ((show (_ : Int) < _); first | exact Nn.q119 | fail) | ((show (_ : Int) = _); first | exact Nn.q117 (by assumption) | fail) | ((show _ ∨ _); first | exact Nn.q118 | fail) | ((show False); first | exact Nn.q120 (by assumption) (by assumption) | fail) | fail))
  trivial
namespace Nn
/-! ## The bad rows -/
theorem At.tokL {l p w r row} (h : At l p row) (e : row = w ++ r) (hw : OkW w) (hr : ∀ s, r.head? = some s → isLay s = true) : wTok l p = w ∧ At l (wEnd l p) r ∧ (wAt l p : Int) = ((l.length - row.length : Nat) : Int) := by
  rw [e] at h
  obtain ⟨a, b, c⟩ := h.tok hw hr
  refine ⟨a, b, ?_⟩
  rw [e, List.length_append]
  omega
theorem nil_hd : ∀ s, ([] : List Nat).head? = some s → isLay s = true := fun s e => by cases e
theorem sp_hd {r : List Nat} : ∀ s, (32 :: r).head? = some s → isLay s = true := fun s e => by cases e; decide
theorem okw {w : List Nat} (h : (!w.isEmpty && w.all fun c => !isLay c) = true) : OkW w := by
  rw [Bool.and_eq_true, List.all_eq_true] at h
  refine ⟨fun e => ?_, fun c hc => ?_⟩
  · rw [e] at h; exact absurd h.1 (by decide)
  · have := h.2 c hc
    simpa using this
section
variable {ns : List (List Nat × Int)} {wd : Nat} {l : List Nat} {p : Nat} {now : Int} {acc : List CR}
theorem rc_unk {ds nm} (h : wOf ns nm = none) : rcErr ns ds nm = some (Str.ofString "unknown_id") := by unfold rcErr; rw [h]
theorem bad1 (h : At l p (S "?")) : Chs l ns 0 p now acc acc (some (mk (S "unexpected_word"), ((l.length - (S "?").length : Nat) : Int) + 0)) := by
  obtain ⟨a, _, c⟩ := h.tokL (w := S "?") (r := []) (by decide) (okw (by decide +kernel)) nil_hd
  rw [← c, Int.add_zero, ← lit_eq]
  exact .eunk (.inl a)
theorem bad2 (h : At l p (S "$foo $end")) : Chs l ns 0 p now acc acc (some (mk (S "unexpected_word"), ((l.length - (S "$foo $end").length : Nat) : Int) + 0)) := by
  obtain ⟨a, _, c⟩ := h.tokL (w := S "$foo") (r := 32 :: S "$end") (by decide +kernel) (okw (by decide +kernel)) sp_hd
  rw [← c, Int.add_zero, ← lit_eq]
  exact .eunk (.inr a)
theorem bad3 (hn : wOf ns (S "~~~") = none) (h : At l p (S "1~~~")) : Chs l ns 0 p now acc acc (some (mk (S "unknown_id"), ((l.length - (S "1~~~").length : Nat) : Int) + 0)) := by
  obtain ⟨a, _, c⟩ := h.tokL (w := 49 :: S "~~~") (r := []) (by decide +kernel) (okw (by decide +kernel)) nil_hd
  rw [← c, Int.add_zero, ← lit_eq]
  exact .ebit a (by omega) (rc_unk hn)
theorem bad4 (hn : wOf ns (S "~~~") = none) (h : At l p (S "b10 ~~~")) : Chs l ns 0 p now acc acc (some (mk (S "unknown_id"), ((l.length - (S "b10 ~~~").length : Nat) : Int) + 0)) := by
  obtain ⟨a, b, c⟩ := h.tokL (w := 98 :: [49, 48]) (r := 32 :: S "~~~") (by decide +kernel) (okw (by decide +kernel)) sp_hd
  obtain ⟨a2, _, _⟩ := (b.skip (by decide)).tokL (w := S "~~~") (r := []) (by decide +kernel) (okw (by decide +kernel)) nil_hd
  rw [← c, Int.add_zero, ← lit_eq]
  exact .evec a (rc_unk (by rw [a2]; exact hn))
theorem bad5 (hn : wOf ns [] = none) (h : At l p (S "b1")) : Chs l ns 0 p now acc acc (some (mk (S "unknown_id"), ((l.length - (S "b1").length : Nat) : Int) + 0)) := by
  obtain ⟨a, b, c⟩ := h.tokL (w := 98 :: [49]) (r := []) (by decide +kernel) (okw (by decide +kernel)) nil_hd
  rw [← c, Int.add_zero, ← lit_eq]
  exact .evec a (rc_unk (by rw [b.done]; exact hn))
theorem bad6 (h : At l p (S "r1.5 !")) : Chs l ns 0 p now acc acc (some (mk (S "real_unsupported"), ((l.length - (S "r1.5 !").length : Nat) : Int) + 0)) := by
  obtain ⟨a, _, c⟩ := h.tokL (w := S "r1.5") (r := 32 :: [33]) (by decide +kernel) (okw (by decide +kernel)) sp_hd
  rw [← c, Int.add_zero, ← lit_eq]
  exact .ereal a
theorem bad7 (h : At l p (S "#")) : Chs l ns 0 p now acc acc (some (mk (S "bad_number"), ((l.length - (S "#").length : Nat) : Int) + 1)) := by
  obtain ⟨a, _, c⟩ := h.tokL (w := 35 :: []) (r := []) (by decide +kernel) (okw (by decide +kernel)) nil_hd
  rw [← c, ← lit_eq]
  exact .enum a (by decide) (by decide +kernel)
theorem bad8 (h : At l p (S "#1x")) : Chs l ns 0 p now acc acc (some (mk (S "bad_number"), ((l.length - (S "#1x").length : Nat) : Int) + 1)) := by
  obtain ⟨a, _, c⟩ := h.tokL (w := 35 :: [49, 120]) (r := []) (by decide +kernel) (okw (by decide +kernel)) nil_hd
  rw [← c, ← lit_eq]
  exact .enum a (by decide) (by decide +kernel)
theorem bad9 (h1 : wOf ns [33] = some (wd : Int)) (h : At l p (S "b !")) : Chs l ns 0 p now acc acc (some (mk (S "wrong_width"), ((l.length - (S "b !").length : Nat) : Int) + 0)) := by
  obtain ⟨a, b, c⟩ := h.tokL (w := 98 :: []) (r := 32 :: [33]) (by decide +kernel) (okw (by decide +kernel)) sp_hd
  obtain ⟨a2, _, _⟩ := (b.skip (by decide)).tokL (w := [33]) (r := []) (by decide +kernel) (okw (by decide +kernel)) nil_hd
  rw [← c, Int.add_zero, ← lit_eq]
  exact .evec a (by rw [a2]; unfold rcErr; rw [h1]; dsimp only; rw [if_pos (.inl rfl)])
theorem bad10 (h1 : wOf ns [33] = some (wd : Int)) (h : At l p (S "b" ++ List.replicate (wd + 1) 48 ++ S " !")) : Chs l ns 0 p now acc acc (some (mk (S "wrong_width"), ((l.length - (S "b" ++ List.replicate (wd + 1) 48 ++ S " !").length : Nat) : Int) + 0)) := by
  have e : S "b" ++ List.replicate (wd + 1) 48 ++ S " !" = (98 :: List.replicate (wd + 1) 48) ++ (32 :: [33]) := by
    rw [b98, show S " !" = [32, 33] by decide +kernel]; rfl
  obtain ⟨a, b, c⟩ := h.tokL (w := 98 :: List.replicate (wd + 1) 48) (r := 32 :: [33]) e ⟨by simp, fun x hx => by
    rcases List.mem_cons.mp hx with rfl | hx
    · decide
    · rw [List.eq_of_mem_replicate hx]; decide⟩ sp_hd
  obtain ⟨a2, _, _⟩ := (b.skip (by decide)).tokL (w := [33]) (r := []) (by decide +kernel) (okw (by decide +kernel)) nil_hd
  rw [← c, Int.add_zero, ← lit_eq]
  exact .evec a (by rw [a2]; unfold rcErr; rw [h1]; dsimp only; rw [if_pos (.inr (by rw [List.length_replicate]; omega))])
theorem bad11 (h1 : wOf ns [33] = some (wd : Int)) (hw : 1 ≤ wd) (h : At l p (S "b2 !")) : Chs l ns 0 p now acc acc (some (mk (S "bad_digit"), ((l.length - (S "b2 !").length : Nat) : Int) + 0)) := by
  obtain ⟨a, b, c⟩ := h.tokL (w := 98 :: [50]) (r := 32 :: [33]) (by decide +kernel) (okw (by decide +kernel)) sp_hd
  obtain ⟨a2, _, _⟩ := (b.skip (by decide)).tokL (w := [33]) (r := []) (by decide +kernel) (okw (by decide +kernel)) nil_hd
  rw [← c, Int.add_zero, ← lit_eq]
  exact .evec a (by
    rw [a2]; unfold rcErr; rw [h1]; dsimp only
    rw [if_neg (by
      rintro (h | h)
      · cases h
      · rw [List.length_singleton] at h; omega)]
    rfl)
theorem bad12 (h : At l p (S "$comment a b")) : Chs l ns 0 p now acc acc (some (mk (S "end_missing"), ((l.length - (S "$comment a b").length : Nat) : Int) + 0)) := by
  obtain ⟨a, b, c⟩ := h.tokL (w := S "$comment") (r := 32 :: [97, 32, 98]) (by decide +kernel) (okw (by decide +kernel)) sp_hd
  obtain ⟨a2, b2, _⟩ := (b.skip (by decide)).tokL (w := [97]) (r := 32 :: [98]) (by decide +kernel) (okw (by decide +kernel)) sp_hd
  obtain ⟨a3, b3, _⟩ := (b2.skip (by decide)).tokL (w := [98]) (r := []) (by decide +kernel) (okw (by decide +kernel)) nil_hd
  rw [← c, Int.add_zero, ← lit_eq]
  have h1 : [97] ≠ S "$end" := by decide +kernel
  have h2 : [98] ≠ S "$end" := by decide +kernel
  exact .ecom a (.more (by rw [a2]; exact h1) (by rw [a2]; decide) (.more (by rw [a3]; exact h2) (by rw [a3]; decide) (.miss b3.done))) (show 2 ≤ 100 by decide)
end
theorem bad_row {ns : List (List Nat × Int)} {wd : Nat} (h1 : wOf ns [33] = some (wd : Int)) (hw : 1 ≤ wd) (h2 : wOf ns (S "~~~") = none) (h3 : wOf ns [] = none) {i : Nat} (hi : i ≠ 0) {x : List Nat × List Nat × Int} (hx : (rowsOf wd)[i]? = some x) {l : List Nat} {p : Nat} {now : Int} {acc : List CR} (h : At l p x.1) :
    Chs l ns 0 p now acc acc (some (mk x.2.1, ((l.length - x.1.length : Nat) : Int) + x.2.2)) := by
  unfold rowsOf at hx
  match i, hx with
  | 0, _ => exact absurd rfl hi
  | 1, hx => cases hx; exact bad1 h
  | 2, hx => cases hx; exact bad2 h
  | 3, hx => cases hx; exact bad3 h2 h
  | 4, hx => cases hx; exact bad4 h2 h
  | 5, hx => cases hx; exact bad5 h3 h
  | 6, hx => cases hx; exact bad6 h
  | 7, hx => cases hx; exact bad7 h
  | 8, hx => cases hx; exact bad8 h
  | 9, hx => cases hx; exact bad9 h1 h
  | 10, hx => cases hx; exact bad10 h1 h
  | 11, hx => cases hx; exact bad11 h1 hw h
  | 12, hx => cases hx; exact bad12 h
  | i + 13, hx => cases hx
end Nn
end
end
-- NnLaw
section
open PySem PySem.W PySem.Spec PySem.Calls PyProof.Rows PyProof.V
set_option maxRecDepth 100000
section
local macro_rules | `(tactic| omega) => `(tactic| k_extra "oNnLaw")
theorem Nn.oNnLaw : True := by
  (k_with "oNnLaw" => with_reducible (k_whole; first | k_extra "omega!" | ((show (_ : Nat) < _); first | exact Nn.q26 (by assumption) (by assumption) (by assumption) | fail) | ((show (_ : Int) < _); first | exact Nn.q121 (by assumption) (by assumption) | exact Nn.q122 (by assumption) (by assumption) | fail) | fail))
  trivial
namespace Nn
/-! ## The law's body in pieces -/
theorem execs_app_eq (b : List Stmt) (env : Env) : ∀ a : List Stmt, execs (a ++ b) env = (execs a env >>= fun f => match f with | .next => execs b env | f => pure f)
  | [] => by
    show execs b env = (pure Flow.next >>= _)
    rw [pure_bind]
  | s :: a => by
    show (exec s env >>= fun f => match f with | .next => execs (a ++ b) env | f => pure f) = ((exec s env >>= fun f => match f with | .next => execs a env | f => pure f) >>= _)
    rw [bind_assoc]
    congr 1
    funext f
    cases f with
    | next => exact execs_app_eq b env a
    | _ => rw [pure_bind]
theorem execs_app {M : Model} {A : Around} {E : Value → Shared → Prop} {s : Shared} {a b : List Stmt} {env : Env} {Q : Flow → Shared → Prop}
    (h : wpAny M A (execs a env) (fun f s' => match f with | .next => wpAny M A (execs b env) Q E s' | f => Q f s') E s) : wpAny M A (execs (a ++ b) env) Q E s := by
  rw [execs_app_eq]
  refine wpAny_bind (wpAny_mono h (fun f s' h' => ?_) fun _ _ e => e)
  cases f with
  | next => exact h'
  | _ => exact wpAny_pure h'
theorem restN_ex : ∃ f : Nat → List Stmt, f = fun k => dR.body.drop k := ⟨_, rfl⟩
noncomputable def restN : Nat → List Stmt := Classical.choose restN_ex
theorem restN_eq (k : Nat) : restN k = dR.body.drop k := congrFun (Classical.choose_spec restN_ex) k
theorem body_cut (k : Nat) : dR.body = dR.body.take k ++ restN k := by rw [restN_eq, List.take_append_drop]
theorem rest_cut (k j : Nat) : restN k = (dR.body.drop k).take j ++ restN (k + j) := by
  rw [restN_eq, restN_eq, ← List.drop_drop, List.take_append_drop]
theorem rest_lit {k j : Nat} {l : List Stmt} (h : (dR.body.drop k).take j = l) : restN k = l ++ restN (k + j) := by rw [← h]; exact rest_cut k j
theorem body_len : dR.body.length = 20 := by decide +kernel
end Nn
namespace Nn
theorem has_fr {h₀ h : Heap} {L : Addr} {m : Str → Option Value} {ps : List (Str × Value)} (F : Fr h₀ L h m) (hp : Has m ps) : Fr h₀ L h (kstB m ps) := by
  have e : kstB m ps = m := funext fun y => kstB_eq hp fun _ => rfl
  rw [e]; exact F
end Nn
namespace Nn
/-! ## An item of a written list, at a place not known -/
theorem TxtsAre.consL {vs a} {x : String} {t : Tok} (h : TxtsAre vs a) : TxtsAre (.str (Str.ofString x) t :: vs) (S x :: a) := by
  rw [lit_eq]
  exact .cons _ _ h
section
variable {prog : Program} {w : World} {A : Around} {E : Value → Shared → Prop} {s : Shared} {h₀ : Heap} {L : Addr} {led : List (Addr × Obj)} {Q : Value → Shared → Prop} {l n : Nat} {vs : List Value} {u : Tok} {k : Int} {value slice : Expr}
theorem item_txtsL {a : List (List Nat)} (N : News h₀ L s.heap led) (hm : (l, listOf vs.toArray n) ∈ led) (ht : TxtsAre vs a) (h0 : 0 ≤ k) (h1 : k < a.length) (h2 : a.length ≤ 1000000000) (h : ∀ t', Q (.str (mk (a.getD k.toNat [])) t') s)
    (hs : subscripted slice false (.ref l) (.int k u) = operate [.ref l, .int k u] (getItem (.ref l) (.int k u)) := by with_unfolding_all rfl) :
    wpAny (model prog w) A (subscriptTail value slice (.ref l) (.int k u)) Q E s := by
  have e : a[k.toNat]? = some (a.getD k.toNat []) := by rw [List.getD_eq_getElem?_getD, List.getElem?_eq_getElem (by omega)]; rfl
  obtain ⟨t, ht'⟩ := ht.get e
  exact item_litK (N.isList hm) h0 (by omega) ht' (h t) hs
theorem item_intsL {a : List Int} (N : News h₀ L s.heap led) (hm : (l, listOf vs.toArray n) ∈ led) (ht : IntsAre vs a) (h0 : 0 ≤ k) (h1 : k < a.length) (h2 : a.length ≤ 1000000000) (h : ∀ t', Q (.int (a.getD k.toNat 0) t') s)
    (hs : subscripted slice false (.ref l) (.int k u) = operate [.ref l, .int k u] (getItem (.ref l) (.int k u)) := by with_unfolding_all rfl) :
    wpAny (model prog w) A (subscriptTail value slice (.ref l) (.int k u)) Q E s := by
  have hk : k.toNat < a.length := by omega
  obtain ⟨t, ht'⟩ : ∃ t, vs[k.toNat]? = some (.int (a.getD k.toNat 0) t) := by
    clear hs h hm N
    generalize k.toNat = i at hk
    clear h0 h1 h2
    induction ht generalizing i with
    | nil => cases hk
    | cons x t r ih =>
      cases i with
      | zero => exact ⟨t, rfl⟩
      | succ i => exact ih i (Nat.lt_of_succ_lt_succ hk)
  exact item_litK (N.isList hm) h0 (by omega) ht' (h t) hs
theorem item_refL {a : List Value} {v : Value} (N : News h₀ L s.heap led) (hm : (l, listOf vs.toArray n) ∈ led) (hv : vs[k.toNat]? = some v) (h0 : 0 ≤ k) (h2 : k ≤ 1000000000) (h : Q v s)
    (hs : subscripted slice false (.ref l) (.int k u) = operate [.ref l, .int k u] (getItem (.ref l) (.int k u)) := by with_unfolding_all rfl) :
    wpAny (model prog w) A (subscriptTail value slice (.ref l) (.int k u)) Q E s := item_litK (N.isList hm) h0 (by omega) hv h hs
end
end Nn
namespace Nn
/-- a bound that the walker does not see -/
noncomputable def Bd (r b : Int) : Prop := 0 ≤ r ∧ r < b
theorem Bd.lo {r b} (h : Bd r b) : 0 ≤ r := h.1
theorem Bd.hi {r b} (h : Bd r b) : r < b := h.2
end Nn
end
end
-- P31
theorem Nn.wP31 : True := by
  (k_with "call ref!" => (k_here; (with_reducible show wpAny _ _ (call (Value.ref 299) _) _ _ _); skip; k_dflt (refine' Nn.law_pick_s ?q28b52_B ?q28b52_F ?q28b52_X ?q28b52_T ?q28b52_hk ?q28b52_N ?q28b52_p1 ?q28b52_hfm ?q28b52_hnp ?q28b52_hfi ?q28b52_hfz ?q28b52_hfb ?q28b52_hix ?q28b52_hmx ?q28b52_hbd ?q28b52_hd ?q28b52_hu ?_; (case q28b52_B => k_asm); (case q28b52_F => k_asm); (case q28b52_X => k_asm); (case q28b52_T => k_asm); (case q28b52_hk => first | exact rfl | assumption); (case q28b52_N => k_asm); (case q28b52_p1 => lcg_sub); (case q28b52_hfm => k_mem); (case q28b52_hnp => first | assumption | krn_off); (case q28b52_hfi => assumption); (case q28b52_hfz => assumption); (case q28b52_hfb => assumption); (case q28b52_hix => first | assumption | exact ⟨Int.le_refl _, Int.natCast_nonneg _⟩); (case q28b52_hmx => assumption); (case q28b52_hbd => first | assumption | decide | omega); (case q28b52_hd => ktr_room); (case q28b52_hu => ktr_units); k_whole); intro zzix' zzmx' zzpt1' zzpt2' zznp' zzr' zzt' zzh' zztk' zzhix' zzhmx' zzF' zzN' zzhr'; (try dsimp only)))
  (k_with "call ref!" => (k_here; (with_reducible show wpAny _ _ (call (Value.ref 292) _) _ _ _); k_dflt (refine' Nn.law_pool_s ?q8cfef_B ?q8cfef_F ?q8cfef_X ?q8cfef_T ?q8cfef_hk ?q8cfef_N ?q8cfef_hsl ?q8cfef_hsi ?q8cfef_hsz ?q8cfef_hlay ?q8cfef_hd ?q8cfef_hu ?_; (case q8cfef_B => k_asm); (case q8cfef_F => k_asm); (case q8cfef_X => k_asm); (case q8cfef_T => k_asm); (case q8cfef_hk => first | exact rfl | assumption); (case q8cfef_N => k_asm); (case q8cfef_hsl => assumption); (case q8cfef_hsi => assumption); (case q8cfef_hsz => assumption); (case q8cfef_hlay => assumption); (case q8cfef_hd => ktr_room); (case q8cfef_hu => ktr_units); k_whole); intro zzpl zzfl zznf zzfvs zzfs zzmx zzt1 zzt2 zzh' zztk' zzhfi zzhfz zzhfb zzhmx zzF' zzN' zzlt1 zzlt2; (try k_lt zzlt1)))
  trivial
section
local macro_rules | `(tactic| omega) => `(tactic| k_extra "oP31")
theorem Nn.oP31 : True := by
  (k_with "oP31" => with_reducible (k_whole; first | k_extra "omega!" | ((show (_ : Int) < _); first | exact Nn.q447 (by assumption) | fail) | ((show (_ : Int) ≤ _); first | exact Nn.q448 (by assumption) | fail) | ((show _ ∨ _); first | exact Nn.q446 (by assumption) | fail) | fail))
  trivial
namespace Nn
noncomputable def roadsL : List (List Nat) := [S "a", S "top.a", S "top.u1.b", S "top.u1.c", S "top.u2.b", S "x.y.z", S "top.$b[0]", S "top.u1"]
theorem law_p1 {w : World} {mean : ExcName → Option Value} {mg mb : Str → Option Value} {dp un : Nat} {gd : Option (List Code)} {A₀ : Around} {h₀ : Heap} {L fa sa : Addr} {ccd : Value} {s : Shared} {Q E : Value → Shared → Prop} {vs : List Value} {ns : List Int} {co : Obj}
    (B : Below A₀ h₀ [] h₀) (F : Fr h₀ L s.heap (fun y => List.lookup y [(Str.ofString "script", Value.ref sa)].reverse)) (X : (K w.params).In h₀) (T : Top q looseN mean mg mb h₀) (N : News h₀ L s.heap [(L + 1, co)]) (XC : CellsAre (fun _ => none) [(Str.ofString "known", L + 1)] [(L + 1, co)])
    (hsl : h₀.IsList sa vs.toArray) (hsi : IntsAre vs ns) (hsz : ns.length ≤ 63) (hlay : (PyData.list (ns.map PyData.int)).layable0 = true) (hd : dp + 200 < recursionLimit) (hu : un + 3000 < cLine)
    
    (k : ∀ (pl fl rl np nf nr : Nat) fvs fs (ix mx : Int) pt1 pt2 sc ts rvs u h' tk', (sc = S "1ns" ∨ sc = S "10ps") → IntsAre fvs fs → fs.length ≤ 500 → (∀ f ∈ fs, 0 ≤ f ∧ f < 840) → (0 ≤ ix ∧ ix ≤ (fs.length : Int)) → (0 ≤ mx ∧ mx < 1009) → TxtsAre rvs roadsL →
      Fr h₀ L h' (kstB u [(Str.ofString "pool", .ref pl), (Str.ofString "roads", .ref rl), (Str.ofString "scale", .str (mk sc) ts)]) → News h₀ L h' [(pl, listOf #[.ref fl, .int ix pt1, .int mx pt2] np), (rl, listOf rvs.toArray nr), (fl, listOf fvs.toArray nf), (L + 1, co)] → @LT.lt Nat _ (L + 1) fl → @LT.lt Nat _ fl pl → @LT.lt Nat _ pl rl →
      wpAny (model PySem.Challenge.rw_nn0316_01.prog w) (ktrTop dp un gd dR.name dR.scope L fa ccd [(Str.ofString "known", L + 1)] []) (execs (restN 3) (envX dR.name dR.scope L fa ccd [(Str.ofString "known", L + 1)])) (fun f s' => Q (match f with | .ret v => v | _ => .none) s') (fun e s' => wpAny (model PySem.Challenge.rw_nn0316_01.prog w) (ktrTop dp un gd dR.name dR.scope L fa ccd [(Str.ofString "known", L + 1)] []) (leaving (envX dR.name dR.scope L fa ccd [(Str.ofString "known", L + 1)]) e) (fun _ s'' => E e s'') (fun e' s'' => E e' s'') s') { s with heap := h', toks := tk' }) :
    wpAny (model PySem.Challenge.rw_nn0316_01.prog w) (ktrTop dp un gd dR.name dR.scope L fa ccd [(Str.ofString "known", L + 1)] []) (execs dR.body (envX dR.name dR.scope L fa ccd [(Str.ofString "known", L + 1)])) (fun f s' => Q (match f with | .ret v => v | _ => .none) s') (fun e s' => wpAny (model PySem.Challenge.rw_nn0316_01.prog w) (ktrTop dp un gd dR.name dR.scope L fa ccd [(Str.ofString "known", L + 1)] []) (leaving (envX dR.name dR.scope L fa ccd [(Str.ofString "known", L + 1)]) e) (fun _ s'' => E e s'') (fun e' s'' => E e' s'') s') s := by
  have hG : EvG w (envX dR.name dR.scope L fa ccd [(Str.ofString "known", L + 1)]) L h₀ := EvG.of (by with_unfolding_all rfl) X (topRead_of T)
  rw [body_cut 3]
  refine execs_app ?_
  k_steps
  all_goals rw [List.take_zero]
  all_goals k_steps
  · rename Fr _ _ _ _ => F1
    rename News _ _ _ _ => N1
    simp only [lit_eq] at N1
    rename (_ < _ ∧ _ < _ ∧ L + 1 < _) => lr
    exact k _ _ _ _ _ _ _ _ _ _ _ _ (S "1ns") _ _ _ _ _ (.inl rfl) (by assumption) (by assumption) (by assumption) (by assumption) (by assumption) (show StrsAre _ (List.map mk roadsL) from .cons _ _ (.cons _ _ (.cons _ _ (.cons _ _ (.cons _ _ (.cons _ _ (.cons _ _ (.cons _ _ .nil)))))))) (has_fr F1 (ag_cons rfl (ag_cons rfl (ag_cons (by rw [← lit_eq "1ns"] <;> rfl) ag_nil)))) (news_sub N1 (by ksw_less)) (by assumption) (by assumption) lr.1
  · rename Fr _ _ _ _ => F1
    rename News _ _ _ _ => N1
    simp only [lit_eq] at N1
    rename (_ < _ ∧ _ < _ ∧ L + 1 < _) => lr
    exact k _ _ _ _ _ _ _ _ _ _ _ _ (S "10ps") _ _ _ _ _ (.inr rfl) (by assumption) (by assumption) (by assumption) (by assumption) (by assumption) (show StrsAre _ (List.map mk roadsL) from .cons _ _ (.cons _ _ (.cons _ _ (.cons _ _ (.cons _ _ (.cons _ _ (.cons _ _ (.cons _ _ .nil)))))))) (has_fr F1 (ag_cons rfl (ag_cons rfl (ag_cons (by rw [← lit_eq "10ps"] <;> rfl) ag_nil)))) (news_sub N1 (by ksw_less)) (by assumption) (by assumption) lr.1
end Nn
end
-- NnLaw2
section
open PySem PySem.W PySem.Spec PySem.Calls PyProof.Rows PyProof.V
set_option maxRecDepth 100000
section
local macro_rules | `(tactic| omega) => `(tactic| k_extra "oNnLaw2")
theorem Nn.oNnLaw2 : True := by
  (k_with "oNnLaw2" => with_reducible (k_whole; first | k_extra "omega!" | ((show (_ : Nat) < _); first | exact Nn.q5 (by assumption) (by assumption) | fail) | ((show (_ : Nat) ≤ _); first | exact Nn.q63 (by assumption) | fail) | ((show (_ : Nat) ≠ _); first | exact Nn.q123 | fail) | ((show (_ : Nat) = _); first | exact Nn.q66 (by assumption) (by assumption) | fail) | ((show (_ : Int) ≤ _); first | exact Nn.q126 (by assumption) | fail) | ((show _ ∧ _); first | exact Nn.q128 (by assumption) | fail) | ((show False); first | exact Nn.q124 (by assumption) (by assumption) | exact Nn.q125 (by assumption) (by assumption) (by assumption) | exact Nn.q127 (by assumption) (by assumption) | fail) | fail))
  trivial
namespace Nn
/-! ## What the law declares -/
noncomputable def wordB (q : List Nat) : Bool := (!q.isEmpty && q.all fun c => !isLay c) && decide (q ≠ S "$end")
theorem wordB_ok {q : List Nat} (h : wordB q = true) : OkW q ∧ q ≠ S "$end" := by
  unfold wordB at h
  rw [Bool.and_eq_true] at h
  exact ⟨okw h.1, of_decide_eq_true h.2⟩
noncomputable def roadB (p : List Nat) : Bool := (partsOf p).all (fun q => wordB q && decide (q.length ≤ 100) && okWord q) && decide (joinDot (partsOf p) = p) && decide (p.length ≤ 100) && decide ((partsOf p).length ≤ 10) && !(partsOf p).isEmpty
theorem roads_b : roadsL.all roadB = true := by decide +kernel
noncomputable def kindsL : List (List Nat) := [S "wire", S "reg", S "integer"]
noncomputable def widthsL : List Int := [1, 4, 9, 40]
structure RoadOk (p : List Nat) : Prop where
  words : ∀ q ∈ partsOf p, (OkW q ∧ q ≠ S "$end") ∧ q.length ≤ 100
  good : (partsOf p).all okWord = true
  back : joinDot (partsOf p) = p
  len : p.length ≤ 100
  num : (partsOf p).length ≤ 10
  ne : partsOf p ≠ []
theorem road_ok {p : List Nat} (h : p ∈ roadsL) : RoadOk p := by
  have hb := List.all_eq_true.mp roads_b p h
  unfold roadB at hb
  simp only [Bool.and_eq_true, decide_eq_true_eq, Bool.not_eq_true'] at hb
  obtain ⟨⟨⟨⟨h1, h2⟩, h3⟩, h4⟩, h5⟩ := hb
  rw [List.all_eq_true] at h1
  refine ⟨fun q hq => ?_, List.all_eq_true.mpr fun q hq => ?_, h2, h3, h4, fun e => ?_⟩
  · have := h1 q hq
    rw [Bool.and_eq_true, Bool.and_eq_true] at this
    exact ⟨wordB_ok this.1.1, of_decide_eq_true this.1.2⟩
  · have := h1 q hq
    rw [Bool.and_eq_true, Bool.and_eq_true] at this
    exact this.2
  · rw [e] at h5; cases h5
theorem kinds_b : kindsL.all (fun k => wordB k && okWord k && decide (k.length ≤ 100)) = true := by decide +kernel
theorem kind_ok {k : List Nat} (h : k ∈ kindsL) : (OkW k ∧ k ≠ S "$end") ∧ okWord k = true ∧ k.length ≤ 100 := by
  have hb := List.all_eq_true.mp kinds_b k h
  simp only [Bool.and_eq_true, decide_eq_true_eq] at hb
  exact ⟨wordB_ok hb.1.1, hb.1.2, hb.2⟩
theorem width_ok {w : Int} (h : w ∈ widthsL) : 1 ≤ w ∧ w ≤ 40 := by
  unfold widthsL at h
  simp only [List.mem_cons, List.not_mem_nil, or_false] at h
  omega
theorem name_ok {i : Nat} (h : i < 94) : OkW [33 + i] ∧ [33 + i] ≠ S "$end" := by
  refine ⟨⟨by simp, fun c hc => ?_⟩, fun e => ?_⟩
  · rw [List.mem_singleton.mp hc]
    unfold isLay
    simp only [List.mem_cons, List.not_mem_nil, or_false, decide_eq_false_iff_not]
    omega
  · have := congrArg List.length e
    have e2 : (S "$end").length = 4 := by decide +kernel
    rw [e2, List.length_singleton] at this
    omega
theorem vrd_of {p kd : List Nat} {wd : Int} {i : Nat} (hp : p ∈ roadsL) (hw : wd ∈ widthsL) (hk : kd ∈ kindsL) (hi : i < 94) : VRd ⟨p, wd, kd, [33 + i]⟩ := by
  have r := road_ok hp
  have k := kind_ok hk
  have w := width_ok hw
  have n := name_ok hi
  exact ⟨⟨r.len, r.num, r.ne, fun q hq => (r.words q hq).2, w.1, by show wd ≤ 1000; omega, k.2.2, (show 1 ≤ 100 by decide)⟩, fun q hq => (r.words q hq).1, r.back, k.1, n⟩
theorem deErr_none {p kd : List Nat} {wd : Int} (hp : p ∈ roadsL) (hw : wd ∈ widthsL) (hk : kd ∈ kindsL) : deErr p kd wd = none := by
  have w := width_ok hw
  unfold deErr
  rw [(road_ok hp).good, (kind_ok hk).2.1, if_neg (by decide), if_neg (by decide), if_neg (by omega)]
/-- names that count up are new -/
noncomputable def Named (vs : List VR) : Prop := ∀ i r, vs[i]? = some r → r.nm = [33 + i]
theorem named_new {vs : List VR} (h : Named vs) {j : Nat} (hj : vs.length ≤ j) : wOf (nsOf vs) [33 + j] = none := by
  unfold wOf
  rw [Option.map_eq_none_iff, List.find?_eq_none]
  intro x hx
  unfold nsOf at hx
  obtain ⟨r, hr, rfl⟩ := List.mem_map.mp hx
  obtain ⟨i, hi, e⟩ := List.getElem_of_mem hr
  have := h i r (by rw [List.getElem?_eq_getElem hi, e])
  rw [decide_eq_true_eq]
  dsimp only
  rw [this]
  intro e2
  have := List.cons.inj e2
  omega
theorem named_snoc {vs : List VR} (h : Named vs) {r : VR} (hr : r.nm = [33 + vs.length]) : Named (vs ++ [r]) := by
  intro i x e
  rw [List.getElem?_append] at e
  split at e
  · exact h i x e
  · rename_i hi
    have h0 : i - vs.length = 0 := by
      rcases Nat.eq_zero_or_pos (i - vs.length) with h | h
      · exact h
      · rw [List.getElem?_eq_none (by rw [List.length_singleton]; omega)] at e; cases e
    rw [h0] at e
    cases e
    rw [hr, show i = vs.length by omega]
theorem named_take {vs : List VR} (h : Named vs) : ∀ i r, vs[i]? = some r → wOf (nsOf (vs.take i)) r.nm = none := by
  intro i r e
  rw [h i r e]
  refine named_new (fun j x hx => ?_) (List.length_take_le _ _)
  rw [List.getElem?_take] at hx
  split at hx
  · exact h j x hx
  · cases hx
theorem getD_mem {α : Type} {l : List α} {d : α} {k : Int} (h0 : 0 ≤ k) (h1 : k < l.length) : l.getD k.toNat d ∈ l := by
  rw [List.getD_eq_getElem?_getD, List.getElem?_eq_getElem (by omega)]
  exact List.getElem_mem _
end Nn
end
end
-- NnFly4
section
open PySem PySem.W PySem.Spec PySem.Calls PyProof.Rows
set_option maxRecDepth 100000
set_option maxHeartbeats 8000000
namespace Nn
/-! ## Catching in an inner function -/
theorem gb_stays {A₀ : Around} {base g : Heap} {outer : List Env} {env : Env} (K : Below A₀ base (env :: outer) g) : Below A₀ (hideAll g ((env :: outer).filterMap (·.frame))) (env :: outer) g :=
  ⟨K.stack, fun b o q => of_hideAll _ q, funFrames_hide K.frames fun env he b hb => List.mem_filterMap.mpr ⟨env, he, hb⟩⟩
section
variable {A₀ : Around} {base g G B h₅ : Heap} {outer : List Env} {L a : Addr} {m : Str → Option Value} {name : Str} {scope : Scope} {cd : Value}
theorem ground (K : Below A₀ base outer g) (F : Fr g L G m) (hBG : ∀ b o, g.get? b = some o → b ∉ outer.filterMap (·.frame) → B.get? b = some o) (hBh : B.StaysIn h₅) (hsm : G.UpToSlots h₅) :
    ∃ g', KtsTurn (outer.filterMap (·.frame)) g g' ∧ Fr g' L h₅ m ∧ Below A₀ base outer g' := by
  obtain ⟨T, S⟩ := kts_turn_at (h := h₅) (fs := outer.filterMap (·.frame)) (g := g)
    (fun b hb => by
      obtain ⟨_, o, ho, _⟩ := K.frames.mem hb
      exact ⟨o, ho⟩)
    (fun b o e nm => hBh b o (hBG b o e nm))
    (fun b o e hm => by
      obtain ⟨_, o', ho', hd⟩ := K.frames.mem hm
      rw [e] at ho'
      cases ho'
      exact hsm b o (F.keep b o e) hd)
  refine ⟨_, T, ⟨hsm.ns F.ns, S, by rw [T.size]; exact F.above⟩, ⟨K.stack, fun b o e => T.other b o (K.stays b o e) (fun hm => by
    rw [(K.frames.mem hm).1] at e
    cases e), K.frames.of_keeps fun b o e _ => ?_⟩⟩
  obtain ⟨sl, hs⟩ := T.up e
  exact ⟨_, hs, rfl⟩
end
section
variable {prog : Program} {w : World} {A₀ : Around} {E : Value → Shared → Prop} {s' : Shared} {base g G : Heap} {outer : List Env} {L a e dx : Addr} {m : Str → Option Value} {name : Str} {scope : Scope} {cd : Value} {Q : Flow → Shared → Prop} {news : List (Addr × Obj)}
  {P : Params} {p : Program} {loose : List Str} {mean : ExcName → Option Value} {mg mb : Str → Option Value} {x n : Str} {b₀ : Stmt} {suite : List Stmt} {pos np : Pos} {rest : List ExceptHandler}
theorem caughtS {A : Around} {env : Env} (hA : A.frames = some (env :: outer)) (hf : env.frame = some L) (KB : Below A₀ base outer g) (F : Fr g L G m) (hsm : G.UpToSlots s'.heap) (R : FlyD (hideAll g (outer.filterMap (·.frame))) (env :: outer) e dx news s'.heap) (XB : (K P).In base) (TB : Top p loose mean mg mb base)
    (hev : ∀ {A' : Around} {E' : Value → Shared → Prop} {Q' : Value → Shared → Prop} {s₁ : Shared} {g' : Heap}, (K P).In g' → Top p loose mean mg mb g' → Fr g' L s₁.heap m → Q' (.ref 45) s₁ → wpAny (model prog w) A' (eval (.Name x np) env) Q' E' s₁)
    (hst : ∀ {A' : Around} {E' : Value → Shared → Prop} {Q' : Unit → Shared → Prop} {s₁ : Shared} {g' : Heap} {nws : List (Addr × Obj)}, Fr g' L s₁.heap m → News g' L s₁.heap nws →
      (∀ h', Fr g' L h' (fun y => if y = n then some (.ref e) else m y) → News g' L h' nws → Q' () { s₁ with heap := h', toks := s₁.toks + 1 }) → wpAny (model prog w) A' (storeName env n (.ref e)) Q' E' s₁)
    (k : ∀ h' g' ws sl tk, KtsTurn (outer.filterMap (·.frame)) g g' → Below A₀ base outer g' → (K P).In g' → Top p loose mean mg mb g' → Fr g' L h' (fun y => if y = n then some (.ref e) else m y) → News g' L h' ((e, ⟨.ref 45, some dx, .fields ws, sl⟩) :: news) →
      wpAny (model prog w) (A.mark (some (.ref e))) (execs (b₀ :: suite) env)
        (fun f s₄ => wpAny (model prog w) A (do bindName env n .none; unbindBehindTheSuite env n pos) (fun _ s₅ => Q f s₅) E s₄)
        (AsSuiteRaised (model prog w) (A.mark (some (.ref e))) env n pos (notedBy (model prog w) (A.mark (some (.ref e))) env (cameBackBy (model prog w) A env E)))
        { s' with heap := h', toks := tk }) :
    wpAny (model prog w) A (noteFrame (.ref e) env)
      (fun _ s₂ => wpAny (model prog w) A (setFlight (.ref e) none) (fun _ s₃ =>
        wpAny (model prog w) A (handleBy (.ref e) env (.ExceptHandler (some (.Name x np)) (some n) (b₀ :: suite) pos :: rest)) Q E s₃) E s₂) E s' := by
  refine R.elim fun B a0 hB hl hfl oe₀ he₀ hd₀ => ?_
  have hBG : ∀ b o, g.get? b = some o → b ∉ outer.filterMap (·.frame) → B.get? b = some o := fun b o q nm => hB b o (hideAll_get _ q nm)
  have hL := fly_off hf hfl
  refine of_conj (R := fun h₄ => Heap.HeldW B (env :: outer) e (.ref 45) a0 L h₄ ∧ s'.heap.UpToSlots h₄) (kd_noteFrame _ _) (wpAny_looks_onW hA hf hfl fun h₄ hheld₄ hsm₄ => ⟨h₄, rfl, hheld₄, hsm₄⟩) fun _ h₄ r₄ dk₄ => ?_
  refine of_conj (s := { s' with heap := h₄ }) (R := fun h₅ => Heap.FlyingW B (env :: outer) e (.ref 45) a0 h₅ ∧ h₄.UpToSlots h₅) (kd_setFlight _ _) (wpAny_landsW r₄.1 fun h₅ hheld hsm₅' => ⟨h₅, rfl, hheld, hsm₅'⟩) fun _ h₅ r₅ dk₅ => ?_
  have hsm₅ := r₄.2.trans r₅.2
  refine elim3 (ground KB F hBG r₅.1.1 (hsm.trans hsm₅)) fun g₅ T₅ F₅ K₅ => ?_
  refine elim2 r₅.1.there fun ob hob hobc => ?_
  refine wpAny_handleBy_cons (codeAny_handlers_test (hev (s₁ := { s' with heap := h₅ }) (XB.keeps K₅.stays) (TB.keeps K₅.stays) F₅ ?_)) (by intro q; cases q)
  have hC := fe_cls ((XB.keeps K₅.stays).keeps F₅.keep)
  refine wpAny_excMatches_sub_self hC hob hobc (by decide) (codeAny_handlers_suite_as ?_)
  refine of_conj (s := { s' with heap := h₅ }) (R := fun h₆ => Heap.FlyingW B (env :: outer) e (.ref 45) a0 h₆ ∧ h₅.UpToSlots h₆) (kd_setFlight _ _) (lands_againW r₅.1 fun h₆ hfl₆ hsm₆ => ⟨h₆, rfl, hfl₆, hsm₆⟩) fun _ h₆ r₆ dk₆ => ?_
  have hfl₆ := r₆.1
  have hsm₆ := r₆.2
  refine elim3 (ground KB F hBG hfl₆.1 ((hsm.trans hsm₅).trans hsm₆)) fun g₆ T₆ F₆ K₆ => ?_
  refine fly_first hfl₆ (dk₄.trans (dk₅.trans dk₆)) he₀ hd₀ fun ws osl hoe => ?_
  have ne : g₆.get? e = none := T₆.none_ _ (by
    cases q : g.get? e with
    | none => rfl
    | some o =>
      by_cases hm : e ∈ outer.filterMap (·.frame)
      · exfalso
        obtain ⟨_, o', ho', hd⟩ := KB.frames.mem hm
        rw [q] at ho'
        cases ho'
        obtain ⟨sl, hs⟩ := ((hsm.trans hsm₅).trans hsm₆) _ _ (F.keep _ _ q) hd
        rw [hoe] at hs
        exact hd _ (congrArg Obj.data (Option.some.inj hs)).symm
      · have := hBG e o q hm
        rw [hfl₆.2.1] at this; cases this)
  have N₆ := News.more F₆ News.nil hoe (fun es n q => by cases q) ne
  have Nl : News g₆ L h₆ news := fun q hq => ⟨hfl₆.1 _ _ (hl q hq).1, (fun z => by have := (hl q hq).1; rw [z, hL] at this; cases this), T₆.none_ _ (by
    cases z : g.get? q.1 with
    | none => rfl
    | some o =>
      by_cases hm : q.1 ∈ outer.filterMap (·.frame)
      · exfalso
        have := (hl q hq).1
        have hb := (hfl.2.2.1.mem (b := q.1) (List.mem_filterMap.mpr (let ⟨env', he, hb⟩ := List.mem_filterMap.mp hm; ⟨env', .tail _ he, hb⟩))).1
        rw [hb] at this; cases this
      · have := hideAll_get (outer.filterMap (·.frame)) z hm
        rw [(hl q hq).2] at this; cases this)⟩
  refine hst (s₁ := { s' with heap := h₆ }) (nws := (e, ⟨.ref 45, some dx, .fields ws, osl⟩) :: news) F₆ (fun q hq => (List.mem_cons.mp hq).elim (fun z => N₆ q (z ▸ .head _)) (Nl q)) (fun h₇ F₇ N₇ => ?_)
  exact k h₇ g₆ ws osl _ T₆ K₆ (XB.keeps K₆.stays) (TB.keeps K₆.stays) F₇ N₇
end
section
variable {prog : Program} {w : World} {A₀ A : Around} {s : Shared} {base h₀ : Heap} {L : Addr} {m : Str → Option Value} {env : Env} {news : List (Addr × Obj)} {K' : Frag} {p : Program} {loose : List Str} {mean : ExcName → Option Value} {mg mb : Str → Option Value}
  {R : Result → Shared → Prop} {name qual : Str} {params : Arguments} {body : List Stmt} {scope : Scope} {dV kV doc pm cdv ct oc : Value} {an od : Option Addr} {osl : Array (Option Value)} {f : Addr} {args : Args} {binds : List (Str × Value)}
/-- a call after which the caller's frame stays up to its slots -/
theorem code_defD (B : Below A₀ base [] h₀) (F : Fr h₀ L s.heap m) (X₀ : K'.In h₀) (N : News h₀ L s.heap news) (T : Top p loose mean mg mb h₀) (hA : A.frames = some [env]) (hf : env.frame = some L) (hke : env.scope.kind = .function)
    (ho : K'.lookup f = some ⟨oc, od, .func (fnOf name qual params body scope dV kV doc pm an cdv ct), osl⟩) (hcd : codeIn K' cdv qual = true) (hroom : A.depth < recursionLimit)
    (hbind : BindsTo s (fnOf name qual params body scope dV kV doc pm an cdv ct) args binds) (hloc : ∀ y ∈ binds, scope.names.lookup y.1 = some .local)
    (h : ∀ g L' h₁, Fr h₀ L g m → Fr g L' h₁ (fun y => binds.reverse.lookup y) → News g L' h₁ news → Below A base [env] g → K'.In g → Top p loose mean mg mb g → KtsDicts ([env].filterMap (·.frame)) g →
      wpAny (model prog w) (A.deeper (envOf qual scope L' f cdv)) (execs body (envOf qual scope L' f cdv))
        (fun fl s' => LeaveS0 ([env].filterMap (·.frame)) h₀ L m g R (match fl with | .ret v => v | _ => .none) s')
        (fun e s' => wpAny (model prog w) (A.deeper (envOf qual scope L' f cdv)) (leaving (envOf qual scope L' f cdv) e) (fun _ s'' => R (.error e) s'') (fun e' s'' => R (.error e') s'') s')
        { s with heap := h₁, toks := s.toks + binds.length })
    (hco : scope.isCoroutine = false) (hgen : scope.isGenerator = false) (hk : scope.kind = .function)
    (hcell : ∀ x ∈ scope.names, x.2 ≠ .cell) : codeAny (model prog w) A (.call (.ref f) args) R s := by
  have X := X₀.keeps F.keep
  obtain ⟨FG, BG, st, -⟩ := groundX (R := R) B F N hA hf hke
  have hfm : [env].filterMap (·.frame) = [L] := by rw [List.filterMap_cons, hf]; rfl
  refine codeAny_call_def (fd := fnOf name qual params body scope dV kV doc pm an cdv ct) (body := body) (binds := binds) hroom (X _ _ ho) rfl (T.nolimit.keeps F.keep) (codeRec_of X hcd) rfl hbind hcell hloc (fun h₁ hns hk₁ => ?_) hco hgen hk
  obtain ⟨oL, es, ep, hLg, hLd, hLk, hLf⟩ := FG.ns
  refine wpAny_mono (h _ s.heap.objs.size h₁ FG ⟨hns, fun b o e => hk₁ b o (of_hideAll _ e), Nat.le_of_eq (hideAll_size _ _)⟩
    (fun p hp => ⟨hk₁ _ _ (N p hp).1, Nat.ne_of_lt (Heap.lt_size (N p hp).1), hideAll_none _ (List.mem_map_of_mem hp)⟩) BG (X₀.keeps st) (T.keeps st) (fun b hb => by
      rw [hfm] at hb
      obtain rfl := List.mem_singleton.mp hb
      exact ⟨oL, es, ep, hLg, hLd⟩)) (fun fl s' hl => ?_) fun _ _ y => y
  obtain ⟨g', L', m', news', T', F', N', k⟩ := hl
  rw [hfm] at T'
  have nL₀ : h₀.get? L = none := kts_self F
  obtain ⟨sl, hs⟩ := T'.up hLg
  refine k ⟨⟨_, es, ep, F'.keep _ _ hs, hLd, hLk, hLf⟩, fun b o e => F'.keep b o (T'.other b o (st b o e) (fun q => by
    rw [List.mem_singleton.mp q, nL₀] at e
    cases e)), F.above⟩ fun p hp => ⟨(N' p hp).1, fun q => ?_, ?_⟩
  · have := (N' p hp).2.2; rw [q, hs] at this; cases this
  · cases q : h₀.get? p.1 with
    | none => rfl
    | some o =>
      obtain ⟨sl', hs'⟩ := T'.up (st _ _ q)
      have := (N' p hp).2.2
      rw [hs'] at this
      cases this
end
end Nn
end
-- NnGet
section
open PySem PySem.W PySem.Spec PySem.Calls PyProof.Rows
set_option maxRecDepth 100000
set_option maxHeartbeats 8000000
namespace Nn
theorem fillG : K = K ∧ PySem.Challenge.rw_nn0316_01 = PySem.Challenge.rw_nn0316_01 := by
  k_fill
  exact ⟨rfl, rfl⟩
/-! ## Reading an attribute of a caught exception -/
section
variable {prog : Program} {w : World} {A : Around} {E : Value → Shared → Prop} {s : Shared}
theorem fe_get {expr : Bool} {Q : Value → Shared → Prop} {e : Addr} {ox : Obj} {name : Str} {v : Value} {od : Option Obj} (X : (K w.params).In s.heap) (I : InstAt s.heap e ox 45 od) (hf : findObj (K w.params) 45 od name = some (.value v)) (hv : handedIn v = true)
    (h : Q v { s with toks := s.toks + 1 }) : wpAny (model prog w) A (getAttr (.ref e) name expr) Q E s := by
  obtain ⟨hh, g, d, t, os⟩ := s
  have L0 := I.type (M := model prog w)
  have Lg := looks_findIn (M := model prog w) X (show findIn (K w.params) (.ref 45) "__getattribute__" = some (some (.builtin "BaseException.__getattribute__")) by kernel_rfl!)
  have Lh := looks_findIn (M := model prog w) X (show findIn (K w.params) (.ref 45) "__getattr__" = some none by kernel_rfl!)
  have Lf := looks_find (M := model prog w) X I hf
  have sub : Looks (model prog w) hh (isInstance (.ref e) (.type "BaseException")) true := I.type.andThen (looks_mroIn X (by kernel_rfl!))
  have hk : builtinKind "BaseException.__getattribute__" = some .slot := by decide +kernel
  have hsplit : splitId "BaseException.__getattribute__" = some ("BaseException", "__getattribute__") := by decide +kernel
  have FE := PySem.F.attr_Exception
  have f3 := FE.ga.bind (.ref e)
  have hx0 : (expr && onTheHeap (Value.builtin "BaseException.__getattribute__")) = false := by cases expr <;> rfl
  have hx2 : (Value.builtin "BaseException.__getattribute__" == Value.builtin "object.__getattribute__") = false := by decide +kernel
  have hx1 : (onTheHeap (Value.ref 45) && Value.builtin "BaseException.__getattribute__" == Value.builtin "object.__getattribute__") = false := by rw [hx2]; rfl
  unfold getAttr getAttrBy
  refine wpAny_bind (wpAny_mkText (wpAny_holding (wpAny_bind (L0.at (wpAny_bind (Lg.at ?_))))))
  dsimp only
  rw [hx1, if_neg Bool.false_ne_true]
  unfold getAttrByItsOwn hookBefore
  refine wpAny_bind ?_
  rw [if_pos (show onTheHeap (Value.ref 45) = true from rfl)]
  refine Lh.at ?_
  unfold callGetattribute
  rw [hx0, if_neg Bool.false_ne_true]
  unfold boundAndCalled
  repeat (any_goals (first | assumption | wp_step))
  refine codeAny_call_builtin FE.ga.plain F.entry_bexc_ga (@check_slot (model prog w) _ _ _ "BaseException.__getattribute__" "BaseException" "__getattribute__" (.ref e) [.str name t] [] _ hk hsplit sub (F.args_bexc_ga _ _) ?_)
  unfold Builtin.«object.__getattribute__»
  dsimp only at L0 Lf h
  repeat (any_goals (first | assumption | with_reducible refine L0.at ?_ | with_reducible refine Lf.at ?_ | wp_step))
  show wpAny _ _ (handedOut v) _ _ _
  rw [handedOut_of hv]
  exact wpAny_pure h
theorem exc_inst {h₀ h : Heap} {L e dx : Addr} {ws : Array Value} {sl : Array (Option Value)} {o : Obj} {news : List (Addr × Obj)} (N : News h₀ L h news) (he : (e, ⟨.ref 45, some dx, .fields ws, sl⟩) ∈ news) (hd : (dx, o) ∈ news) :
    W.InstAt h e ⟨.ref 45, some dx, .fields ws, sl⟩ 45 (some o) := ⟨(N _ he).1, rfl, rfl, (N _ hd).1⟩
theorem exc_kind {h₀ : Heap} {L e dx : Addr} {ws : Array Value} {sl : Array (Option Value)} {news : List (Addr × Obj)} {expr : Bool} {Q : Value → Shared → Prop} {m : Str → Option Value} {t1 t2 t3 tk ta : Tok} {kind : Str} {at' : Int} {vd : Value} (F : Fr h₀ L s.heap m) (X : (K w.params).In h₀) (N : News h₀ L s.heap news) (he : (e, ⟨.ref 45, some dx, .fields ws, sl⟩) ∈ news) (hd : (dx, dictOf [kE w "kind" t1 (.str kind tk), kE w "at" t2 (.int at' ta), kE w "detail" t3 vd] 3) ∈ news)
    (h : Q (.str kind tk) { s with toks := s.toks + 1 }) : wpAny (model prog w) A (getAttr (.ref e) (Str.ofString "kind") expr) Q E s :=
  fe_get (X.keeps F.keep) (exc_inst N he hd) (findObj_own (by kernel_rfl!) (show findIn (K w.params) (.ref 45) (Str.ofString "kind") = some none by kernel_rfl!) (by rfl) (by rfl)) rfl h
theorem exc_at {h₀ : Heap} {L e dx : Addr} {ws : Array Value} {sl : Array (Option Value)} {news : List (Addr × Obj)} {expr : Bool} {Q : Value → Shared → Prop} {m : Str → Option Value} {t1 t2 t3 tk ta : Tok} {kind : Str} {at' : Int} {vd : Value} (F : Fr h₀ L s.heap m) (X : (K w.params).In h₀) (N : News h₀ L s.heap news) (he : (e, ⟨.ref 45, some dx, .fields ws, sl⟩) ∈ news) (hd : (dx, dictOf [kE w "kind" t1 (.str kind tk), kE w "at" t2 (.int at' ta), kE w "detail" t3 vd] 3) ∈ news)
    (h : Q (.int at' ta) { s with toks := s.toks + 1 }) : wpAny (model prog w) A (getAttr (.ref e) (Str.ofString "at") expr) Q E s :=
  fe_get (X.keeps F.keep) (exc_inst N he hd) (findObj_own (by kernel_rfl!) (show findIn (K w.params) (.ref 45) (Str.ofString "at") = some none by kernel_rfl!) (by rfl) (by rfl)) rfl h
end
end Nn
end
-- NnTry
section
open PySem PySem.W PySem.Spec PySem.Calls PyProof.Rows
set_option maxRecDepth 100000
set_option maxHeartbeats 8000000
namespace Nn
/-! ## try .. except FormatError as error, where the body always raises -/
section
variable {prog : Program} {w : World} {A₀ A : Around} {E : Value → Shared → Prop} {s : Shared} {base g : Heap} {outer : List Env} {L : Addr} {m : Str → Option Value} {env : Env} {Q : Flow → Shared → Prop} {news : List (Addr × Obj)}
  {p : Program} {loose : List Str} {mean : ExcName → Option Value} {mg mb : Str → Option Value} {x n : Str} {b b₁ suite orelse : List Stmt} {b₀ : Stmt} {pos np pos' : Pos} {rest : List ExceptHandler} {kd : Str} {at' : Int}
/-- what stands when the body has raised -/
noncomputable def Flew (w : World) (base g : Heap) (env : Env) (outer : List Env) (L : Addr) (m : Str → Option Value) (news : List (Addr × Obj)) (kd : Str) (at' : Int) (s : Shared) (e : Value) (s₁ : Shared) : Prop :=
  ∃ a h2 tk2 G, e = .ref a ∧ s₁ = { s with heap := h2, toks := tk2 } ∧ Fr g L G m ∧ G.UpToSlots h2 ∧ Fly w base (env :: outer) a news kd at' h2
theorem Flew.intro {a : Addr} {h2 G : Heap} {tk2 : Nat} {news' : List (Addr × Obj)} (F : Fr g L G m) (hs : G.UpToSlots h2) (R : Fly w base (env :: outer) a news' kd at' h2) (hn : ∀ p ∈ news, p ∈ news') : Flew w base g env outer L m news kd at' s (.ref a) { s with heap := h2, toks := tk2 } :=
  ⟨a, h2, tk2, G, rfl, rfl, F, hs, R.sub hn⟩
theorem try_fe (hA : A.frames = some (env :: outer)) (hf : env.frame = some L) (KB : Below A₀ base outer g) (_F₀ : Fr g L s.heap m) (_N₀ : News g L s.heap news) (XB : (K w.params).In base) (TB : Top p loose mean mg mb base)
    (hev : ∀ {A' : Around} {E' : Value → Shared → Prop} {Q' : Value → Shared → Prop} {s₁ : Shared} {g' : Heap}, (K w.params).In g' → Top p loose mean mg mb g' → Fr g' L s₁.heap m → Q' (.ref 45) s₁ → wpAny (model prog w) A' (eval (.Name x np) env) Q' E' s₁)
    (hst : ∀ {A' : Around} {E' : Value → Shared → Prop} {Q' : Unit → Shared → Prop} {s₁ : Shared} {g' : Heap} {nws : List (Addr × Obj)} {e : Addr}, Fr g' L s₁.heap m → News g' L s₁.heap nws →
      (∀ h', Fr g' L h' (fun y => if y = n then some (.ref e) else m y) → News g' L h' nws → Q' () { s₁ with heap := h', toks := s₁.toks + 1 }) → wpAny (model prog w) A' (storeName env n (.ref e)) Q' E' s₁)
    (h1 : wpAny (model prog w) A (execs b env) (fun _ _ => False) (Flew w (hideAll g (outer.filterMap (·.frame))) g env outer L m news kd at' s) s)
    (k : ∀ e dx t1 t2 t3 tk ta vd h' g' ws sl tks, KtsTurn (outer.filterMap (·.frame)) g g' → Below A₀ base outer g' → (K w.params).In g' → Top p loose mean mg mb g' → Fr g' L h' (fun y => if y = n then some (.ref e) else m y) →
      News g' L h' ((e, ⟨.ref 45, some dx, .fields ws, sl⟩) :: (dx, dictOf [kE w "kind" t1 (.str kd tk), kE w "at" t2 (.int at' ta), kE w "detail" t3 vd] 3) :: news) →
      wpAny (model prog w) (A.mark (some (.ref e))) (execs (b₀ :: suite) env)
        (fun f s₄ => wpAny (model prog w) A (do bindName env n .none; unbindBehindTheSuite env n pos) (fun _ s₅ => Q f s₅) E s₄)
        (AsSuiteRaised (model prog w) (A.mark (some (.ref e))) env n pos (notedBy (model prog w) (A.mark (some (.ref e))) env (cameBackBy (model prog w) A env E)))
        { s with heap := h', toks := tks }) :
    wpAny (model prog w) A (exec (.Try b (.ExceptHandler (some (.Name x np)) (some n) (b₀ :: suite) pos :: rest) orelse [] pos') env) Q E s := by
  refine wpAny_Try_except (wpAny_mono h1 (fun _ _ h => h.elim) fun e s₁ h => ?_)
  obtain ⟨a, h2, tk2, G, rfl, rfl, F, hs, dx, t1, t2, t3, tk, ta, vd, R⟩ := h
  exact caughtS hA hf KB F hs R XB TB hev hst fun h' g' ws sl tks q1 q2 q3 q4 q5 q6 => k a dx t1 t2 t3 tk ta vd h' g' ws sl tks q1 q2 q3 q4 q5 q6
/-- the same in the outermost function -/
theorem try_fe0 (hA : A.frames = some (env :: outer)) (hf : env.frame = some L) (_F₀ : Fr base L s.heap m) (_N₀ : News base L s.heap news) (XB : (K w.params).In base)
    (hev : ∀ {A' : Around} {E' : Value → Shared → Prop} {Q' : Value → Shared → Prop} {s₁ : Shared}, Fr base L s₁.heap m → Q' (.ref 45) s₁ → wpAny (model prog w) A' (eval (.Name x np) env) Q' E' s₁)
    (hst : ∀ {A' : Around} {E' : Value → Shared → Prop} {Q' : Unit → Shared → Prop} {s₁ : Shared} {nws : List (Addr × Obj)} {e : Addr}, Fr base L s₁.heap m → News base L s₁.heap nws →
      (∀ h', Fr base L h' (fun y => if y = n then some (.ref e) else m y) → News base L h' nws → Q' () { s₁ with heap := h', toks := s₁.toks + 1 }) → wpAny (model prog w) A' (storeName env n (.ref e)) Q' E' s₁)
    (h1 : wpAny (model prog w) A (execs b env) (fun _ _ => False) (Flew w base base env outer L m news kd at' s) s)
    (k : ∀ e dx t1 t2 t3 tk ta vd h' ws sl tks, Fr base L h' (fun y => if y = n then some (.ref e) else m y) →
      News base L h' ((e, ⟨.ref 45, some dx, .fields ws, sl⟩) :: (dx, dictOf [kE w "kind" t1 (.str kd tk), kE w "at" t2 (.int at' ta), kE w "detail" t3 vd] 3) :: news) →
      wpAny (model prog w) (A.mark (some (.ref e))) (execs (b₀ :: suite) env)
        (fun f s₄ => wpAny (model prog w) A (do bindName env n .none; unbindBehindTheSuite env n pos) (fun _ s₅ => Q f s₅) E s₄)
        (AsSuiteRaised (model prog w) (A.mark (some (.ref e))) env n pos (notedBy (model prog w) (A.mark (some (.ref e))) env (cameBackBy (model prog w) A env E)))
        { s with heap := h', toks := tks }) :
    wpAny (model prog w) A (exec (.Try b (.ExceptHandler (some (.Name x np)) (some n) (b₀ :: suite) pos :: rest) orelse [] pos') env) Q E s := by
  refine wpAny_Try_except (wpAny_mono h1 (fun _ _ h => h.elim) fun e s₁ h => ?_)
  obtain ⟨a, h2, tk2, G, rfl, rfl, F, hs, dx, t1, t2, t3, tk, ta, vd, R⟩ := h
  exact fe_caught hA hf F hs R XB hev hst fun h' ws sl tks q5 q6 => k a dx t1 t2 t3 tk ta vd h' ws sl tks q5 q6
end
end Nn
end
-- NnRef
section
open PySem PySem.W PySem.Spec PySem.Calls PyProof.Rows PyProof.V
set_option maxRecDepth 100000
section
local macro_rules | `(tactic| omega) => `(tactic| k_extra "oNnRef")
theorem Nn.oNnRef : True := by
  (k_with "oNnRef" => with_reducible (k_whole; first | k_extra "omega!" | ((show (_ : Nat) ≤ _); first | exact Nn.q160 (by assumption) | exact Nn.q161 (by assumption) | exact Nn.q162 (by assumption) | fail) | fail))
  trivial
namespace Nn
noncomputable def kindsR : List (List Nat) := [S "unknown_id", S "wrong_width", S "time_goes_back", S "bad_path", S "wrong_width", S "bad_kind"]
noncomputable def badPaths : List (List Nat) := [S "top..a", S "", S "top.$end", S "a b.c"]
noncomputable def badKinds : List (List Nat) := [S "", S "re g"]
theorem badPaths_b : badPaths.all (fun p => ((partsOf p).all okWord == false) && decide (p.length ≤ 100) && decide ((partsOf p).length ≤ 10) && (partsOf p).all fun q => decide (q.length ≤ 100)) = true := by decide +kernel
theorem badPath {p : List Nat} (h : p ∈ badPaths) : (∀ kd wt, deErr p kd wt = some (Str.ofString "bad_path")) ∧ p.length ≤ 1000 ∧ (partsOf p).length ≤ 1000 ∧ ∀ q ∈ partsOf p, q.length ≤ 1000 := by
  have hb := List.all_eq_true.mp badPaths_b p h
  simp only [Bool.and_eq_true, decide_eq_true_eq, beq_iff_eq, List.all_eq_true] at hb
  refine ⟨fun kd wt => ?_, by omega, by omega, fun q hq => Nat.le_trans (hb.2 q hq) (by decide)⟩
  unfold deErr
  rw [if_pos hb.1.1.1]
theorem badKinds_b : badKinds.all (fun k => (okWord k == false) && decide (k.length ≤ 100)) = true := by decide +kernel
theorem a_parts : partsOf (S "a") = [S "a"] := by decide +kernel
theorem a_ok : (partsOf (S "a")).all okWord = true := by decide +kernel
theorem wire_ok : okWord (S "wire") = true ∧ (S "wire").length ≤ 1000 ∧ (S "a").length ≤ 1000 := by decide +kernel
theorem s33 : S "!" = [33] := by decide +kernel
theorem badKind {k : List Nat} (h : k ∈ badKinds) : deErr (S "a") k 1 = some (Str.ofString "bad_kind") ∧ k.length ≤ 1000 := by
  have hb := List.all_eq_true.mp badKinds_b k h
  simp only [Bool.and_eq_true, decide_eq_true_eq, beq_iff_eq] at hb
  refine ⟨?_, by omega⟩
  unfold deErr
  rw [if_neg (by rw [a_ok]; decide), if_pos hb.1]
theorem deErr_wd : deErr (S "a") (S "wire") 0 = some (Str.ofString "wrong_width") := by
  unfold deErr
  rw [if_neg (by rw [a_ok]; decide), if_neg (by rw [wire_ok.1]; decide), if_pos (by decide)]
theorem kind_at {way : Int} {x : String} {i : Nat} (hw : way = i) (h : kindsR.getD i [] = S x) : Str.ofString x = mk (kindsR.getD way.toNat []) := by
  rw [hw, Int.toNat_natCast, h]; exact lit_eq x
end Nn
end
end
-- P29
section
local macro_rules | `(tactic| walk_at "execs cons") => `(tactic| refine wpAny_execs_cons ?_)
set_option hygiene false in
local macro_rules | `(tactic| ktr_call $x:term $c:term) => `(tactic| (k_dflt (refine' code_def (binds := $x) ?cf5d4bk1 ?cf5d4bk2 ?cf5d4bk3 ?cf5d4bk4 ?cf5d4bk5 ?cf5d4bkA ?cf5d4bkF ?cf5d4bkK ?cf5d4bk6 ?cf5d4bk7 ?cf5d4bk8 ?cf5d4bk9 ?cf5d4bkB ?_ ?cf5d4bc2 ?cf5d4bc3 ?cf5d4bc4 ?cf5d4bc5; k_extra "ktcf5d4b!")))
set_option hygiene false in
local macro_rules | `(tactic| ktr_call $x:term $c:term) => `(tactic| (k_dflt (refine' Nn.code_defD (binds := $x) ?ca3a80k1 ?ca3a80k2 ?ca3a80k3 ?ca3a80k4 ?ca3a80k5 ?ca3a80kA ?ca3a80kF ?ca3a80kK ?ca3a80k6 ?ca3a80k7 ?ca3a80k8 ?ca3a80k9 ?ca3a80kB ?_ ?ca3a80c2 ?ca3a80c3 ?ca3a80c4 ?ca3a80c5; k_extra "ktca3a80!")))
theorem Nn.wP29 : True := by
  (k_with "ktcf5d4b!" => ((case cf5d4bkA => exact rfl); (case cf5d4bkF => exact rfl); (case cf5d4bkK => assumption); (case cf5d4bk1 => k_asm); (case cf5d4bk2 => k_asm); (case cf5d4bk3 => k_asm); (case cf5d4bk4 => k_asm); (case cf5d4bk5 => k_asm); (case cf5d4bk6 => k_is); (case cf5d4bk7 => k_is); (case cf5d4bk8 => ktr_room); (case cf5d4bk9 => first | exact BindsTo.of_eq rfl | exact binds_K (by k_in) rfl (by k_is) rfl rfl rfl); (case cf5d4bc5 => decide); (case cf5d4bkB => exact locs rfl); (case cf5d4bc2 => exact rfl); (case cf5d4bc3 => exact rfl); (case cf5d4bc4 => exact rfl); k_whole; intro zzg' zzL' zzh' zzFG' zzF' zzN' zzB' zzX' zzT'; (try dsimp only); (try k_fold)))
  (k_with "ktca3a80!" => ((case ca3a80kA => exact rfl); (case ca3a80kF => exact rfl); (case ca3a80kK => assumption); (case ca3a80k1 => k_asm); (case ca3a80k2 => k_asm); (case ca3a80k3 => k_asm); (case ca3a80k4 => k_asm); (case ca3a80k5 => k_asm); (case ca3a80k6 => k_is); (case ca3a80k7 => k_is); (case ca3a80k8 => ktr_room); (case ca3a80k9 => first | exact BindsTo.of_eq rfl | exact binds_K (by k_in) rfl (by k_is) rfl rfl rfl); (case ca3a80c5 => decide); (case ca3a80kB => exact locs rfl); (case ca3a80c2 => exact rfl); (case ca3a80c3 => exact rfl); (case ca3a80c4 => exact rfl); k_whole; intro zzg' zzL' zzh' zzFG' zzF' zzN' zzB' zzX' zzT' zzD'; (try dsimp only); (try k_fold)))
  (k_with "subscriptTail List cons BinOp ref int!" => (k_here; (with_reducible show wpAny _ _ (subscriptTail _ _ (Value.ref _) (Value.int _ _)) _ _ _); k_dflt (refine' Nn.item_txtsL (a := Nn.badKinds) ?q49628_N ?q49628_m ?q49628_t ?q49628_h0 ?q49628_h1 ?q49628_z ?_ ?q49628_hs; (case q49628_N => k_asm); (case q49628_m => k_mem); (case q49628_t => (repeat (first | exact Nn.TxtsAre.none | refine Nn.TxtsAre.consL ?_))); (case q49628_h0 => exact Nn.Bd.lo (by assumption)); (case q49628_h1 => exact Nn.Bd.hi (by assumption)); (case q49628_z => decide); (case q49628_hs => with_unfolding_all rfl)); intro _))
  (k_with "subscriptTail List cons BinOp ref int!" => (k_here; (with_reducible show wpAny _ _ (subscriptTail _ _ (Value.ref _) (Value.int _ _)) _ _ _); k_dflt (refine' Nn.item_txtsL (a := Nn.badPaths) ?qc83c3_N ?qc83c3_m ?qc83c3_t ?qc83c3_h0 ?qc83c3_h1 ?qc83c3_z ?_ ?qc83c3_hs; (case qc83c3_N => k_asm); (case qc83c3_m => k_mem); (case qc83c3_t => (repeat (first | exact Nn.TxtsAre.none | refine Nn.TxtsAre.consL ?_))); (case qc83c3_h0 => exact Nn.Bd.lo (by assumption)); (case qc83c3_h1 => exact Nn.Bd.hi (by assumption)); (case qc83c3_z => decide); (case qc83c3_hs => with_unfolding_all rfl)); intro _))
  (k_with "subscriptTail List cons Name ref int!" => (k_here; (with_reducible show wpAny _ _ (subscriptTail _ _ (Value.ref _) (Value.int _ _)) _ _ _); k_dflt (refine' Nn.item_txtsL (a := Nn.kindsR) ?q7cabb_N ?q7cabb_m ?q7cabb_t ?q7cabb_h0 ?q7cabb_h1 ?q7cabb_z ?_ ?q7cabb_hs; (case q7cabb_N => k_asm); (case q7cabb_m => k_mem); (case q7cabb_t => (repeat (first | exact Nn.TxtsAre.none | refine Nn.TxtsAre.consL ?_))); (case q7cabb_h0 => exact Nn.Bd.lo (by assumption)); (case q7cabb_h1 => exact Nn.Bd.hi (by assumption)); (case q7cabb_z => decide); (case q7cabb_hs => with_unfolding_all rfl)); intro _))
  (k_with "getAttr ref!" => (k_here; (with_reducible show wpAny _ _ (getAttr (Value.ref _) (Str.ofString "kind") _) _ _ _); k_dflt (refine' Nn.exc_kind ?q18177_F ?q18177_X ?q18177_N ?q18177_e ?q18177_d ?_; (case q18177_F => k_asm); (case q18177_X => k_asm); (case q18177_N => k_asm); (case q18177_e => k_mem); (case q18177_d => k_mem); k_whole)))
  (k_with "getAttr ref!" => (k_here; (with_reducible show wpAny _ _ (getAttr (Value.ref _) (Str.ofString "at") _) _ _ _); k_dflt (refine' Nn.exc_at ?qe9545_F ?qe9545_X ?qe9545_N ?qe9545_e ?qe9545_d ?_; (case qe9545_F => k_asm); (case qe9545_X => k_asm); (case qe9545_N => k_asm); (case qe9545_e => k_mem); (case qe9545_d => k_mem); k_whole)))
  trivial
section
local macro_rules | `(tactic| omega) => `(tactic| k_extra "oP29")
theorem Nn.oP29 : True := by
  (k_with "oP29" => with_reducible (k_whole; first | k_extra "omega!" | ((show (_ : Int) ≠ _); first | exact Nn.q444 | fail) | ((show (_ : Int) = _); first | exact Nn.q441 (by assumption) (by assumption) (by assumption) (by assumption) (by assumption) (by assumption) (by assumption) | fail) | ((show _ ∧ _); first | exact Nn.q442 (by assumption) (by assumption) | exact Nn.q445 (by assumption) (by assumption) | fail) | ((show False); first | exact Nn.q443 (by assumption) | fail) | fail))
  trivial
namespace Nn
theorem try_cut {M : Model} {A : Around} {b : List Stmt} {env : Env} {s : Shared} {Q : Flow → Shared → Prop} {H : Value → Shared → Prop} (Exc : Value → Shared → Prop) (h1 : wpAny M A (execs b env) (fun _ _ => False) Exc s) (h2 : ∀ e s₁, Exc e s₁ → H e s₁) : wpAny M A (execs b env) Q H s := wpAny_mono h1 (fun _ _ h => h.elim) h2
theorem nmG {A : Around} {b g : Heap} {l : List Env} (_B : Below A b l g) : ∃ g', g' = g := ⟨g, rfl⟩
theorem nmF {g h : Heap} {L : Addr} {m : Str → Option Value} (_F : Fr g L h m) : ∃ L', L' = L := ⟨L, rfl⟩
theorem law_refused_s {w : World} {mean : ExcName → Option Value} {mg mb : Str → Option Value} {dp un : Nat} {gd : Option (List Code)} {cn : Str} {cs : Scope} {a : Addr} {ccd : Value} {cl : List (Str × Addr)} {A₀ : Around} {h₀ : Heap} {L : Addr} {m : Str → Option Value} {news : List (Addr × Obj)} {s : Shared}
    {Q E : Value → Shared → Prop} {wr wdx vl wl ch nv nc : Nat} {vvs cvs : List Value} {sc : List Nat} {o : Obj} {kvs : List (Str × Value)} {ns : List (List Nat × Int)} {now : Int} {k1 k2 k3 k4 k5 v1 v5 : Tok} {led r1 r2 r3 r4 : List (Addr × Obj)} {way wdt nw : Int} {t1 t2 t3 : Tok}
    (B : Below A₀ h₀ [] h₀) (F : Fr h₀ L s.heap m) (X : (K w.params).In h₀) (T : Top q looseN mean mg mb h₀) (hk : cs.kind = .function) (N : News h₀ L s.heap led) (p1 : Pick (wr, instObj 162 wdx) led r1) (p2 : Pick (wdx, dictOf [kE w "scale" k1 (.str (mk sc) v1), kE w "variables" k2 (.ref vl), kE w "widths" k3 (.ref wl), kE w "changes" k4 (.ref ch), kE w "now" k5 (.int (now) v5)] 5) r1 r2) (p3 : Pick (vl, listOf vvs.toArray nv) r2 r3) (p4 : Pick (wl, o) r3 r4) (p5 : Pick (ch, listOf cvs.toArray nc) r4 news) (W : WOk wdx wr vl wl ch news) (hdo : o.IsDictOf (strKind PySem.Challenge.rw_nn0316_01.prog w) kvs) (hfo : FlatPairs PyData.str kvs (Dw ns)) (hnz : ns.length ≤ 1000) (hway : 0 ≤ way ∧ way ≤ 5) (hw1 : wOf ns [33] = some wdt) (hw2 : wOf ns (S "~~~") = none) (hwb : 1 ≤ wdt ∧ wdt ≤ 1000) (htm : 0 ≤ nw ∧ nw ≤ 10 ^ 15) (hback : nw - 1 < 0 ∨ nw - 1 < now) (hcz : cvs.length ≤ 1000) (hvz : vvs.length < 94) (hnew : wOf ns [33 + vvs.length] = none)
    (hd : dp + 40 < recursionLimit) (hu : un + 700 < cLine)
    (ret : ∀ h' tk', Fr h₀ L h' m → News h₀ L h' ((wr, instObj 162 wdx) :: (wdx, dictOf [kE w "scale" k1 (.str (mk sc) v1), kE w "variables" k2 (.ref vl), kE w "widths" k3 (.ref wl), kE w "changes" k4 (.ref ch), kE w "now" k5 (.int (now) v5)] 5) :: (vl, listOf vvs.toArray nv) :: (wl, o) :: (ch, listOf cvs.toArray nc) :: news) → Q (.bool true) { s with heap := h', toks := tk' }) :
    wpAny (model PySem.Challenge.rw_nn0316_01.prog w) (ktrTop dp un gd cn cs L a ccd cl []) (call (.ref 320) [.ref wr, .int way t1, .int wdt t2, .int nw t3]) Q E s := by
  replace N := Pick.deep5 p1 p2 p3 p4 p5 N
  clear p1 p2 p3 p4 p5
  have W0 := W
  obtain ⟨c1, c2, c3, c4, m1, m2, m3, m4, m5⟩ := W
  obtain ⟨hway0, hway1⟩ := hway
  obtain ⟨htm0, htm1⟩ := htm
  refine wpAny_call ?_
  ktr_call [("writer", .ref wr), ("way", .int way t1), ("width", .int wdt t2), ("now", .int nw t3)] ()
  repeat ((fail_if_success (with_reducible show wpAny _ _ (exec (Stmt.Try ..) _) _ _ _)); walk1)
  rename Below _ _ _ _ => B1
  rename Fr _ _ _ _ => F1
  rename News _ _ _ _ => N1
  obtain ⟨g, er⟩ := nmG B1
  subst er
  obtain ⟨L2, er⟩ := nmF F1
  subst er
  refine' try_fe (kd := mk (kindsR.getD way.toNat [])) (at' := -1) rfl rfl B1 F1 N1 X T ?hev ?hst ?h1 ?kk
  case hev =>
    intro A' E' Q' s₁ g' X' T' F' hQ
    k_steps
    exact hQ
  case hst =>
    intro A' E' Q' s₁ g' nws e F N k
    exact stN F N k rfl rfl
  case h1 =>
    have B2 := gb_stays B1
    clear B1 B
    have hm4 : Bd (nw.fmod 4) 4 := ⟨Int.fmod_nonneg_of_pos _ (by decide), Int.fmod_lt_of_pos _ (by decide)⟩
    have hm2 : Bd (nw.fmod 2) 2 := ⟨Int.fmod_nonneg_of_pos _ (by decide), Int.fmod_lt_of_pos _ (by decide)⟩
    repeat' (first | ((fail_if_success (with_reducible show wpAny _ _ (call (Value.ref 145) _) _ _ _)); (fail_if_success (with_reducible show wpAny _ _ (call (Value.ref 152) _) _ _ _)); first | (k_unfold; (try dsimp only)) | (k_end; wrow_close) | walk1 | (dsimp only; walk1) | (leave1; try dsimp only) | ((with_reducible show ∀ _, Nn.Cut _ _ → _); intro _ _) | ((fail_if_success (with_reducible show wpAny _ _ _ _ _ _)); first | ((with_reducible refine Nn.Nx.use (by assumption) ?_); (try dsimp only)) | ((with_reducible refine Nn.Rx.ret (by assumption) ?_); (try dsimp only)) | ((with_reducible refine Nn.Rx.brk (by assumption) ?_); (try dsimp only)) | ((with_reducible refine Nn.Rx.cont (by assumption) ?_); (try dsimp only)) | ((with_reducible refine Nn.Cut.use (by assumption) ?_); (try dsimp only)))))
    · have hw : way = 0 := by omega
      have he : chErr ns (S "~~~") wdt nw now = some (Str.ofString "unknown_id") := by
        unfold chErr
        rw [hw2]
      rw [lit_eq "~~~"]
      refine' w_change_s ?q1B ?q1F ?q1X ?q1T ?q1hk ?q1N ?q1p1 ?q1p2 ?q1p3 ?q1p4 ?q1p5 ?q1W hdo hfo hnz ?q1hv ?q1htm ?q1hnm hcz ?q1hd ?q1hu ?q1ret ?q1exc
      (case q1B => k_asm); (case q1F => k_asm); (case q1X => k_asm); (case q1T => k_asm); (case q1hk => first | exact rfl | assumption); (case q1N => k_asm); (case q1p1 => lcg_sub); (case q1p2 => lcg_sub); (case q1p3 => lcg_sub); (case q1p4 => lcg_sub); (case q1p5 => lcg_sub); (case q1W => refine ⟨by omega, by omega, by omega, by omega, ?_, ?_, ?_, ?_, by assumption⟩ <;> krn_off)
      (case q1hv => k_mem); (case q1htm => omega); (case q1hnm => decide +kernel); (case q1hd => ktr_room); (case q1hu => ktr_units)
      case q1ret => intro hn; rw [he] at hn; exact absurd hn nofun
      case q1exc =>
        intro kd hkd g2 e2 h2 tk2 hs2 F2 R2
        rw [he] at hkd
        obtain rfl := Option.some.inj hkd
        rw [kind_at (i := 0) hw rfl] at R2
        exact Flew.intro F2 hs2 R2 (by ksw_less)
    · have hw : way = 1 := by omega
      have he : chErr ns [33] (wdt + 1) nw now = some (Str.ofString "wrong_width") := by
        unfold chErr
        rw [hw1]; dsimp only; rw [if_pos (by omega)]
      rw [lit_eq "!", s33]
      refine' w_change_s ?q2B ?q2F ?q2X ?q2T ?q2hk ?q2N ?q2p1 ?q2p2 ?q2p3 ?q2p4 ?q2p5 ?q2W hdo hfo hnz ?q2hv ?q2htm ?q2hnm hcz ?q2hd ?q2hu ?q2ret ?q2exc
      (case q2B => k_asm); (case q2F => k_asm); (case q2X => k_asm); (case q2T => k_asm); (case q2hk => first | exact rfl | assumption); (case q2N => k_asm); (case q2p1 => lcg_sub); (case q2p2 => lcg_sub); (case q2p3 => lcg_sub); (case q2p4 => lcg_sub); (case q2p5 => lcg_sub); (case q2W => refine ⟨by omega, by omega, by omega, by omega, ?_, ?_, ?_, ?_, by assumption⟩ <;> krn_off)
      (case q2hv => k_mem); (case q2htm => omega); (case q2hnm => decide +kernel); (case q2hd => ktr_room); (case q2hu => ktr_units)
      case q2ret => intro hn; rw [he] at hn; exact absurd hn nofun
      case q2exc =>
        intro kd hkd g2 e2 h2 tk2 hs2 F2 R2
        rw [he] at hkd
        obtain rfl := Option.some.inj hkd
        rw [kind_at (i := 1) hw rfl] at R2
        exact Flew.intro F2 hs2 R2 (by ksw_less)
    · have hw : way = 2 := by omega
      have he : chErr ns [33] wdt (nw - 1) now = some (Str.ofString "time_goes_back") := by
        unfold chErr
        rw [hw1]; dsimp only; rw [if_neg (by omega), if_pos (by omega)]
      rw [lit_eq "!", s33]
      refine' w_change_s ?q3B ?q3F ?q3X ?q3T ?q3hk ?q3N ?q3p1 ?q3p2 ?q3p3 ?q3p4 ?q3p5 ?q3W hdo hfo hnz ?q3hv ?q3htm ?q3hnm hcz ?q3hd ?q3hu ?q3ret ?q3exc
      (case q3B => k_asm); (case q3F => k_asm); (case q3X => k_asm); (case q3T => k_asm); (case q3hk => first | exact rfl | assumption); (case q3N => k_asm); (case q3p1 => lcg_sub); (case q3p2 => lcg_sub); (case q3p3 => lcg_sub); (case q3p4 => lcg_sub); (case q3p5 => lcg_sub); (case q3W => refine ⟨by omega, by omega, by omega, by omega, ?_, ?_, ?_, ?_, by assumption⟩ <;> krn_off)
      (case q3hv => k_mem); (case q3htm => omega); (case q3hnm => decide +kernel); (case q3hd => ktr_room); (case q3hu => ktr_units)
      case q3ret => intro hn; rw [he] at hn; exact absurd hn nofun
      case q3exc =>
        intro kd hkd g2 e2 h2 tk2 hs2 F2 R2
        rw [he] at hkd
        obtain rfl := Option.some.inj hkd
        rw [kind_at (i := 2) hw rfl] at R2
        exact Flew.intro F2 hs2 R2 (by ksw_less)
    · have hw : way = 3 := by omega
      have hbp := badPath (getD_mem (l := badPaths) (d := []) hm4.lo hm4.hi)
      have he : deErr (badPaths.getD (nw.fmod 4).toNat []) (S "wire") 1 = some (Str.ofString "bad_path") := hbp.1 _ _
      rw [lit_eq "wire"]
      refine' w_declare_s ?q4B ?q4F ?q4X ?q4T ?q4hk ?q4N ?q4p1 ?q4p2 ?q4p3 ?q4p4 ?q4p5 ?q4W hdo hfo hnz ?q4hpl ?q4hkl hvz hnew ?q4hsp ?q4hd ?q4hu ?q4ret ?q4exc
      (case q4B => k_asm); (case q4F => k_asm); (case q4X => k_asm); (case q4T => k_asm); (case q4hk => first | exact rfl | assumption); (case q4N => k_asm); (case q4p1 => lcg_sub); (case q4p2 => lcg_sub); (case q4p3 => lcg_sub); (case q4p4 => lcg_sub); (case q4p5 => lcg_sub); (case q4W => refine ⟨by omega, by omega, by omega, by omega, ?_, ?_, ?_, ?_, by assumption⟩ <;> krn_off)
      (case q4hpl => exact hbp.2.1); (case q4hkl => exact wire_ok.2.1); (case q4hsp => exact hbp.2.2); (case q4hd => ktr_room); (case q4hu => ktr_units)
      case q4ret => intro hn; rw [he] at hn; exact absurd hn nofun
      case q4exc =>
        intro kd hkd g2 e2 h2 tk2 hs2 F2 R2
        rw [he] at hkd
        obtain rfl := Option.some.inj hkd
        rw [kind_at (i := 3) hw rfl] at R2
        exact Flew.intro F2 hs2 R2 (by ksw_less)
    · have hw : way = 4 := by omega
      have he : deErr (S "a") (S "wire") 0 = some (Str.ofString "wrong_width") := deErr_wd
      rw [lit_eq "a", lit_eq "wire"]
      refine' w_declare_s ?q5B ?q5F ?q5X ?q5T ?q5hk ?q5N ?q5p1 ?q5p2 ?q5p3 ?q5p4 ?q5p5 ?q5W hdo hfo hnz ?q5hpl ?q5hkl hvz hnew ?q5hsp ?q5hd ?q5hu ?q5ret ?q5exc
      (case q5B => k_asm); (case q5F => k_asm); (case q5X => k_asm); (case q5T => k_asm); (case q5hk => first | exact rfl | assumption); (case q5N => k_asm); (case q5p1 => lcg_sub); (case q5p2 => lcg_sub); (case q5p3 => lcg_sub); (case q5p4 => lcg_sub); (case q5p5 => lcg_sub); (case q5W => refine ⟨by omega, by omega, by omega, by omega, ?_, ?_, ?_, ?_, by assumption⟩ <;> krn_off)
      (case q5hpl => exact wire_ok.2.2); (case q5hkl => exact wire_ok.2.1); (case q5hsp => exact ⟨by rw [a_parts]; decide, fun q hq => by rw [a_parts] at hq; rw [List.mem_singleton.mp hq]; exact wire_ok.2.2⟩); (case q5hd => ktr_room); (case q5hu => ktr_units)
      case q5ret => intro hn; rw [he] at hn; exact absurd hn nofun
      case q5exc =>
        intro kd hkd g2 e2 h2 tk2 hs2 F2 R2
        rw [he] at hkd
        obtain rfl := Option.some.inj hkd
        rw [kind_at (i := 4) hw rfl] at R2
        exact Flew.intro F2 hs2 R2 (by ksw_less)
    · have hw : way = 5 := by omega
      have hbk := badKind (getD_mem (l := badKinds) (d := []) hm2.lo hm2.hi)
      have he : deErr (S "a") (badKinds.getD (nw.fmod 2).toNat []) 1 = some (Str.ofString "bad_kind") := hbk.1
      rw [lit_eq "a"]
      refine' w_declare_s ?q6B ?q6F ?q6X ?q6T ?q6hk ?q6N ?q6p1 ?q6p2 ?q6p3 ?q6p4 ?q6p5 ?q6W hdo hfo hnz ?q6hpl ?q6hkl hvz hnew ?q6hsp ?q6hd ?q6hu ?q6ret ?q6exc
      (case q6B => k_asm); (case q6F => k_asm); (case q6X => k_asm); (case q6T => k_asm); (case q6hk => first | exact rfl | assumption); (case q6N => k_asm); (case q6p1 => lcg_sub); (case q6p2 => lcg_sub); (case q6p3 => lcg_sub); (case q6p4 => lcg_sub); (case q6p5 => lcg_sub); (case q6W => refine ⟨by omega, by omega, by omega, by omega, ?_, ?_, ?_, ?_, by assumption⟩ <;> krn_off)
      (case q6hpl => exact wire_ok.2.2); (case q6hkl => exact hbk.2); (case q6hsp => exact ⟨by rw [a_parts]; decide, fun q hq => by rw [a_parts] at hq; rw [List.mem_singleton.mp hq]; exact wire_ok.2.2⟩); (case q6hd => ktr_room); (case q6hu => ktr_units)
      case q6ret => intro hn; rw [he] at hn; exact absurd hn nofun
      case q6exc =>
        intro kd hkd g2 e2 h2 tk2 hs2 F2 R2
        rw [he] at hkd
        obtain rfl := Option.some.inj hkd
        rw [kind_at (i := 5) hw rfl] at R2
        exact Flew.intro F2 hs2 R2 (by ksw_less)
  case kk =>
    have hw6 : Bd way 6 := ⟨hway0, by omega⟩
    clear hway0 hway1
    intro e dx u1 u2 u3 tk ta vd h' g' ws sl tks TT B' X' T' F' N'
    k_steps
    rename Fr h₀ _ _ _ => F9
    rename News h₀ _ _ _ => N9
    rw [show (mk (kindsR.getD way.toNat []) == mk (kindsR.getD way.toNat [])) = true from by rw [beq_iff_eq]]
    exact ret _ _ F9 (news_sub N9 (by ksw_less))
end Nn
end
end
-- NnCut
section
open PySem PySem.W PySem.Spec PySem.Calls PyProof.Rows PyProof.V
set_option maxRecDepth 100000
section
local macro_rules | `(tactic| omega) => `(tactic| k_extra "oNnCut")
theorem Nn.oNnCut : True := by
  (k_with "oNnCut" => with_reducible (k_whole; first | k_extra "omega!" | ((show (_ : Nat) ≤ _); first | exact Nn.q143 (by assumption) | exact Nn.q144 | exact Nn.q147 (by assumption) | fail) | ((show (_ : Nat) = _); first | exact Nn.q137 (by assumption) | exact Nn.q138 (by assumption) | exact Nn.q139 (by assumption) | fail) | ((show False); first | exact Nn.q140 (by assumption) | exact Nn.q141 (by assumption) | exact Nn.q142 (by assumption) (by assumption) (by assumption) | exact Nn.q145 (by assumption) | exact Nn.q146 (by assumption) | fail) | fail))
  trivial
namespace Nn
/-! ## The law's two splits -/
theorem jn_cons (row : List Nat) (rows : List (List Nat)) : joinN (row :: rows) = row ++ 10 :: joinN rows := by unfold joinN; rw [List.flatMap_cons]; simp
theorem jn_app (a b : List (List Nat)) : joinN (a ++ b) = joinN a ++ joinN b := by unfold joinN; rw [List.flatMap_append]
theorem mid_eq {c : Nat} : ∀ {a b x y : List Nat}, c ∉ a → c ∉ b → a ++ c :: x = b ++ c :: y → a = b ∧ x = y
  | [], [], _, _, _, _, e => ⟨rfl, (List.cons.inj e).2⟩
  | [], b :: r, _, _, _, h, e => absurd (List.cons.inj e).1 fun e => h (e ▸ .head _)
  | a :: r, [], _, _, h, _, e => absurd (List.cons.inj e).1 fun e => h (e ▸ .head _)
  | a :: r, b :: t, _, _, h1, h2, e => by
    obtain ⟨e1, e2⟩ := List.cons.inj e
    obtain ⟨e3, e4⟩ := mid_eq (fun h => h1 (.tail _ h)) (fun h => h2 (.tail _ h)) e2
    exact ⟨by rw [e1, e3], e4⟩
/-- an occurrence of `e` and a row's end is the end of a row -/
theorem occ_row {e : List Nat} (he : 10 ∉ e) : ∀ (R : List (List Nat)), (∀ r ∈ R, 10 ∉ r) → ∀ (k : Nat) (t : List Nat), (joinN R).drop k = e ++ 10 :: t →
    ∃ R1 r R2 p, R = R1 ++ r :: R2 ∧ r = p ++ e ∧ k = (joinN R1).length + p.length
  | [], _, k, t, h => by
    have : (joinN []).drop k = [] := by simp [joinN]
    rw [this] at h
    have := congrArg List.length h
    simp at this
  | r :: R, hr, k, t, h => by
    rw [jn_cons] at h
    by_cases hk : k ≤ r.length
    · rw [List.drop_append_of_le_length hk] at h
      have h10 : 10 ∉ r.drop k := fun hm => hr r (.head _) (List.mem_of_mem_drop hm)
      obtain ⟨e1, -⟩ := mid_eq h10 he h
      refine ⟨[], r, R, r.take k, rfl, ?_, ?_⟩
      · rw [← e1, List.take_append_drop]
      · rw [List.length_take]; simp [joinN]; omega
    · obtain ⟨j, rfl⟩ : ∃ j, k = r.length + 1 + j := ⟨k - (r.length + 1), by omega⟩
      have e2 : (r ++ 10 :: joinN R).drop (r.length + 1 + j) = (joinN R).drop j := by
        rw [← List.drop_drop, ← List.drop_drop, List.drop_left]; rfl
      rw [e2] at h
      obtain ⟨R1, x, R2, p, h1, h2, h3⟩ := occ_row he R (fun x hx => hr x (.tail _ hx)) j t h
      exact ⟨r :: R1, x, R2, p, by rw [h1]; rfl, h2, by rw [jn_cons]; simp; omega⟩
theorem same_place {α : Type} {P : α → Prop} {e : α} : ∀ {A B C D : List α} {r : α}, (∀ x ∈ C, ¬ P x) → (∀ x ∈ D, ¬ P x) → P r → A ++ r :: B = C ++ e :: D → A = C ∧ r = e
  | [], _, [], _, _, _, _, _, h => ⟨rfl, (List.cons.inj h).1⟩
  | [], _, c :: C, _, _, h1, _, hr, h => absurd hr (h1 _ ((List.cons.inj h).1 ▸ .head _))
  | a :: A, _, [], _, _, _, h2, hr, h => by
    have := (List.cons.inj h).2
    exact absurd hr (h2 _ (this ▸ List.mem_append.mpr (.inr (.head _))))
  | a :: A, _, c :: C, _, _, h1, h2, hr, h => by
    obtain ⟨e1, e2⟩ := List.cons.inj h
    obtain ⟨e3, e4⟩ := same_place (fun x hx => h1 x (.tail _ hx)) h2 hr e2
    exact ⟨by rw [e1, e3], e4⟩
theorem at_iff {l e : List Nat} {k : Nat} (h : StrLaws.At (mk l) (mk e) (mk l).length k) : ∃ t, l.drop k = e ++ t := by
  have h2 := h.2
  rw [StrLaws.subAt_eq] at h2
  have h3 : (l.drop k).take e.length = e := by
    have := eq_of_beq h2
    simpa [mk_len] using this
  exact ⟨(l.drop k).drop e.length, by rw [← h3, List.length_take]; rw [h3]; have := List.take_append_drop e.length (l.drop k); rw [h3] at this; rw [Nat.min_eq_left (by have := congrArg List.length h3; rw [List.length_take] at this; omega)]; exact this.symm⟩
theorem at_of {a e b : List Nat} : StrLaws.At (mk (a ++ e ++ b)) (mk e) (mk (a ++ e ++ b)).length a.length := by
  refine ⟨by rw [mk_len, mk_len]; simp, ?_⟩
  rw [StrLaws.subAt_eq]
  rw [beq_iff_eq]
  simp [mk_len]
theorem chain_one {x y : Str} {a f : Nat} {cuts : List Nat} (hy : 1 ≤ y.length) (hA : StrLaws.At x y x.length a) (hu : ∀ k, StrLaws.At x y x.length k → k = a)
    (h : StrLaws.ChainG x y x.length 0 cuts f) (hf : ∀ k, f ≤ k → ¬ StrLaws.At x y x.length k) : cuts = [a] := by
  cases cuts with
  | nil =>
    have e : f = 0 := h
    exact absurd hA (hf a (by omega))
  | cons c r =>
    have hc := hu c h.2.1
    subst hc
    cases r with
    | nil => rfl
    | cons d r =>
      have h2 := h.2.2.2
      have := hu d h2.2.1
      have := h2.1
      omega
theorem kind_le {l e : List Nat} (hs : ∀ c ∈ e, c < 256) : ¬ Builtin.Str.strKind (mk l) < Builtin.Str.strKind (mk e) := by
  have h1 : Builtin.Str.strKind (mk e) = 1 := by
    unfold Builtin.Str.strKind
    rw [if_pos]
    rw [← Array.all_toList, List.all_eq_true]
    intro c hc
    exact decide_eq_true (hs c hc)
  rw [h1]
  unfold Builtin.Str.strKind
  split
  · omega
  · split <;> omega
theorem split_one {a e b : List Nat} (he : 1 ≤ e.length) (hs : ∀ c ∈ e, c < 256) (hu : ∀ k t, (a ++ e ++ b).drop k = e ++ t → k = a.length) : partsBy (mk e) (a ++ e ++ b) = [a, b] := by
  have hA := at_of (a := a) (e := e) (b := b)
  obtain ⟨f, h1, h2⟩ := StrLaws.occ_tight (mk (a ++ e ++ b)) (mk e) (by rw [mk_len]; exact he)
  have hc := chain_one (by rw [mk_len]; exact he) hA (fun k hk => by obtain ⟨t, ht⟩ := at_iff hk; exact hu k t ht) h1 h2
  unfold partsBy Txt.split
  rw [if_neg, hc, if_neg (by simp)]
  · rw [StrLaws.partsBetween_eq]
    show List.map _ [Builtin.Str.strSub _ 0 a.length, Builtin.Str.strSub _ (a.length + (mk e).length) _] = _
    rw [List.map_cons, List.map_cons, List.map_nil, StrLaws.strSub_toList, StrLaws.strSub_toList]
    congr 1
    · simp
    · congr 1
      rw [mk_len, mk_len]
      show List.take _ (List.drop _ (a ++ e ++ b)) = b
      rw [List.append_assoc, ← List.drop_drop, List.drop_left, List.drop_left, List.take_of_length_le]
      simp; omega
  · rw [Bool.or_eq_true, decide_eq_true_eq, decide_eq_true_eq]
    rintro (h | h)
    · rw [mk_len, mk_len] at h; simp at h; omega
    · exact kind_le hs h
theorem split_rows {e : List Nat} {R1 R2 : List (List Nat)} (he : 10 ∉ e) (hs : ∀ c ∈ e, c < 256) (h1 : ∀ r ∈ R1, 10 ∉ r ∧ ¬ e <:+ r) (h2 : ∀ r ∈ R2, 10 ∉ r ∧ ¬ e <:+ r) :
    partsBy (mk (e ++ [10])) (joinN (R1 ++ e :: R2)) = [joinN R1, joinN R2] := by
  have e1 : joinN (R1 ++ e :: R2) = joinN R1 ++ (e ++ [10]) ++ joinN R2 := by rw [jn_app, jn_cons]; simp
  rw [e1]
  refine split_one (by simp) (fun c hc => ?_) fun k t ht => ?_
  · rcases List.mem_append.mp hc with h | h
    · exact hs c h
    · rw [List.mem_singleton.mp h]; decide
  · rw [← e1] at ht
    obtain ⟨A, r, B, p, q1, q2, q3⟩ := occ_row he (R1 ++ e :: R2) (fun r hr => by
      rcases List.mem_append.mp hr with h | h
      · exact (h1 r h).1
      · rcases List.mem_cons.mp h with rfl | h
        · exact he
        · exact (h2 r h).1) k t (by rw [ht]; simp)
    obtain ⟨q4, q5⟩ := same_place (P := fun r => e <:+ r) (fun x hx => (h1 x hx).2) (fun x hx => (h2 x hx).2) ⟨p, q2.symm⟩ q1.symm
    subst q4 q5
    have : p = [] := List.append_cancel_right (bs := r) (cs := []) (by rw [← q2]; rfl)
    rw [q3, this]; rfl
/-! by one sign -/
noncomputable def joinC (c : Nat) : List (List Nat) → List Nat
  | [] => []
  | [x] => x
  | x :: y :: r => x ++ c :: joinC c (y :: r)
theorem join_joinC (c : Nat) : ∀ xs : List Str, (Str.join (mk [c]) xs).cps.toList = joinC c (xs.map (·.cps.toList))
  | [] => rfl
  | [x] => rfl
  | x :: y :: r => by
    show ((x ++ mk [c] ++ Str.join (mk [c]) (y :: r)).cps.toList) = _
    rw [Str.cps_append, Array.toList_append, join_joinC c (y :: r), Str.cps_append, Array.toList_append]
    simp [joinC]
theorem parts_join (c : Nat) (l : List Nat) : joinC c (partsBy (mk [c]) l) = l := by
  unfold partsBy
  rw [← join_joinC, StrLaws.join_split]
theorem parts_no (c : Nat) (l : List Nat) : ∀ p ∈ partsBy (mk [c]) l, c ∉ p := by
  intro p hp
  unfold partsBy at hp
  obtain ⟨y, hy, rfl⟩ := List.mem_map.mp hp
  exact StrLaws.split_free (mk l) c y hy
theorem parts_ne (sep : Str) (l : List Nat) : partsBy sep l ≠ [] := by
  intro e
  have h := split_pos (mk l) sep
  have h2 : (partsBy sep l).length = (Txt.split (mk l) sep).length := by unfold partsBy; simp
  rw [e] at h2
  rw [← h2] at h
  cases h
theorem parts_head {c : Nat} {a b : List Nat} (h : c ∉ a) : ∃ r, partsBy (mk [c]) (a ++ c :: b) = a :: r := by
  have h1 := parts_join c (a ++ c :: b)
  have h2 := parts_no c (a ++ c :: b)
  revert h1 h2
  generalize partsBy (mk [c]) (a ++ c :: b) = ps
  intro h1 h2
  match ps with
  | [] => exact absurd (congrArg List.length h1) (by simp [joinC])
  | [x] =>
    have hx : x = a ++ c :: b := h1
    exact absurd (show c ∈ x by rw [hx]; simp) (h2 x (.head _))
  | x :: y :: r =>
    have hx : x ++ c :: joinC c (y :: r) = a ++ c :: b := h1
    exact ⟨y :: r, by rw [(mid_eq (h2 x (.head _)) h hx).1]⟩
theorem parts_rows_go : ∀ (R ps : List (List Nat)), (∀ r ∈ R, 10 ∉ r) → (∀ p ∈ ps, 10 ∉ p) → ps ≠ [] → joinC 10 ps = joinN R → ps = R ++ [[]]
  | _, [], _, _, h, _ => absurd rfl h
  | [], [x], _, _, _, e => by
    have : x = joinN [] := e
    rw [this]; rfl
  | r :: R, [x], _, h, _, e => by
    have hx : x = joinN (r :: R) := e
    rw [jn_cons] at hx
    exact absurd (show 10 ∈ x by rw [hx]; simp) (h x (.head _))
  | [], x :: y :: ps, _, _, _, e => by
    have hx : x ++ 10 :: joinC 10 (y :: ps) = joinN [] := e
    have := congrArg List.length hx
    simp [joinN] at this
  | r :: R, x :: y :: ps, h1, h2, _, e => by
    have hx : x ++ 10 :: joinC 10 (y :: ps) = joinN (r :: R) := e
    rw [jn_cons] at hx
    obtain ⟨e1, e2⟩ := mid_eq (h2 x (.head _)) (h1 r (.head _)) hx
    rw [parts_rows_go R (y :: ps) (fun r hr => h1 r (.tail _ hr)) (fun p hp => h2 p (.tail _ hp)) (by simp) e2, e1]
    rfl
theorem parts_rows {R : List (List Nat)} (h : ∀ r ∈ R, 10 ∉ r) : partsBy (mk [10]) (joinN R) = R ++ [[]] :=
  parts_rows_go R _ h (parts_no 10 _) (parts_ne _ _) (parts_join 10 _)
end Nn
end
end
-- NnRow
section
open PySem PySem.W PySem.Spec PySem.Calls PyProof.Rows PyProof.V
set_option maxRecDepth 100000
section
local macro_rules | `(tactic| omega) => `(tactic| k_extra "oNnRow")
theorem Nn.oNnRow : True := by
  (k_with "oNnRow" => with_reducible (k_whole; first | k_extra "omega!" | ((show (_ : Nat) ≤ _); first | exact Nn.q152 (by assumption) (by assumption) (by assumption) (by assumption) (by assumption) (by assumption) | exact Nn.q157 (by assumption) | fail) | ((show (_ : Nat) ≠ _); first | exact Nn.q151 (by assumption) | fail) | ((show (_ : Int) < _); first | exact Nn.q116 (by assumption) (by assumption) | fail) | ((show (_ : Int) ≤ _); first | exact Nn.q114 (by assumption) (by assumption) | exact Nn.q154 (by assumption) | exact Nn.q56 (by assumption) | fail) | ((show False); first | exact Nn.q153 (by assumption) | exact Nn.q155 (by assumption) | exact Nn.q156 (by assumption) | exact Nn.q158 (by assumption) | fail) | fail))
  trivial
namespace Nn
/-! ## The rows of the text, as the law splits it -/
theorem last_app {a b : List Nat} (h : b ≠ []) : (a ++ b).getLast? = b.getLast? := by
  rw [List.getLast?_append, List.getLast?_eq_some_getLast h]; rfl
theorem no_app {x : Nat} {a b : List Nat} (h1 : x ∉ a) (h2 : x ∉ b) : x ∉ a ++ b := fun h => (List.mem_append.mp h).elim h1 h2
noncomputable def endE : List Nat := S "$enddefinitions $end"
theorem endE_eq : endE = S "$enddefinition" ++ 115 :: S " $end" := by unfold endE; decide +kernel
theorem endE_d : endE = S "$enddefinitions $en" ++ [100] := by unfold endE; decide +kernel
theorem endE_nl : 10 ∉ endE := by unfold endE; decide +kernel
theorem endE_lt : ∀ c ∈ endE, c < 256 := by unfold endE; decide +kernel
theorem no_suf {A : List Nat} {c : Nat} (h : c ≠ 115) : ¬ endE <:+ A ++ c :: S " $end" := by
  rw [endE_eq]
  rintro ⟨t, e⟩
  rw [← List.append_assoc] at e
  have := List.append_inj_right' e rfl
  exact h (List.cons.inj this).1.symm
theorem no_suf_d {A : List Nat} {c : Nat} (h : c ≠ 100) : ¬ endE <:+ A ++ [c] := by
  rw [endE_d]
  rintro ⟨t, e⟩
  rw [← List.append_assoc] at e
  have := List.append_inj_right' e rfl
  exact h (List.cons.inj this).1.symm
theorem no_suf_l {A : List Nat} (hn : A ≠ []) (h : A.getLast? ≠ some 100) : ¬ endE <:+ A := by
  rw [← List.dropLast_concat_getLast hn]
  refine no_suf_d fun e => h ?_
  rw [List.getLast?_eq_some_getLast hn, e]
theorem no_suf_e {A : List Nat} (hn : A ≠ []) (h : A.getLast? ≠ some 115) : ¬ endE <:+ A ++ S " $end" := by
  rw [← List.dropLast_concat_getLast hn, List.append_assoc, List.singleton_append]
  refine no_suf fun e => h ?_
  rw [List.getLast?_eq_some_getLast hn, e]
structure EndOk (r : VR) : Prop where
  sc : ∀ q ∈ wantedOf r, q.getLast? ≠ some 115
  vr : ((partsOf r.path).getLastD [] ++ extentL r.wd).getLast? ≠ some 115
noncomputable def Good (x : List Nat) : Prop := 10 ∉ x ∧ ¬ endE <:+ x
theorem nl_of {w : List Nat} (h : OkW w) : 10 ∉ w := fun hm => by
  have := h.nl 10 hm
  revert this; decide
theorem up_good : Good upRow := by
  refine ⟨by unfold upRow; decide +kernel, ?_⟩
  have e : upRow = S "$upscope" ++ S " $end" := by unfold upRow; decide +kernel
  rw [e]
  exact no_suf_e (by decide +kernel) (by decide +kernel)
theorem scope_good {p : List Nat} (hp : OkW p) (h : p.getLast? ≠ some 115) : Good (scopeRow p) := by
  unfold scopeRow
  refine ⟨fun hm => ?_, no_suf_e ?_ ?_⟩
  · rcases List.mem_append.mp hm with hm | hm
    · rcases List.mem_append.mp hm with hm | hm
      · revert hm; decide +kernel
      · exact nl_of hp hm
    · revert hm; decide +kernel
  · intro e; exact hp.ne (List.append_eq_nil_iff.mp e).2
  · rw [last_app hp.ne]; exact h
theorem num_nl {n : Int} (h : 0 ≤ n) : 10 ∉ numL n := fun hm => by
  have := numL_dig h 10 hm; omega
theorem extent_nl {n : Int} (h : 1 ≤ n) : 10 ∉ extentL n := fun hm => by
  unfold extentL at hm
  split at hm
  · rcases List.mem_append.mp hm with hm | hm
    · rcases List.mem_append.mp hm with hm | hm
      · revert hm; decide +kernel
      · exact num_nl (by omega) hm
    · revert hm; decide +kernel
  · exact nomatch hm
theorem var_good {r : VR} (h : VRd r) (he : EndOk r) : Good (varRow r) := by
  have hl : OkW ((partsOf r.path).getLastD []) := (h.parts _ (getLastD_mem h.ok.ne)).1
  unfold varRow
  have sp : 10 ∉ S " " := by decide +kernel
  refine ⟨no_app (no_app (no_app (no_app (no_app (no_app (no_app (no_app (no_app (by decide +kernel) (nl_of h.kd.1)) sp) (num_nl (by have := h.ok.w0; omega))) sp) (nl_of h.nm.1)) sp) (nl_of hl)) (extent_nl h.ok.w0)) (by decide +kernel), ?_⟩
  · have hne : (partsOf r.path).getLastD [] ++ extentL r.wd ≠ [] := fun e => hl.ne (List.append_eq_nil_iff.mp e).1
    refine no_suf_e (fun e => hl.ne (List.append_eq_nil_iff.mp (List.append_eq_nil_iff.mp e).1).2) ?_
    rw [List.append_assoc (S "$var " ++ r.kd ++ S " " ++ numL r.wd ++ S " " ++ r.nm ++ S " "), last_app hne]
    exact he.vr
theorem fold_good : ∀ (vs : List VR) (p : List (List Nat) × List (List Nat)), (∀ r ∈ vs, VRd r ∧ EndOk r) → (∀ x ∈ p.2, Good x) → ∀ x ∈ (vs.foldl declF p).2, Good x
  | [], p, _, h => h
  | r :: vs, p, hr, h => by
    rw [List.foldl_cons]
    refine fold_good vs (declF p r) (fun r' h' => hr r' (.tail _ h')) fun x hx => ?_
    have hr0 := hr r (.head _)
    rcases List.mem_append.mp hx with hx | hx
    · exact h x hx
    · unfold declStep at hx
      rcases List.mem_append.mp hx with hx | hx
      · rcases List.mem_append.mp hx with hx | hx
        · rw [(List.mem_replicate.mp hx).2]; exact up_good
        · obtain ⟨q, hq, rfl⟩ := List.mem_map.mp hx
          have hq2 := List.mem_of_mem_drop hq
          exact scope_good (wanted_ok hr0.1 q hq2).1.1 (hr0.2.sc q hq2)
      · rw [List.mem_singleton.mp hx]; exact var_good hr0.1 hr0.2
theorem head_good {sc : List Nat} {vs : List VR} (ht : Good (S "$timescale " ++ sc ++ S " $end")) (hr : ∀ r ∈ vs, VRd r ∧ EndOk r) : ∀ x ∈ (S "$timescale " ++ sc ++ S " $end") :: declRows vs, Good x := by
  intro x hx
  rcases List.mem_cons.mp hx with rfl | hx
  · exact ht
  · unfold declRows at hx
    rcases List.mem_append.mp hx with hx | hx
    · exact fold_good vs _ hr (fun x hx => by cases hx) x hx
    · rw [(List.mem_replicate.mp hx).2]; exact up_good
/-- a row as the law looks at it -/
inductive LRow : List Nat → Prop
  | other {row : List Nat} : row.take 1 ≠ [98] → LRow row
  | vec {ds nm : List Nat} : 32 ∉ ds → ds.length ≤ 1000 → (ds.length ≤ 1 ∨ ∃ a b r, ds = a :: b :: r ∧ a ≠ extN b) → LRow (98 :: ds ++ 32 :: nm)
theorem short_form : ∀ l : List Nat, (shortL l).length ≤ 1 ∨ ∃ a b r, shortL l = a :: b :: r ∧ a ≠ extN b
  | [] => .inl (Nat.zero_le _)
  | [_] => .inl (Nat.le_refl _)
  | a :: b :: r => by
    rw [shortL]
    split
    · exact short_form (b :: r)
    · rename_i h
      exact .inr ⟨a, b, r, rfl, fun e => h ((ext_iff a b).mpr e)⟩
structure CEnd (ns : List (List Nat × Int)) (c : CR) : Prop where
  rd : CRd ns c
  nd : c.nm.getLast? ≠ some 100
theorem time_good {t : Int} (h : 0 ≤ t) (h1 : t ≤ 10 ^ 15) : Good (timeRow t) ∧ LRow (timeRow t) ∧ (timeRow t).length ≤ 1200 := by
  have hne := numL_ne t h
  have hd := numL_dig h
  have hl := numL_len h (by omega)
  unfold timeRow
  rw [h35]
  refine ⟨⟨fun hm => ?_, no_suf_l (by simp) fun e => ?_⟩, .other (by simp), by simp; omega⟩
  · rcases List.mem_append.mp hm with hm | hm
    · revert hm; decide
    · exact num_nl h hm
  · rw [last_app hne] at e
    have := hd 100 (List.mem_of_getLast? e)
    omega
theorem row_good {ns : List (List Nat × Int)} {c : CR} (h : CEnd ns c) : Good (rowL c.wd c.lo c.hi c.nm) ∧ LRow (rowL c.wd c.lo c.hi c.nm) ∧ (rowL c.wd c.lo c.hi c.nm).length ≤ 1200 := by
  have hln := rowL_len h.rd.ok
  obtain ⟨⟨⟨t0, t1, nl, w0, w1, lo0, hi0, known⟩, hnm, lo1, hi1⟩, nd⟩ := h
  have hbl := bitsL_len c.lo c.hi c.wd c.wd.toNat
  obtain ⟨a, ea⟩ := Int.eq_ofNat_of_zero_le lo0
  obtain ⟨b, eb⟩ := Int.eq_ofNat_of_zero_le hi0
  obtain ⟨w, ew⟩ := Int.eq_ofNat_of_zero_le (show 0 ≤ c.wd by omega)
  have hbn : bitsL c.lo c.hi c.wd c.wd.toNat = bitsN a b w := by rw [ea, eb, ew, Int.toNat_natCast]; rfl
  have hg := bits_good a b w
  rw [← hbn] at hg
  have hge : ∀ x ∈ bitsL c.lo c.hi c.wd c.wd.toNat, x = 48 ∨ x = 49 ∨ x = 122 ∨ x = 120 := hg
  have hen : (rowL c.wd c.lo c.hi c.nm).getLast? = c.nm.getLast? := by
    unfold rowL
    split
    · rw [last_app hnm.ne]
    · rw [last_app hnm.ne]
  refine ⟨⟨fun hm => ?_, no_suf_l (fun e => ?_) (by rw [hen]; exact nd)⟩, ?_, hln⟩
  · unfold rowL at hm
    split at hm
    · rcases List.mem_append.mp hm with hm | hm
      · have := hge _ hm; omega
      · exact nl_of hnm hm
    · rcases List.mem_append.mp hm with hm | hm
      · rcases List.mem_append.mp hm with hm | hm
        · rcases List.mem_append.mp hm with hm | hm
          · revert hm; decide +kernel
          · have := hge _ (short_mem _ hm); omega
        · revert hm; decide +kernel
      · exact nl_of hnm hm
  · rw [e] at hen
    rw [List.getLast?_nil] at hen
    exact hnm.ne (List.getLast?_eq_none_iff.mp hen.symm)
  · unfold rowL
    split
    · rename_i hw
      have h1 : (bitsL c.lo c.hi c.wd c.wd.toNat).length = 1 := by rw [hbl, hw]; rfl
      obtain ⟨d, hd⟩ := List.length_eq_one_iff.mp h1
      rw [hd] at hge ⊢
      refine .other fun e => ?_
      have := hge d (.head _)
      simp at e
      omega
    · rw [b98, sp_lit]
      have hs := shortL_len (bitsL c.lo c.hi c.wd c.wd.toNat)
      have := LRow.vec (ds := shortL (bitsL c.lo c.hi c.wd c.wd.toNat)) (nm := c.nm) (fun hm => by have := hge _ (short_mem _ hm); omega) (by omega) (short_form _)
      simpa using this
theorem ch_good {ns : List (List Nat × Int)} : ∀ (cs : List CR) (now : Int), (∀ c ∈ cs, CEnd ns c) → ∀ x ∈ chL now cs, Good x ∧ LRow x ∧ x.length ≤ 1200
  | [], _, _, x, hx => nomatch hx
  | c :: cs, now, h, x, hx => by
    have hc := h c (.head _)
    rw [chL] at hx
    rcases List.mem_append.mp hx with hx | hx
    · unfold chStep at hx
      rcases List.mem_append.mp hx with hx | hx
      · split at hx
        · rw [List.mem_singleton.mp hx]; exact time_good hc.rd.ok.t0 hc.rd.ok.t1
        · exact nomatch hx
      · rw [List.mem_singleton.mp hx]; exact row_good hc
    · exact ch_good cs c.tm (fun c' h' => h c' (.tail _ h')) x hx
theorem allRows_eq (sc : List Nat) (vs : List VR) (cs : List CR) : allRows sc vs cs = headRows sc vs ++ chL (-1) cs := by
  unfold allRows; rw [chF_eq]
/-- the text, split at the end of its definitions, then at its rows' ends -/
theorem law_rows_of {sc : List Nat} {vs : List VR} {cs : List CR} {ns : List (List Nat × Int)} (ht : Good (S "$timescale " ++ sc ++ S " $end")) (hr : ∀ r ∈ vs, VRd r ∧ EndOk r) (hc : ∀ c ∈ cs, CEnd ns c) :
    (∃ a, partsBy (mk (endE ++ [10])) (joinN (allRows sc vs cs)) = [a, joinN (chL (-1) cs)]) ∧ partsBy (mk [10]) (joinN (chL (-1) cs)) = chL (-1) cs ++ [[]] ∧ ∀ x ∈ chL (-1) cs ++ [[]], LRow x ∧ x.length ≤ 1200 := by
  have hg := ch_good cs (-1) hc
  refine ⟨⟨joinN ((S "$timescale " ++ sc ++ S " $end") :: declRows vs), ?_⟩, parts_rows fun r h => (hg r h).1.1, fun x hx => ?_⟩
  · have e : allRows sc vs cs = ((S "$timescale " ++ sc ++ S " $end") :: declRows vs) ++ endE :: chL (-1) cs := by
      rw [allRows_eq]; unfold headRows endE; simp
    rw [e]
    exact split_rows endE_nl endE_lt (head_good ht hr) fun r h => (hg r h).1
  · rcases List.mem_append.mp hx with hx | hx
    · exact (hg x hx).2
    · rw [List.mem_singleton.mp hx]
      exact ⟨.other (by simp), by decide⟩
end Nn
end
end
-- NnRow2
section
open PySem PySem.W PySem.Spec PySem.Calls PyProof.Rows PyProof.V
set_option maxRecDepth 100000
section
local macro_rules | `(tactic| omega) => `(tactic| k_extra "oNnRow2")
theorem Nn.oNnRow2 : True := by
  (k_with "oNnRow2" => with_reducible (k_whole; first | k_extra "omega!" | ((show (_ : Nat) ≠ _); first | exact Nn.q159 (by assumption) | fail) | fail))
  trivial
namespace Nn
theorem ends_b : roadsL.all (fun p => (partsOf p).all fun q => decide (q.getLast? ≠ some 115)) = true := by decide +kernel
theorem ext_last {w : Int} (h : 1 < w) : (extentL w).getLast? = some 93 := by
  unfold extentL
  rw [if_pos h, last_app (by decide +kernel)]
  decide +kernel
theorem end_of {p kd : List Nat} {wd : Int} {nm : List Nat} (hp : p ∈ roadsL) : EndOk ⟨p, wd, kd, nm⟩ := by
  have hb := List.all_eq_true.mp ends_b p hp
  rw [List.all_eq_true] at hb
  have ne := (road_ok hp).ne
  refine ⟨fun q hq => of_decide_eq_true (hb q (List.dropLast_subset _ hq)), ?_⟩
  have hl := of_decide_eq_true (hb _ (getLastD_mem (x := []) ne))
  dsimp only
  by_cases hw : 1 < wd
  · rw [last_app (fun e => by have := ext_last hw; rw [e] at this; cases this), ext_last hw]; decide
  · have : extentL wd = [] := by unfold extentL; rw [if_neg hw]
    rw [this, List.append_nil]; exact hl
theorem scale_good {sc : List Nat} (h : sc = S "1ns" ∨ sc = S "10ps") : Good (S "$timescale " ++ sc ++ S " $end") := by
  rcases h with rfl | rfl
  · exact ⟨by decide +kernel, by unfold endE; decide +kernel⟩
  · exact ⟨by decide +kernel, by unfold endE; decide +kernel⟩
theorem scale_ok {sc : List Nat} (h : sc = S "1ns" ∨ sc = S "10ps") : (OkW sc ∧ sc ≠ S "$end") ∧ okWord sc = true ∧ sc.length ≤ 4 := by
  rcases h with rfl | rfl
  · exact ⟨⟨⟨by decide +kernel, by decide +kernel⟩, by decide +kernel⟩, by decide +kernel, by decide +kernel⟩
  · exact ⟨⟨⟨by decide +kernel, by decide +kernel⟩, by decide +kernel⟩, by decide +kernel, by decide +kernel⟩
theorem cend_of {ns : List (List Nat × Int)} {c : CR} {i : Nat} (h : CRd ns c) (hn : c.nm = [33 + i]) (hi : i < 60) : CEnd ns c := ⟨h, by rw [hn]; simp; omega⟩
end Nn
end
end
-- P32
theorem Nn.wP32 : True := by
  (k_with "call ref!" => (k_here; (with_reducible show wpAny _ _ (call (Value.ref 299) _) _ _ _); skip; k_dflt (refine' Nn.law_pick_s ?q1140a_B ?q1140a_F ?q1140a_X ?q1140a_T ?q1140a_hk ?q1140a_N ?q1140a_p1 ?q1140a_hfm ?q1140a_hnp ?q1140a_hfi ?q1140a_hfz ?q1140a_hfb ?q1140a_hix ?q1140a_hmx ?q1140a_hbd ?q1140a_hd ?q1140a_hu ?_; (case q1140a_B => k_asm); (case q1140a_F => k_asm); (case q1140a_X => k_asm); (case q1140a_T => k_asm); (case q1140a_hk => first | exact rfl | assumption); (case q1140a_N => k_asm); (case q1140a_p1 => lcg_sub); (case q1140a_hfm => k_mem); (case q1140a_hnp => first | assumption | krn_off); (case q1140a_hfi => assumption); (case q1140a_hfz => assumption); (case q1140a_hfb => assumption); (case q1140a_hix => first | assumption | exact ⟨Int.le_refl _, Int.natCast_nonneg _⟩); (case q1140a_hmx => assumption); (case q1140a_hbd => first | assumption | decide | omega); (case q1140a_hd => ktr_room); (case q1140a_hu => ktr_units); k_whole); intro zzix' zzmx' zzpt1' zzpt2' zznp' zzr' zzt' zzh' zztk' zzhix' zzhmx' zzF' zzN' zzhr''; k_dflt (have zzhr' : Nn.Bd _ _ := zzhr''); (clear zzhr''); (try dsimp only)))
  (k_with "subscriptTail List cons Call ref int!" => (k_here; (with_reducible show wpAny _ _ (subscriptTail _ _ (Value.ref _) (Value.int _ _)) _ _ _); k_dflt (refine' Nn.item_txtsL (a := Nn.kindsL) ?q61e82_N ?q61e82_m ?q61e82_t ?q61e82_h0 ?q61e82_h1 ?q61e82_z ?_ ?q61e82_hs; (case q61e82_N => k_asm); (case q61e82_m => k_mem); (case q61e82_t => (repeat (first | exact Nn.TxtsAre.none | refine Nn.TxtsAre.consL ?_))); (case q61e82_h0 => exact Nn.Bd.lo (by assumption)); (case q61e82_h1 => exact Nn.Bd.hi (by assumption)); (case q61e82_z => decide); (case q61e82_hs => with_unfolding_all rfl)); intro _))
  (k_with "subscriptTail List cons Call ref int!" => (k_here; (with_reducible show wpAny _ _ (subscriptTail _ _ (Value.ref _) (Value.int _ _)) _ _ _); k_dflt (refine' Nn.item_intsL (a := Nn.widthsL) ?qb2857_N ?qb2857_m ?qb2857_t ?qb2857_h0 ?qb2857_h1 ?qb2857_z ?_ ?qb2857_hs; (case qb2857_N => k_asm); (case qb2857_m => k_mem); (case qb2857_t => (exact IntsAre.cons _ _ (IntsAre.cons _ _ (IntsAre.cons _ _ (IntsAre.cons _ _ IntsAre.nil))))); (case qb2857_h0 => exact Nn.Bd.lo (by assumption)); (case qb2857_h1 => exact Nn.Bd.hi (by assumption)); (case qb2857_z => decide); (case qb2857_hs => with_unfolding_all rfl)); intro _))
  (k_with "subscriptTail Name Call ref int!" => (k_here; (with_reducible show wpAny _ _ (subscriptTail _ _ (Value.ref _) (Value.int _ _)) _ _ _); k_dflt (refine' Nn.item_txtsL (a := Nn.roadsL) ?qfff6a_N ?qfff6a_m ?qfff6a_t ?qfff6a_h0 ?qfff6a_h1 ?qfff6a_z ?_ ?qfff6a_hs; (case qfff6a_N => k_asm); (case qfff6a_m => k_mem); (case qfff6a_t => assumption); (case qfff6a_h0 => exact Nn.Bd.lo (by assumption)); (case qfff6a_h1 => exact Nn.Bd.hi (by assumption)); (case qfff6a_z => decide); (case qfff6a_hs => with_unfolding_all rfl)); intro _))
  trivial
section
local macro_rules | `(tactic| omega) => `(tactic| k_extra "oP32")
theorem Nn.oP32 : True := by
  (k_with "oP32" => with_reducible (k_whole; first | k_extra "omega!" | ((show (_ : Nat) < _); first | exact Nn.q450 (by assumption) (by assumption) (by assumption) (by assumption) (by assumption) | exact Nn.q456 (by assumption) (by assumption) (by assumption) | fail) | ((show (_ : Nat) ≤ _); first | exact Nn.q449 (by assumption) (by assumption) | exact Nn.q453 (by assumption) (by assumption) (by assumption) (by assumption) (by assumption) | exact Nn.q454 (by assumption) (by assumption) (by assumption) (by assumption) (by assumption) | exact Nn.q455 (by assumption) (by assumption) (by assumption) | exact Nn.q457 (by assumption) (by assumption) (by assumption) (by assumption) (by assumption) (by assumption) | fail) | ((show (_ : Nat) ≠ _); first | exact Nn.q451 (by assumption) | fail) | ((show (_ : Int) = _); first | exact Nn.q452 (by assumption) | fail) | fail))
  trivial
namespace Nn
structure DV where
  vs : List VR
  vvs : List Value
  nvv : Nat
  wvv : List Value
  nwv : Nat
  o : Obj
  kvs : List (Str × Value)
  ext : List (Addr × Obj)
  ix : Int
  mx : Int
  pt1 : Tok
  pt2 : Tok
  np : Nat
structure DVOk (prog : Program) (w : World) (fs : List Int) (va : Nat) (i : Nat) (c : DV) : Prop where
  len : c.vs.length = i
  vv : VarsAre c.ext c.vvs c.vs
  wv : VarsAre c.ext c.wvv c.vs
  hd : c.o.IsDictOf (strKind prog w) c.kvs
  hf : FlatPairs PyData.str c.kvs (Dw (nsOf c.vs))
  rd : ∀ r ∈ c.vs, VRd r ∧ EndOk r ∧ r.wd ∈ widthsL ∧ r.path ∈ roadsL ∧ r.kd ∈ kindsL
  nm : Named c.vs
  lt : ∀ p ∈ c.ext, @LT.lt Nat _ va p.1
  hix : 0 ≤ c.ix ∧ c.ix ≤ (fs.length : Int)
  hmx : 0 ≤ c.mx ∧ c.mx < 1009
theorem Apart.ins {A B C : List Addr} {own : List (Addr × Obj)} (h : Apart (A ++ C) own) (hb : Apart B own) : Apart (A ++ (B ++ C)) own := fun b hm => by
  rcases List.mem_append.mp hm with hm | hm
  · exact h b (List.mem_append.mpr (.inl hm))
  · exact (List.mem_append.mp hm).elim (hb b) (fun hc => h b (List.mem_append.mpr (.inr hc)))
theorem nmO {h₀ h : Heap} {L l : Addr} {o : Obj} {rest : List (Addr × Obj)} (_N : News h₀ L h ((l, o) :: rest)) : ∃ o', o' = o := ⟨o, rfl⟩
theorem nsOf_snoc (vs : List VR) (r : VR) : nsOf (vs ++ [r]) = nsOf vs ++ [(r.nm, r.wd)] := by unfold nsOf; rw [List.map_append]; rfl
theorem nmBd {r b : Int} (_h : Bd r b) : ∃ r', r' = r := ⟨r, rfl⟩
structure WAt (rl wdx wr vl wl ch va : Nat) : Prop where
  r : rl < wdx
  c1 : wdx < wr
  c2 : wr < vl
  c3 : vl < wl
  c4 : wl < ch
  c5 : ch < va
  n5 : (wl == sysModules) = false
theorem law_p2 {w : World} {mean : ExcName → Option Value} {mg mb : Str → Option Value} {dp un : Nat} {gd : Option (List Code)} {A₀ : Around} {h₀ : Heap} {L fa : Addr} {ccd : Value} {s : Shared} {Q E : Value → Shared → Prop} {co : Obj} {m : Str → Option Value} {pl fl rl np nf nr : Nat} {fvs rvs : List Value} {fs : List Int} {ix mx : Int} {pt1 pt2 ts : Tok} {sc : List Nat}
    (B : Below A₀ h₀ [] h₀) (X : (K w.params).In h₀) (T : Top q looseN mean mg mb h₀) (XC : CellsAre (fun _ => none) [(Str.ofString "known", L + 1)] [(L + 1, co)]) (hd : dp + 200 < recursionLimit) (hu : un + 3000 < cLine)
    (hsc : sc = S "1ns" ∨ sc = S "10ps") (hfi : IntsAre fvs fs) (hfz : fs.length ≤ 500) (hfb : ∀ f ∈ fs, 0 ≤ f ∧ f < 840) (hix : 0 ≤ ix ∧ ix ≤ (fs.length : Int)) (hmx : 0 ≤ mx ∧ mx < 1009) (hrv : TxtsAre rvs roadsL) (F : Fr h₀ L s.heap (kstB m [(Str.ofString "pool", .ref pl), (Str.ofString "roads", .ref rl), (Str.ofString "scale", .str (mk sc) ts)])) (N : News h₀ L s.heap [(pl, listOf #[.ref fl, .int ix pt1, .int mx pt2] np), (rl, listOf rvs.toArray nr), (fl, listOf fvs.toArray nf), (L + 1, co)]) (l1 : @LT.lt Nat _ (L + 1) fl) (l2 : @LT.lt Nat _ fl pl) (l3 : @LT.lt Nat _ pl rl)
    (k : ∀ (wr wdx vl wl ch va : Nat) (k1 k2 k3 k4 k5 v1 v5 : Tok) (n : Nat) (c : DV) (u : Str → Option Value) (h' : Heap) (tk' : Nat), 1 ≤ n → n ≤ 5 → DVOk PySem.Challenge.rw_nn0316_01.prog w fs va n c → WAt rl wdx wr vl wl ch va →
      Fr h₀ L h' (kstB u [(Str.ofString "pool", .ref pl), (Str.ofString "roads", .ref rl), (Str.ofString "scale", .str (mk sc) ts), (Str.ofString "writer", .ref wr), (Str.ofString "variables", .ref va)]) →
      News h₀ L h' ((pl, listOf #[.ref fl, .int c.ix c.pt1, .int c.mx c.pt2] c.np) :: (va, listOf c.vvs.toArray c.nvv) :: (wr, instObj 162 wdx) :: (wdx, dictOf [kE w "scale" k1 (.str (mk sc) v1), kE w "variables" k2 (.ref vl), kE w "widths" k3 (.ref wl), kE w "changes" k4 (.ref ch), kE w "now" k5 (.int (-1) v5)] 5) :: (vl, listOf c.wvv.toArray c.nwv) :: (wl, c.o) :: (ch, listOf #[] 0) :: (rl, listOf rvs.toArray nr) :: (fl, listOf fvs.toArray nf) :: (L + 1, co) :: c.ext) → wpAny (model PySem.Challenge.rw_nn0316_01.prog w) (ktrTop dp un gd dR.name dR.scope L fa ccd [(Str.ofString "known", L + 1)] []) (execs (restN 6) (envX dR.name dR.scope L fa ccd [(Str.ofString "known", L + 1)])) (fun f s' => Q (match f with | .ret v => v | _ => .none) s') (fun e s' => wpAny (model PySem.Challenge.rw_nn0316_01.prog w) (ktrTop dp un gd dR.name dR.scope L fa ccd [(Str.ofString "known", L + 1)] []) (leaving (envX dR.name dR.scope L fa ccd [(Str.ofString "known", L + 1)]) e) (fun _ s'' => E e s'') (fun e' s'' => E e' s'') s') { s with heap := h', toks := tk' }) :
    wpAny (model PySem.Challenge.rw_nn0316_01.prog w) (ktrTop dp un gd dR.name dR.scope L fa ccd [(Str.ofString "known", L + 1)] []) (execs (restN 3) (envX dR.name dR.scope L fa ccd [(Str.ofString "known", L + 1)])) (fun f s' => Q (match f with | .ret v => v | _ => .none) s') (fun e s' => wpAny (model PySem.Challenge.rw_nn0316_01.prog w) (ktrTop dp un gd dR.name dR.scope L fa ccd [(Str.ofString "known", L + 1)] []) (leaving (envX dR.name dR.scope L fa ccd [(Str.ofString "known", L + 1)]) e) (fun _ s'' => E e s'') (fun e' s'' => E e' s'') s') s := by
  have hG : EvG w (envX dR.name dR.scope L fa ccd [(Str.ofString "known", L + 1)]) L h₀ := EvG.of (by with_unfolding_all rfl) X (topRead_of T)
  have hso : okWord sc = true := by rcases hsc with rfl | rfl <;> decide +kernel
  have hsl : sc.length ≤ 1000 := by rcases hsc with rfl | rfl <;> decide +kernel
  rw [rest_lit (k := 3) (j := 3) (l := [_, _, _]) rfl]
  refine execs_app ?_
  k_steps
  refine' writer_new ?B ?F ?X ?T ?hk ?N ?hl ?hok ?hd ?hu ?_
  (case B => k_asm); (case F => k_asm); (case X => k_asm); (case T => k_asm); (case hk => first | exact rfl | assumption); (case N => k_asm); (case hl => assumption); (case hok => assumption); (case hd => ktr_room); (case hu => ktr_units); k_whole
  intro wr wdx vl wl ch k1 k2 k3 k4 k5 v1 v5 o h' tk' F' N' lw1 lw2 lw3 lw4 lw5 hdo hfo hsy
  k_lt lw1
  have lw0 : @LT.lt Nat _ rl wdx := by omega
  have od0_2 : @LT.lt Nat _ (L + 1) pl := Nat.lt_trans l1 l2
  have od1_3 : @LT.lt Nat _ (fl) rl := Nat.lt_trans l2 l3
  have od2_4 : @LT.lt Nat _ (pl) wdx := Nat.lt_trans l3 lw0
  have od3_5 : @LT.lt Nat _ (rl) wr := Nat.lt_trans lw0 lw2
  have od4_6 : @LT.lt Nat _ (wdx) vl := Nat.lt_trans lw2 lw3
  have od5_7 : @LT.lt Nat _ (wr) wl := Nat.lt_trans lw3 lw4
  have od6_8 : @LT.lt Nat _ (vl) ch := Nat.lt_trans lw4 lw5
  have od0_3 : @LT.lt Nat _ (L + 1) rl := Nat.lt_trans od0_2 l3
  have od1_4 : @LT.lt Nat _ (fl) wdx := Nat.lt_trans od1_3 lw0
  have od2_5 : @LT.lt Nat _ (pl) wr := Nat.lt_trans od2_4 lw2
  have od3_6 : @LT.lt Nat _ (rl) vl := Nat.lt_trans od3_5 lw3
  have od4_7 : @LT.lt Nat _ (wdx) wl := Nat.lt_trans od4_6 lw4
  have od5_8 : @LT.lt Nat _ (wr) ch := Nat.lt_trans od5_7 lw5
  have od0_4 : @LT.lt Nat _ (L + 1) wdx := Nat.lt_trans od0_3 lw0
  have od1_5 : @LT.lt Nat _ (fl) wr := Nat.lt_trans od1_4 lw2
  have od2_6 : @LT.lt Nat _ (pl) vl := Nat.lt_trans od2_5 lw3
  have od3_7 : @LT.lt Nat _ (rl) wl := Nat.lt_trans od3_6 lw4
  have od4_8 : @LT.lt Nat _ (wdx) ch := Nat.lt_trans od4_7 lw5
  have od0_5 : @LT.lt Nat _ (L + 1) wr := Nat.lt_trans od0_4 lw2
  have od1_6 : @LT.lt Nat _ (fl) vl := Nat.lt_trans od1_5 lw3
  have od2_7 : @LT.lt Nat _ (pl) wl := Nat.lt_trans od2_6 lw4
  have od3_8 : @LT.lt Nat _ (rl) ch := Nat.lt_trans od3_7 lw5
  have od0_6 : @LT.lt Nat _ (L + 1) vl := Nat.lt_trans od0_5 lw3
  have od1_7 : @LT.lt Nat _ (fl) wl := Nat.lt_trans od1_6 lw4
  have od2_8 : @LT.lt Nat _ (pl) ch := Nat.lt_trans od2_7 lw5
  have od0_7 : @LT.lt Nat _ (L + 1) wl := Nat.lt_trans od0_6 lw4
  have od1_8 : @LT.lt Nat _ (fl) ch := Nat.lt_trans od1_7 lw5
  have od0_8 : @LT.lt Nat _ (L + 1) ch := Nat.lt_trans od0_7 lw5
  k_steps
  rename IsRange _ _ _ _ _ _ _ _ => rg
  rename Fr _ _ _ _ => F1
  rename News _ _ _ _ => N1
  rename Nn.Bd _ 5 => hr5
  rename (wr < _ ∧ _) => la
  obtain ⟨va, er⟩ := nm1 (news_sub N1 (fun p hp => .tail _ hp))
  subst er
  obtain ⟨nn, hnn⟩ := Int.eq_ofNat_of_zero_le (show 0 ≤ 1 + _ from Int.add_nonneg (by decide) hr5.lo)
  have hnn5 : nn ≤ 5 := by have := hr5.hi; omega
  rw [hnn] at rg
  refine go (rangeK (σ := DV) (n := nn) (fun c => (pl, listOf #[.ref fl, .int c.ix c.pt1, .int c.mx c.pt2] c.np) :: (va, listOf c.vvs.toArray c.nvv) :: (wr, instObj 162 wdx) :: (wdx, dictOf [kE w "scale" k1 (.str (mk sc) v1), kE w "variables" k2 (.ref vl), kE w "widths" k3 (.ref wl), kE w "changes" k4 (.ref ch), kE w "now" k5 (.int (-1) v5)] 5) :: (vl, listOf c.wvv.toArray c.nwv) :: (wl, c.o) :: (ch, listOf #[] 0) :: (rl, listOf rvs.toArray nr) :: (fl, listOf fvs.toArray nf) :: (L + 1, co) :: c.ext) (fun _ => []) [Str.ofString "width", Str.ofString "kind", Str.ofString "path"]
    (DVOk PySem.Challenge.rw_nn0316_01.prog w fs va) ⟨[], [], 0, [], 0, o, [], [], _, _, _, _, _⟩ rfl rg ?_ ?_ F1 (news_sub N1 (by ksw_less)) ag_nil ⟨rfl, ⟨rfl, fun i v e => by cases e⟩, ⟨rfl, fun i v e => by cases e⟩, hdo, hfo, (fun _ h => nomatch h), (fun i r e => by cases e), (fun _ h => nomatch h), by assumption, by assumption⟩ ?_ ?_)
  · exact small_one (by omega) (by omega) (by omega) (by omega)
  · rw [rangeSize_nat]; omega
  · rintro j k t ⟨vs, vvs, nvv, wvv, nwv, o, kvs, ext, ix, mx, pt1, pt2, np⟩ u h tk own hki hj hJ ha F2 N2
    (repeat ((with_reducible show ∀ _, Nn.Cut _ _ → _); intro _ _))
    obtain ⟨hlen, hvv, hwv, hdo, hfo, hrd, hnm, hlt, hix, hmx⟩ := hJ
    clear F1 N1
    dsimp (config := {zetaDelta := true}) only [envOf] at F2 N2 hlen hvv hwv hdo hfo hrd hnm hlt hix hmx
    simp only [List.cons_append] at N2
    have o1 : ∀ p ∈ own, p.1 ≠ pl := ha.ne (.head _)
    have o2 : ∀ p ∈ own, p.1 ≠ va := ha.ne (.tail _ (.head _))
    have o3 : ∀ p ∈ own, p.1 ≠ wdx := ha.ne (.tail _ (.tail _ (.tail _ (.head _))))
    have o4 : ∀ p ∈ own, p.1 ≠ vl := ha.ne (.tail _ (.tail _ (.tail _ (.tail _ (.head _)))))
    have o5 : ∀ p ∈ own, p.1 ≠ wl := ha.ne (.tail _ (.tail _ (.tail _ (.tail _ (.tail _ (.head _))))))
    have o6 : ∀ p ∈ own, p.1 ≠ ch := ha.ne (.tail _ (.tail _ (.tail _ (.tail _ (.tail _ (.tail _ (.head _)))))))
    have x1 : ∀ p ∈ ext, p.1 ≠ pl := off_gt hlt (by omega)
    have x2 : ∀ p ∈ ext, p.1 ≠ va := off_gt hlt (Nat.le_refl _)
    have x3 : ∀ p ∈ ext, p.1 ≠ wdx := off_gt hlt (by omega)
    have x4 : ∀ p ∈ ext, p.1 ≠ vl := off_gt hlt (by omega)
    have x5 : ∀ p ∈ ext, p.1 ≠ wl := off_gt hlt (by omega)
    have x6 : ∀ p ∈ ext, p.1 ≠ ch := off_gt hlt (by omega)
    repeat' (first | ((fail_if_success (with_reducible show wpAny _ _ (call (Value.ref 145) _) _ _ _)); first | (k_unfold; (try dsimp only)) | (k_end; wrow_close) | walk1 | (dsimp only; walk1) | (leave1; try dsimp only) | ((with_reducible show ∀ _, Nn.Cut _ _ → _); intro _ _) | ((fail_if_success (with_reducible show wpAny _ _ _ _ _ _)); first | ((with_reducible refine Nn.Nx.use (by assumption) ?_); (try dsimp only)) | ((with_reducible refine Nn.Rx.ret (by assumption) ?_); (try dsimp only)) | ((with_reducible refine Nn.Rx.brk (by assumption) ?_); (try dsimp only)) | ((with_reducible refine Nn.Rx.cont (by assumption) ?_); (try dsimp only)) | ((with_reducible refine Nn.Cut.use (by assumption) ?_); (try dsimp only)))))
    rename Nn.Bd _ 8 => hr8
    rename Nn.Bd _ 3 => hr3
    rename Nn.Bd _ 4 => hr4
    obtain ⟨r8, er⟩ := nmBd hr8
    subst er
    obtain ⟨r3, er⟩ := nmBd hr3
    subst er
    obtain ⟨r4, er⟩ := nmBd hr4
    subst er
    have hp := getD_mem (l := roadsL) (d := []) hr8.lo hr8.hi
    have hw := getD_mem (l := widthsL) (d := 0) hr4.lo hr4.hi
    have hq := getD_mem (l := kindsL) (d := []) hr3.lo hr3.hi
    generalize roadsL.getD r8.toNat [] = P at *
    generalize widthsL.getD r4.toNat 0 = wd at *
    generalize kindsL.getD r3.toNat [] = kd at *
    have er := road_ok hp
    have ek := kind_ok hq
    have ew : EndOk ⟨P, wd, kd, [33 + vs.length]⟩ := end_of hp
    have hde := deErr_none hp hw hq
    have hvr := vrd_of (i := vs.length) hp hw hq (by omega)
    have hvz : vvs.length = vs.length := hvv.1
    have hwz : wvv.length = vs.length := hwv.1
    have hnl : (nsOf vs).length = vs.length := by unfold nsOf; rw [List.length_map]
    have hv4 : vs.length ≤ 4 := by omega
    have hv5 : vvs.length ≤ 4 := by rw [hvz]; exact hv4
    have hv6 : wvv.length ≤ 4 := by rw [hwz]; exact hv4
    have hv7 : (nsOf vs).length ≤ 4 := by rw [hnl]; exact hv4
    refine' w_declare_s ?zB ?zF ?zX ?zT ?zhk ?zN ?zp1 ?zp2 ?zp3 ?zp4 ?zp5 ?zW hdo hfo ?zhnz ?zhpl ?zhkl ?zhvz ?zhnew ?zhsp ?zhd ?zhu ?zret ?zexc
    (case zB => k_asm); (case zF => k_asm); (case zX => k_asm); (case zT => k_asm); (case zhk => first | exact rfl | assumption); (case zN => k_asm); (case zp1 => lcg_sub); (case zp2 => lcg_sub); (case zp3 => lcg_sub); (case zp4 => lcg_sub); (case zp5 => lcg_sub)
    (case zW => refine ⟨by omega, by omega, by omega, by omega, ?_, ?_, ?_, ?_, by assumption⟩ <;> krn_off)
    (case zhnz => omega); (case zhpl => exact Nat.le_trans er.len (by decide)); (case zhkl => exact Nat.le_trans ek.2.2 (by decide)); (case zhvz => omega)
    (case zhnew => rw [hwz]; exact named_new hnm (Nat.le_refl _)); (case zhsp => exact ⟨Nat.le_trans er.num (by decide), fun p h => Nat.le_trans (er.words p h).2 (by decide)⟩)
    (case zhd => ktr_room); (case zhu => ktr_units)
    case zexc => intro kd hkd; rw [hde] at hkd; cases hkd
    k_whole
    intro _ tp t4 t5 o' kvs' h' tk' F' N' hdo' hfo' ltp ltn
    (try dsimp only)
    clear er ek
    k_lt ltn
    k_steps
    rename Fr _ _ _ _ => F3
    rename News _ _ _ _ => N3
    rename (tp < _ ∧ _) => lD
    rw [List.push_toArray] at N3
    rw [hwz] at N3 hfo'
    obtain ⟨dt, er⟩ := nm1 N3
    subst er
    obtain ⟨d1, q1⟩ := nmO N3
    obtain ⟨d2, q2⟩ := nmO (news_sub N3 (fun p hp => .tail _ hp))
    rw [← q1, ← q2] at N3
    have al1 := allLt_of' lD.2.2.2.2.2.2.2.2.2.2.2.2.2
    have al2 := allLt_of' ltn.2.2.2.2.2.2.2
    have ha1 := ha
    simp only [List.map_cons] at ha1
    have ha2 := Apart.ins (A := [pl, va, wr, wdx, vl, wl, ch, rl, fl, L + 1]) (B := [dt, tp]) (C := List.map (fun p : Addr × Obj => p.1) ext) ha1 (.cons (fun p hp => Nat.ne_of_lt (al1 p (List.mem_append.mpr (.inr hp)))) (.cons (fun p hp => Nat.ne_of_lt (al2 p (List.mem_append.mpr (.inr hp)))) .nil))
    unfold GPost
    (try dsimp only)
    refine' GEnd.intro ⟨vs ++ [⟨P, wd, kd, [33 + vs.length]⟩], vvs ++ [.ref dt], nvv + 1, wvv ++ [.ref tp], nwv + 1, o', kvs', (dt, d1) :: (tp, d2) :: ext, _, _, _, _, _⟩ F3 N3 ?gg1 ?gg2 ?gg3 ?gg4 ?gg5
    case gg1 => (dsimp only; ksw_less)
    case gg2 => ksw_less
    case gg3 => exact ha2
    case gg4 => exact ⟨ag_nil, by ksw_same⟩
    refine ⟨by rw [List.length_append, List.length_singleton, hlen], ?_, ?_, hdo', by rw [nsOf_snoc]; exact hfo', fun x hx => (List.mem_append.mp hx).elim (hrd x) (fun h => by rw [List.mem_singleton.mp h]; exact ⟨hvr, ew, hw, hp, hq⟩), named_snoc hnm rfl, fun p hp => ?_, by assumption, by assumption⟩
    · exact VarsAre.snoc (r := ⟨P, wd, kd, [33 + vs.length]⟩) (hvv.mono (fun p hp => .tail _ (.tail _ hp))) (by rw [q1]; exact .head _)
    · exact VarsAre.snoc (r := ⟨P, wd, kd, [33 + vs.length]⟩) (hwv.mono (fun p hp => .tail _ (.tail _ hp))) (by rw [q2]; exact .tail _ (.head _))
    · rcases List.mem_cons.mp hp with rfl | hp
      · exact lD.2.2.2.2.2.2.2.2.2.1
      · rcases List.mem_cons.mp hp with rfl | hp
        · exact ltn.2.2.2.1
        · exact hlt p hp
  · intro c u h tk hJ F2 N2
    (repeat ((with_reducible show ∀ _, Nn.Cut _ _ → _); intro _ _))
    (try dsimp only)
    k_steps
    rename Fr _ _ _ _ => F3
    exact k wr wdx vl wl ch va k1 k2 k3 k4 k5 v1 v5 nn c _ _ _ (by have := hr5.lo; omega) hnn5 hJ ⟨by omega, lw2, lw3, lw4, lw5, by omega, hsy⟩ (has_fr F3 (ag_cons rfl (ag_cons rfl (ag_cons rfl (ag_cons rfl (ag_cons rfl ag_nil)))))) N2
end Nn
end
-- NnComp
section
open PySem PySem.W PySem.Spec PySem.Calls PyProof.Rows PyProof.V
set_option maxRecDepth 100000
section
local macro_rules | `(tactic| omega) => `(tactic| k_extra "oNnComp")
theorem Nn.oNnComp : True := by
  (k_with "oNnComp" => with_reducible (k_whole; first | k_extra "omega!" | ((show (_ : Nat) < _); first | exact Nn.q149 (by assumption) | fail) | ((show (_ : Nat) = _); first | exact Nn.q150 (by assumption) | fail) | fail))
  trivial
namespace Nn
/-! ## Comprehensions with an invariant -/
section
variable {prog : Program} {w : World} {A : Around} {s : Shared} {h₀ : Heap} {L : Addr} {m : Str → Option Value} {env : Env}
open LCg LCt
theorem compEnd_mono {s₁ : Shared} {I C D : Addr} {oI oC oD : Obj} {S : List (Addr × Obj) → Prop} {r1 r2 : Value → List (Addr × Obj) → Prop} {y : Value} {s₂ : Shared} (h : CompEnd h₀ L m s₁ I oI C oC D oD S r1 y s₂) (k : ∀ n, r1 y n → r2 y n) :
    CompEnd h₀ L m s₁ I oI C oC D oD S r2 y s₂ := by
  obtain ⟨h', tk, news', e, F, N, off, hS, r⟩ := h
  exact ⟨h', tk, news', e, F, N, off, hS, k _ r⟩
theorem comp_inv {elt : Expr} {x : Str} {scope : Scope} {cl : List (Str × Addr)} {S : List (Addr × Obj) → Prop} {P : Nat → Value → Prop} {Fin : List Value → List (Addr × Obj) → Prop} (n : Nat) (J : Nat → List Value → List (Addr × Obj) → Prop)
    (turn : ∀ i ys news, i < n → J i ys news → ∀ v I oI C oC D m₂ h tk (E' : Value → Shared → Prop), P i v → NsObj oC m₂ → m₂ x = some v → Fr h₀ L h m → News h₀ L h ((I, oI) :: (C, oC) :: (D, lst ys) :: news) → Off3 I C D news → ((@Ne Nat I C) ∧ (@Ne Nat I D) ∧ (@Ne Nat C D)) →
      wpAny (model prog w) A (eval elt (compEnvC scope cl C env)) (CompEnd h₀ L m { s with heap := h, toks := tk } I oI C oC D (lst ys) S (fun y news' => J (i + 1) (ys ++ [y]) news')) E' { s with heap := h, toks := tk })
    (fin : ∀ ys news, J n ys news → Fin ys news) : ∀ (k i : Nat), i + k = n → ∀ ys news, J i ys news → CompRest prog w A h₀ L m env elt x scope cl s S P Fin k i ys news
  | 0, i, hk, ys, news, hJ => fin ys news (by rw [← hk]; exact hJ)
  | k + 1, i, hk, ys, news, hJ => CompRest.succ fun v I oI C oC D m₂ h tk E' hP hC hx F N off ne =>
    wpAny_mono (turn i ys news (by omega) hJ v I oI C oC D m₂ h tk E' hP hC hx F N off ne) (fun y s₂ h2 => compEnd_mono h2 fun n2 hJ2 => comp_inv n J turn fin k (i + 1) (by omega) _ _ hJ2) fun _ _ e => e
theorem comp_invT {ct elt : Expr} {x : Str} {scope : Scope} {cl : List (Str × Addr)} {S : List (Addr × Obj) → Prop} {P : Nat → Value → Prop} {Fin : List Value → List (Addr × Obj) → Prop} (n : Nat) (J : Nat → List (Addr × Obj) → Prop)
    (turn : ∀ i news, i < n → J i news → ∀ v I oI C oC D m₂ h tk (E' : Value → Shared → Prop), P i v → NsObj oC m₂ → m₂ x = some v → Fr h₀ L h m → News h₀ L h ((I, oI) :: (C, oC) :: (D, lst []) :: news) → Off3 I C D news → ((@Ne Nat I C) ∧ (@Ne Nat I D) ∧ (@Ne Nat C D)) →
      wpAny (model prog w) A (isTrue ct (compEnvC scope cl C env) (eval ct (compEnvC scope cl C env))) (fun ok s' => ok = false ∧ CompEnd h₀ L m { s with heap := h, toks := tk } I oI C oC D (lst []) S (fun _ news' => J (i + 1) news') Value.none s') E' { s with heap := h, toks := tk })
    (fin : ∀ news, J n news → Fin [] news) : ∀ (k i : Nat), i + k = n → ∀ news, J i news → CompRestT prog w A h₀ L m env ct elt x scope cl s S P Fin k i [] news
  | 0, i, hk, news, hJ => fin news (by rw [← hk]; exact hJ)
  | k + 1, i, hk, news, hJ => CompRestT.succ fun v I oI C oC D m₂ h tk E' hP hC hx F N off ne =>
    wpAny_mono (turn i news (by omega) hJ v I oI C oC D m₂ h tk E' hP hC hx F N off ne) (fun ok s₂ h2 => by
      obtain ⟨rfl, h2⟩ := h2
      rw [if_neg (by decide)]
      exact compEnd_mono h2 fun n2 hJ2 => comp_invT n J turn fin k (i + 1) (by omega) _ hJ2) fun _ _ e => e
end
end Nn
end
end
-- NnLaw3
section
open PySem PySem.W PySem.Spec PySem.Calls PyProof.Rows PyProof.V
set_option maxRecDepth 100000
section
local macro_rules | `(tactic| omega) => `(tactic| k_extra "oNnLaw3")
theorem Nn.oNnLaw3 : True := by
  (k_with "oNnLaw3" => with_reducible (k_whole; first | k_extra "omega!" | ((show (_ : Nat) < _); first | exact Nn.q130 (by assumption) (by assumption) (by assumption) | fail) | ((show (_ : Nat) ≤ _); first | exact Nn.q33 (by assumption) | fail) | ((show (_ : Nat) = _); first | exact Nn.q129 | fail) | ((show False); first | exact Nn.q131 (by assumption) (by assumption) (by assumption) (by assumption) | fail) | fail))
  trivial
namespace Nn
section
variable {prog : Program} {w : World} {A : Around} {E : Value → Shared → Prop} {s : Shared} {h₀ : Heap} {L : Addr} {m : Str → Option Value} {led : List (Addr × Obj)} {Q : Value → Shared → Prop} {l n : Nat} {vs : List Value} {u : Tok} {value slice : Expr} {a : List (List Nat)}
/-- the first k items of a written list, as a new list -/
theorem slice_upto_m {k : Int} {hp : Heap} {gg : Array GenState} {dd : Drawn} {tt : Nat} {oo : OsState} (F : Fr h₀ L hp m) (N : News h₀ L hp led) (hm : (l, listOf vs.toArray n) ∈ led) (ht : TxtsAre vs a) (hz : a.length ≤ 1000000) (h0 : 0 ≤ k)
    (h : ∀ (d : Nat) ws h', Fr h₀ L h' m → News h₀ L h' ((d, listOf ws.toArray 0) :: led) → TxtsAre ws (a.take k.toNat) → (∀ p ∈ led, p.1 < d) → Q (.ref d) ⟨h', gg, dd, tt, oo⟩)
    (hs : subscripted slice false (.ref l) (.ref hp.objs.size) = operate [.ref hp.objs.size, .ref l] (getItem (.ref l) (.ref hp.objs.size)))
    (hg : ∀ r, letTemporaryGo value (.ref l) r = pure ()) :
    wpAny (model prog w) A (subscriptTail value slice (.ref l) (.ref hp.objs.size)) Q E ⟨hp.push { cls := .type "slice", data := .fields #[.none, .int k u, .none] }, gg, dd, tt, oo⟩ := by
  refine slice_list (s := ⟨hp, gg, dd, tt, oo⟩) F N (N.isList hm) .none (.int k u) (fun h' F' N' => h _ (vs.take k.toNat) h' F' ?_ (ht.take _) fun p hp => Nat.lt_succ_of_lt (Heap.lt_size (N p hp).1)) hs hg (by rw [sizeLine_eq, List.size_toArray, ht.len]; omega)
  have e : slicePick vs.toArray none (some k) none = (vs.take k.toNat).toArray := by
    obtain ⟨j, rfl⟩ := Int.eq_ofNat_of_zero_le h0
    rw [slicePick_upto' vs.toArray j, Int.toNat_natCast]
  rw [e] at N'
  exact N'
theorem in_txtsL {x : List Nat} {t : Tok} (N : News h₀ L s.heap led) (hm : (l, listOf vs.toArray n) ∈ led) (ht : TxtsAre vs a) (hx : x ∉ a) (h : Q (.bool false) s) : wpAny (model prog w) A (compareOp .In (.str (mk x) t) (.ref l)) Q E s := by
  refine in_list_strs (N.isList hm) ht ?_
  have e : (a.map mk).any (· == mk x) = false := by
    rw [List.any_eq_false]
    intro y hy
    obtain ⟨z, hz, rfl⟩ := List.mem_map.mp hy
    rw [beq_iff_eq]
    intro e
    exact hx (mk_inj e ▸ hz)
  rw [e]; exact h
end
theorem named_fresh {nms : List (List Nat)} (h : ∀ (i : Nat) x, nms[i]? = some x → x = [33 + i]) {i : Nat} (hi : i < nms.length) : nms.getD (0 + (i : Int)).toNat [] ∉ nms.take (0 + (i : Int)).toNat := by
  have e : (0 + (i : Int)).toNat = i := by omega
  rw [e]
  have hx : nms.getD i [] = [33 + i] := h i _ (by rw [List.getD_eq_getElem?_getD, List.getElem?_eq_getElem hi]; rfl)
  rw [hx]
  intro hm
  obtain ⟨j, hj, e2⟩ := List.getElem_of_mem hm
  rw [List.length_take] at hj
  have := h j [33 + i] (by rw [← e2, List.getElem_take, List.getElem?_eq_getElem (by omega)])
  have := List.cons.inj this
  omega
end Nn
end
end
-- P33
theorem Nn.wP33 : True := by
  (k_with "exec Assign cons ListComp!" => (k_here; refine wpAny_Assign_Name ?_))
  (k_with "CompSrc!" => (refine Nn.halt ?_))
  (k_with "CompSrcT!" => (refine Nn.halt ?_))
  (k_with "eval ListComp!" => (k_here; refine Nn.halt ?_))
  trivial
section
local macro_rules | `(tactic| omega) => `(tactic| k_extra "oP33")
theorem Nn.oP33 : True := by
  (k_with "oP33" => with_reducible (k_whole; first | k_extra "omega!" | ((show (_ : Nat) < _); first | exact Nn.q464 (by assumption) (by assumption) | exact Nn.q470 (by assumption) (by assumption) (by assumption) (by assumption) | fail) | ((show (_ : Nat) ≤ _); first | exact Nn.q460 (by assumption) (by assumption) (by assumption) (by assumption) (by assumption) | exact Nn.q462 (by assumption) (by assumption) (by assumption) (by assumption) (by assumption) | exact Nn.q471 (by assumption) (by assumption) (by assumption) (by assumption) (by assumption) (by assumption) (by assumption) (by assumption) (by assumption) | fail) | ((show (_ : Nat) ≠ _); first | exact Nn.q458 (by assumption) (by assumption) (by assumption) (by assumption) (by assumption) (by assumption) | exact Nn.q459 (by assumption) (by assumption) (by assumption) (by assumption) (by assumption) (by assumption) (by assumption) (by assumption) | exact Nn.q465 (by assumption) (by assumption) (by assumption) (by assumption) (by assumption) (by assumption) (by assumption) | exact Nn.q467 (by assumption) (by assumption) (by assumption) (by assumption) (by assumption) | exact Nn.q468 (by assumption) (by assumption) (by assumption) (by assumption) (by assumption) (by assumption) (by assumption) (by assumption) (by assumption) | exact Nn.q472 (by assumption) (by assumption) (by assumption) (by assumption) | fail) | ((show (_ : Int) < _); first | exact Nn.q469 (by assumption) (by assumption) (by assumption) (by assumption) | fail) | ((show (_ : Int) ≤ _); first | exact Nn.q463 | fail) | ((show (_ : Int) = _); first | exact Nn.q461 (by assumption) (by assumption) (by assumption) (by assumption) (by assumption) | fail) | ((show _ ∧ _); first | exact Nn.q466 (by assumption) (by assumption) (by assumption) (by assumption) | fail) | fail))
  trivial
namespace Nn
theorem off1_mem {D : Addr} : ∀ {l : List (Addr × Obj)}, LCg.Off1 D l → ∀ p ∈ l, p.1 ≠ D
  | [], _, _, h => nomatch h
  | _ :: _, x, p, h => by
    rcases List.mem_cons.mp h with rfl | h
    · exact x.1
    · exact off1_mem x.2 p h
theorem law_p3 {w : World} {mean : ExcName → Option Value} {mg mb : Str → Option Value} {dp un : Nat} {gd : Option (List Code)} {A₀ : Around} {h₀ : Heap} {L fa : Addr} {ccd : Value} {s : Shared} {Q E : Value → Shared → Prop} {co : Obj} {pl fl rl np nf nr : Nat} {fvs rvs : List Value} {fs : List Int} {ts : Tok} {sc : List Nat} {wr wdx vl wl ch va : Nat} {k1 k2 k3 k4 k5 v1 v5 : Tok} {n : Nat} {c : DV} {u : Str → Option Value}
    (B : Below A₀ h₀ [] h₀) (X : (K w.params).In h₀) (T : Top q looseN mean mg mb h₀) (XC : CellsAre (fun _ => none) [(Str.ofString "known", L + 1)] [(L + 1, co)]) (hd : dp + 200 < recursionLimit) (hu : un + 3000 < cLine)
    (hn1 : 1 ≤ n) (hn5 : n ≤ 5) (hJ : DVOk PySem.Challenge.rw_nn0316_01.prog w fs va n c) (W : WAt rl wdx wr vl wl ch va) (l1 : @LT.lt Nat _ (L + 1) fl) (l2 : @LT.lt Nat _ fl pl) (l3 : @LT.lt Nat _ pl rl)
    (F : Fr h₀ L s.heap (kstB u [(Str.ofString "pool", .ref pl), (Str.ofString "roads", .ref rl), (Str.ofString "scale", .str (mk sc) ts), (Str.ofString "writer", .ref wr), (Str.ofString "variables", .ref va)]))
    (N : News h₀ L s.heap ((pl, listOf #[.ref fl, .int c.ix c.pt1, .int c.mx c.pt2] c.np) :: (va, listOf c.vvs.toArray c.nvv) :: (wr, instObj 162 wdx) :: (wdx, dictOf [kE w "scale" k1 (.str (mk sc) v1), kE w "variables" k2 (.ref vl), kE w "widths" k3 (.ref wl), kE w "changes" k4 (.ref ch), kE w "now" k5 (.int (-1) v5)] 5) :: (vl, listOf c.wvv.toArray c.nwv) :: (wl, c.o) :: (ch, listOf #[] 0) :: (rl, listOf rvs.toArray nr) :: (fl, listOf fvs.toArray nf) :: (L + 1, co) :: c.ext))
    (k : ∀ (u : Str → Option Value) (h' : Heap) (tk' : Nat), Fr h₀ L h' (kstB u [(Str.ofString "pool", .ref pl), (Str.ofString "scale", .str (mk sc) ts), (Str.ofString "writer", .ref wr), (Str.ofString "variables", .ref va)]) →
      News h₀ L h' ((pl, listOf #[.ref fl, .int c.ix c.pt1, .int c.mx c.pt2] c.np) :: (va, listOf c.vvs.toArray c.nvv) :: (wr, instObj 162 wdx) :: (wdx, dictOf [kE w "scale" k1 (.str (mk sc) v1), kE w "variables" k2 (.ref vl), kE w "widths" k3 (.ref wl), kE w "changes" k4 (.ref ch), kE w "now" k5 (.int (-1) v5)] 5) :: (vl, listOf c.wvv.toArray c.nwv) :: (wl, c.o) :: (ch, listOf #[] 0) :: (fl, listOf fvs.toArray nf) :: c.ext) → wpAny (model PySem.Challenge.rw_nn0316_01.prog w) (ktrTop dp un gd dR.name dR.scope L fa ccd [(Str.ofString "known", L + 1)] []) (execs (restN 8) (envX dR.name dR.scope L fa ccd [(Str.ofString "known", L + 1)])) (fun f s' => Q (match f with | .ret v => v | _ => .none) s') (fun e s' => wpAny (model PySem.Challenge.rw_nn0316_01.prog w) (ktrTop dp un gd dR.name dR.scope L fa ccd [(Str.ofString "known", L + 1)] []) (leaving (envX dR.name dR.scope L fa ccd [(Str.ofString "known", L + 1)]) e) (fun _ s'' => E e s'') (fun e' s'' => E e' s'') s') { s with heap := h', toks := tk' }) :
    wpAny (model PySem.Challenge.rw_nn0316_01.prog w) (ktrTop dp un gd dR.name dR.scope L fa ccd [(Str.ofString "known", L + 1)] []) (execs (restN 6) (envX dR.name dR.scope L fa ccd [(Str.ofString "known", L + 1)])) (fun f s' => Q (match f with | .ret v => v | _ => .none) s') (fun e s' => wpAny (model PySem.Challenge.rw_nn0316_01.prog w) (ktrTop dp un gd dR.name dR.scope L fa ccd [(Str.ofString "known", L + 1)] []) (leaving (envX dR.name dR.scope L fa ccd [(Str.ofString "known", L + 1)]) e) (fun _ s'' => E e s'') (fun e' s'' => E e' s'') s') s := by
  have hG : EvG w (envX dR.name dR.scope L fa ccd [(Str.ofString "known", L + 1)]) L h₀ := EvG.of (by with_unfolding_all rfl) X (topRead_of T)
  obtain ⟨hlen, hvv, hwv, hdo, hfo, hrd, hnm, hlt, hix, hmx⟩ := hJ
  rw [rest_lit (k := 6) (j := 2) (l := [_, _]) rfl]
  refine execs_app ?_
  k_steps
  refine go ?_
  refine LCg.ListComp_U (F₀ := by k_asm) (by with_unfolding_all rfl) (by decide) (by rfl) (by decide) (by rfl) ?_
  k_steps
  have hvz : c.vvs.length = n := by rw [hvv.1]; exact hlen
  refine go (LCg.CompSrc.ledger (by rfl) F N (by k_mem) (by rw [List.size_toArray, hvz]; exact Nat.le_trans hn5 (by decide)) fun g => ?_)
  refine comp_inv c.vvs.toArray.size (fun i ys nws => nws = ((pl, listOf #[.ref fl, .int c.ix c.pt1, .int c.mx c.pt2] c.np) :: (va, listOf c.vvs.toArray c.nvv) :: (wr, instObj 162 wdx) :: (wdx, dictOf [kE w "scale" k1 (.str (mk sc) v1), kE w "variables" k2 (.ref vl), kE w "widths" k3 (.ref wl), kE w "changes" k4 (.ref ch), kE w "now" k5 (.int (-1) v5)] 5) :: (vl, listOf c.wvv.toArray c.nwv) :: (wl, c.o) :: (ch, listOf #[] 0) :: (rl, listOf rvs.toArray nr) :: (fl, listOf fvs.toArray nf) :: (L + 1, co) :: c.ext) ∧ TxtsAre ys ((c.vs.map VR.nm).take i)) ?_ ?_ _ 0 (by rw [Nat.zero_add]) _ _ ⟨rfl, TxtsAre.none⟩
  · rintro i ys nws hi ⟨hnw, hy⟩ v I oI C oC D m₂ h tk E' hP hC hx F2 N2 off ne
    have hP2 : c.vvs[i]? = some v := by rw [← hP]; simp
    obtain ⟨a, r, t1, t2, t3, t4, hr, rfl, hm⟩ := hvv.2 i v hP2
    have hm' : (a, tupO [.str (mk r.path) t1, .int r.wd t2, .str (mk r.kd) t3, .str (mk r.nm) t4]) ∈ nws := by rw [hnw]; exact .tail _ (.tail _ (.tail _ (.tail _ (.tail _ (.tail _ (.tail _ (.tail _ (.tail _ (.tail _ hm)))))))))
    have hsr : LCg.SrcAt h₀ va c.vvs.toArray nws := .inr ⟨_, (by rw [hnw]; exact .tail _ (.head _)), rfl, _, rfl⟩
    clear k hdo hfo hix hmx hlt hnm hrd hwv hn1 hn5 hlen F N hvv hvz hi hP hP2 hm l1 l2 l3 W
    rw [← hnw]
    clear hnw
    k_steps
    exact ⟨h, _, nws, rfl, F2, N2, off, hsr, rfl, by rw [List.take_add_one, List.getElem?_map, hr]; exact TxtsAre.snoc hy⟩
  · rintro ys nws ⟨rfl, hy⟩ D h tk F2 N2 off
    have hy2 : TxtsAre ys (c.vs.map VR.nm) := by
      rw [show c.vvs.toArray.size = (c.vs.map VR.nm).length from by rw [List.size_toArray, List.length_map]; exact hvv.1, List.take_length] at hy
      exact hy
    clear F N hy hvv hix hmx hdo hfo
    obtain ⟨co', hco, hcd⟩ := XC.one
    have hco : (L + 1, co) = (L + 1, co') := List.cons.inj hco |>.1
    obtain rfl : co = co' := (Prod.mk.inj hco).2
    have oD : D ≠ L + 1 := Ne.symm ((off1_mem off) _ (.tail _ (.tail _ (.tail _ (.tail _ (.tail _ (.tail _ (.tail _ (.tail _ (.tail _ (.head _)))))))))))
    obtain ⟨hw1, hw2, hw3, hw4, hw5, hw6, -⟩ := W
    have x0 : ∀ p ∈ c.ext, p.1 ≠ L + 1 := off_gt hlt (by omega)
    replace N2 : News h₀ L h ((L + 1, co) :: (D, LCg.lst ys) :: (pl, listOf #[.ref fl, .int c.ix c.pt1, .int c.mx c.pt2] c.np) :: (va, listOf c.vvs.toArray c.nvv) :: (wr, instObj 162 wdx) :: (wdx, dictOf [kE w "scale" k1 (.str (mk sc) v1), kE w "variables" k2 (.ref vl), kE w "widths" k3 (.ref wl), kE w "changes" k4 (.ref ch), kE w "now" k5 (.int (-1) v5)] 5) :: (vl, listOf c.wvv.toArray c.nwv) :: (wl, c.o) :: (ch, listOf #[] 0) :: (fl, listOf fvs.toArray nf) :: c.ext) := news_sub N2 (by ksw_less)
    refine storeX_C F2 N2 rfl (.head ?_) hcd ?_
    · refine off_cons (Ne.symm oD.symm) ?_
      krn_off
    intro h3 o3 F3 N3 ho3
    obtain ⟨rest, hrest⟩ : ∃ r, r = (pl, listOf #[.ref fl, .int c.ix c.pt1, .int c.mx c.pt2] c.np) :: (va, listOf c.vvs.toArray c.nvv) :: (wr, instObj 162 wdx) :: (wdx, dictOf [kE w "scale" k1 (.str (mk sc) v1), kE w "variables" k2 (.ref vl), kE w "widths" k3 (.ref wl), kE w "changes" k4 (.ref ch), kE w "now" k5 (.int (-1) v5)] 5) :: (vl, listOf c.wvv.toArray c.nwv) :: (wl, c.o) :: (ch, listOf #[] 0) :: (fl, listOf fvs.toArray nf) :: c.ext := ⟨_, rfl⟩
    rw [← hrest] at N3 k
    have hyz : ys.length = n := by rw [hy2.len, List.length_map]; exact hlen
    have hnn : ∀ i x, (c.vs.map VR.nm)[i]? = some x → x = [33 + i] := fun i x e => by
      rw [List.getElem?_map] at e
      obtain ⟨r, hr, rfl⟩ := Option.map_eq_some_iff.mp e
      exact hnm i r hr
    have hml : (c.vs.map VR.nm).length = n := by rw [List.length_map]; exact hlen
    generalize c.vs.map VR.nm = nms at *
    clear hrest N2 F2 off hlt hw1 hw2 hw3 hw4 hw5 hw6 x0 hcd hco oD hrd hnm hwv hlen XC l1 l2 l3
    k_steps
    refine go ?_
    refine LCt.ListComp_T (F₀ := F3) (by with_unfolding_all rfl) (by decide) (by rfl) (by decide) (by rfl) ?_
    k_steps
    rename Fr _ _ _ _ => F4
    rename News _ _ _ _ => N4
    rename IsRange _ _ _ _ _ _ _ _ => rg
    rw [hml] at rg
    refine go ?_
    refine (LCt.CompSrcT.range (n := n) (by rfl) F4 N4 rg ?_ ?_ (Nat.le_trans hn5 (by decide)) fun g => ?_)
    · exact small_one (by omega) (by omega) (by omega) (by omega)
    · rw [rangeSize_nat]; omega
    refine comp_invT n (fun i nws => nws = (L + 1, o3) :: (D, LCg.lst ys) :: rest) ?_ ?_ _ 0 (by rw [Nat.zero_add]) _ rfl
    · rintro i nws hi hnw v I oI C oC D2 m₂ h tk E' ⟨tv, rfl⟩ hC hx F2 N2 off ne
      subst hnw
      clear k F4 N4 rg
      have hki : 0 ≤ 0 + (i : Int) ∧ 0 + (i : Int) < nms.length := by omega
      k_steps
      refine slice_upto_m F2 N2 (by k_mem) hy2 (by omega) hki.1 ?_ (by with_unfolding_all rfl) (by intro _; with_unfolding_all rfl)
      intro d ws h5 F5 N5 hw5 _
      refine in_txtsL N5 (.head _) hw5 (named_fresh hnn (by omega)) ?_
      clear F2 N2
      k_steps
      exact ⟨h5, _, _, rfl, F5, fun p hp => N5 p (.tail _ hp), off, trivial, rfl⟩
    · intro nws hnw D2 h tk F2 N2 off
      subst hnw
      clear F4 N4 rg
      k_steps
      rename Fr _ _ _ _ => F6
      rename News _ _ _ _ => N6
      exact k _ _ _ (has_fr F6 (ag_cons rfl (ag_cons rfl (ag_cons rfl (ag_cons rfl ag_nil))))) (fun p hp => N6 p (.tail _ (.tail _ (.tail _ (.tail _ hp)))))
end Nn
end
-- NnLaw4
section
open PySem PySem.W PySem.Spec PySem.Calls PyProof.Rows PyProof.V
set_option maxRecDepth 100000
section
local macro_rules | `(tactic| omega) => `(tactic| k_extra "oNnLaw4")
theorem Nn.oNnLaw4 : True := by
  (k_with "oNnLaw4" => with_reducible (k_whole; first | k_extra "omega!" | ((show (_ : Nat) < _); first | exact Nn.q133 (by assumption) (by assumption) | fail) | ((show (_ : Nat) ≤ _); first | exact Nn.q33 (by assumption) | fail) | ((show (_ : Nat) ≠ _); first | exact Nn.q135 (by assumption) | fail) | ((show (_ : Nat) = _); first | exact Nn.q134 (by assumption) (by assumption) | fail) | ((show (_ : Int) ≤ _); first | exact Nn.q136 (by assumption) (by assumption) | fail) | ((show _ ∧ _); first | exact Nn.q132 (by assumption) | fail) | fail))
  trivial
namespace Nn
noncomputable def stepsL : List Int := [0, 1, 7, 10 ^ 12]
theorem step_ok {x : Int} (h : x ∈ stepsL) : 0 ≤ x ∧ x ≤ 10 ^ 12 := by
  unfold stepsL at h
  simp only [List.mem_cons, List.not_mem_nil, or_false] at h
  omega
theorem named_known : ∀ {vs : List VR}, Named vs → ∀ {j : Nat} {r : VR}, vs[j]? = some r → wOf (nsOf vs) r.nm = some r.wd := by
  intro vs h j r hr
  unfold wOf
  have hj : j < vs.length := by
    rcases Nat.lt_or_ge j vs.length with h | h
    · exact h
    · rw [List.getElem?_eq_none h] at hr; cases hr
  have e : (nsOf vs).find? (fun x => decide (x.1 = r.nm)) = some (r.nm, r.wd) := by
    rw [List.find?_eq_some_iff_getElem]
    refine ⟨by simp, j, by unfold nsOf; rw [List.length_map]; exact hj, ?_, fun i hi => ?_⟩
    · unfold nsOf
      rw [List.getElem_map]
      rw [List.getElem?_eq_getElem hj] at hr
      rw [Option.some.inj hr]
    · unfold nsOf
      rw [List.getElem_map]
      have hi2 : i < vs.length := by omega
      have h1 := h i vs[i] (List.getElem?_eq_getElem hi2)
      have h2 := h j r hr
      dsimp only
      rw [h1, h2, Bool.not_eq_true', decide_eq_false_iff_not]
      intro e
      have := (List.cons.inj e).1
      omega
  rw [e]; rfl
theorem srt_snoc : ∀ {cs : List CR} {t : Int} {c : CR}, srt t cs → t ≤ c.tm → (∀ x ∈ cs, x.tm ≤ c.tm) → srt t (cs ++ [c])
  | [], _, _, _, h, _ => ⟨h, trivial⟩
  | x :: cs, _, _, hs, _, h => ⟨hs.1, srt_snoc hs.2 (h x (.head _)) fun y hy => h y (.tail _ hy)⟩
end Nn
namespace Nn
theorem loadX_L {M : Model} {A : Around} {E : Value → Shared → Prop} {s : Shared} {h₀ : Heap} {L a : Addr} {m : Str → Option Value} {cn : Str} {cs : Scope} {ccd : Value} {cl : List (Str × Addr)} {x : Str} {v : Value} {Q : Value → Shared → Prop}
    (F : Fr h₀ L s.heap m) (hv : m x = some v) (h : Q v s)
    (hk : cs.kind = .function := by rfl) (hx : (envX cn cs L a ccd cl).kindOf x = some .local := by rfl) :
    wpAny M A (loadName (envX cn cs L a ccd cl) x) Q E s := wpAny_loadName_local hk hx F.ns hv h
end Nn
namespace Nn
theorem nwDrop2 {h₀ h : Heap} {L : Addr} {a b : Addr × Obj} {r : List (Addr × Obj)} (N : News h₀ L h (a :: b :: r)) : News h₀ L h (a :: r) := fun p hp => by
  rcases List.mem_cons.mp hp with rfl | hp
  · exact N _ (.head _)
  · exact N _ (.tail _ (.tail _ hp))
theorem nwDrop3 {h₀ h : Heap} {L : Addr} {a b c : Addr × Obj} {r : List (Addr × Obj)} (N : News h₀ L h (a :: b :: c :: r)) : News h₀ L h (a :: b :: r) := fun p hp => by
  rcases List.mem_cons.mp hp with rfl | hp
  · exact N _ (.head _)
  · rcases List.mem_cons.mp hp with rfl | hp
    · exact N _ (.tail _ (.head _))
    · exact N _ (.tail _ (.tail _ (.tail _ hp)))
end Nn
namespace Nn
theorem append_hd {prog : Program} {w : World} {A : Around} {E : Value → Shared → Prop} {s : Shared} {h₀ : Heap} {L : Addr} {m : Str → Option Value} {l n : Nat} {vs : List Value} {x : Value} {rest : List (Addr × Obj)} {Q : Value → Shared → Prop}
    (F : Fr h₀ L s.heap m) (N : News h₀ L s.heap ((l, listOf vs.toArray n) :: rest)) (ho : ∀ p ∈ rest, p.1 ≠ l) (hz : vs.length ≤ 1000000)
    (h : ∀ h', Fr h₀ L h' m → News h₀ L h' ((l, listOf (vs ++ [x]).toArray (n + 1)) :: rest) → Q .none { s with heap := h' }) : wpAny (model prog w) A (call (.builtin "list.append") [.ref l, x]) Q E s := by
  refine append_K F N (.head ho) (fun h' F' N' => h h' F' ?_) (by rw [sizeLine_eq, List.size_toArray]; omega)
  rw [List.push_toArray] at N'
  exact N'
end Nn
namespace Nn
theorem last_any {prog : Program} {w : World} {A : Around} {E : Value → Shared → Prop} {s : Shared} {h₀ : Heap} {L : Addr} {led : List (Addr × Obj)} {l n : Nat} {vs : List Value} {x : Value} {u : Tok} {value slice : Expr} {Q : Value → Shared → Prop}
    (N : News h₀ L s.heap led) (hm : (l, listOf (vs ++ [x]).toArray n) ∈ led) (hz : vs.length ≤ 1000000) (h : Q x s)
    (hs : subscripted slice false (.ref l) (.int (-1) u) = operate [.ref l, .int (-1) u] (getItem (.ref l) (.int (-1) u)) := by with_unfolding_all rfl) (hg : ∀ r, letTemporaryGo value (.ref l) r = pure () := by intro _; with_unfolding_all rfl) :
    wpAny (model prog w) A (subscriptTail value slice (.ref l) (.int (-1) u)) Q E s := by
  have hsz : (vs ++ [x]).toArray.size = vs.length + 1 := by rw [List.size_toArray, List.length_append, List.length_singleton]
  refine subscriptTail_builtin (PyProof.Rows.News.isList N hm).typeIs slot_list_getitem.lookup (wpAny_getItem_list_neg (N.isList hm) (by decide) (by rw [hsz]; omega) (by decide) ?_ h) hs hg
  rw [hsz, show ((-1 : Int) + ((vs.length + 1 : Nat) : Int)).toNat = vs.length by omega]
  simp
end Nn
end
end
-- P34
theorem Nn.wP34 : True := by
  (k_with "loadName!" => (k_here; k_dflt (refine' Nn.loadX_L ?q17c95_F ?q17c95_v ?_; (case q17c95_F => k_asm); (case q17c95_v => rfl); k_whole)))
  (k_with "subscriptTail List cons Call ref int!" => (k_here; (with_reducible show wpAny _ _ (subscriptTail _ _ (Value.ref _) (Value.int _ _)) _ _ _); k_dflt (refine' Nn.item_intsL (a := Nn.stepsL) ?q291ae_N ?q291ae_m ?q291ae_t ?q291ae_h0 ?q291ae_h1 ?q291ae_z ?_ ?q291ae_hs; (case q291ae_N => k_asm); (case q291ae_m => k_mem); (case q291ae_t => (exact IntsAre.cons _ _ (IntsAre.cons _ _ (IntsAre.cons _ _ (IntsAre.cons _ _ IntsAre.nil))))); (case q291ae_h0 => exact Nn.Bd.lo (by assumption)); (case q291ae_h1 => exact Nn.Bd.hi (by assumption)); (case q291ae_z => decide); (case q291ae_hs => with_unfolding_all rfl)); intro _))
  (k_with "subscriptTail Name Constant ref int!" => (k_here; (with_reducible show wpAny _ _ (subscriptTail _ _ (Value.ref _) (Value.int _ _)) _ _ _); k_dflt (refine' item_tupleT ?qcfa7d_t ?qcfa7d_a ?qcfa7d_b ?qcfa7d_c ?qcfa7d_d ?_; (case qcfa7d_t => (refine' Nn.tup_at ?qcfa7d_tN ?qcfa7d_tm; (case qcfa7d_tN => k_asm); (case qcfa7d_tm => k_mem))); (case qcfa7d_a => decide); (case qcfa7d_b => decide); (case qcfa7d_c => exact rfl); (case qcfa7d_d => exact rfl); k_whole)))
  (k_with "subscriptTail Name Constant ref int!" => walk_at "subscriptTail")
  trivial
section
local macro_rules | `(tactic| omega) => `(tactic| k_extra "oP34")
theorem Nn.oP34 : True := by
  (k_with "oP34" => with_reducible (k_whole; first | k_extra "omega!" | ((show (_ : Nat) < _); first | exact Nn.q483 (by assumption) (by assumption) (by assumption) (by assumption) (by assumption) | exact Nn.q496 (by assumption) (by assumption) (by assumption) (by assumption) (by assumption) | fail) | ((show (_ : Nat) ≤ _); first | exact Nn.q475 (by assumption) (by assumption) | exact Nn.q476 (by assumption) (by assumption) (by assumption) (by assumption) | exact Nn.q477 (by assumption) (by assumption) | exact Nn.q480 (by assumption) | exact Nn.q482 (by assumption) (by assumption) (by assumption) (by assumption) | exact Nn.q487 (by assumption) (by assumption) (by assumption) | exact Nn.q489 (by assumption) (by assumption) | exact Nn.q490 (by assumption) (by assumption) (by assumption) (by assumption) | exact Nn.q491 (by assumption) | fail) | ((show (_ : Int) ≤ _); first | exact Nn.q474 (by assumption) (by assumption) (by assumption) | exact Nn.q478 (by assumption) | exact Nn.q479 (by assumption) (by assumption) (by assumption) (by assumption) (by assumption) | exact Nn.q484 (by assumption) | exact Nn.q486 (by assumption) (by assumption) (by assumption) (by assumption) (by assumption) | exact Nn.q488 (by assumption) | exact Nn.q493 (by assumption) (by assumption) (by assumption) (by assumption) (by assumption) | exact Nn.q494 (by assumption) | fail) | ((show (_ : Int) = _); first | exact Nn.q481 (by assumption) | fail) | ((show _ ∧ _); first | exact Nn.q485 (by assumption) (by assumption) (by assumption) (by assumption) (by assumption) | exact Nn.q492 (by assumption) (by assumption) (by assumption) (by assumption) | exact Nn.q495 (by assumption) | fail) | ((show False); first | exact Nn.q473 (by assumption) (by assumption) (by assumption) (by assumption) (by assumption) (by assumption) (by assumption) | fail) | fail))
  trivial
namespace Nn
theorem nmTokA {d : Obj} {x : Int} {t : Tok} {b c : Value} (_h : d = tupO [.int x t, b, c]) : ∃ t', t' = t := ⟨t, rfl⟩
structure CV where
  cs : List CR
  cvs : List Value
  ncv : Nat
  wcv : List Value
  nwc : Nat
  now : Int
  tw : Tok
  wnow : Int
  wt : Tok
  ext : List (Addr × Obj)
  ix : Int
  mx : Int
  pt1 : Tok
  pt2 : Tok
  np : Nat
structure CVOk (fs : List Int) (vs : List VR) (vvs wvv : List Value) (va ca : Nat) (i : Nat) (d : CV) : Prop where
  len : d.cs.length = i
  vv : VarsAre d.ext vvs vs
  wv : VarsAre d.ext wvv vs
  cv : ChsAre d.ext d.cvs d.cs
  wc : ChsAre d.ext d.wcv d.cs
  rd : ∀ c ∈ d.cs, CEnd (nsOf vs) c
  so : srt 0 d.cs
  la : ∀ c ∈ d.cs, c.tm ≤ d.now
  n0 : 0 ≤ d.now
  n1 : d.now ≤ i * 10 ^ 12
  wn : d.wnow = d.now ∨ d.now = 0
  wl : d.wnow ≤ d.now
  lt : ∀ p ∈ d.ext, @LT.lt Nat _ va p.1
  oc : ∀ p ∈ d.ext, p.1 ≠ ca
  hix : 0 ≤ d.ix ∧ d.ix ≤ (fs.length : Int)
  hmx : 0 ≤ d.mx ∧ d.mx < 1009
theorem law_p4 {w : World} {mean : ExcName → Option Value} {mg mb : Str → Option Value} {dp un : Nat} {gd : Option (List Code)} {A₀ : Around} {h₀ : Heap} {L fa : Addr} {ccd : Value} {s : Shared} {Q E : Value → Shared → Prop} {pl fl np nf rl : Nat} {fvs : List Value} {fs : List Int} {ts : Tok} {sc : List Nat} {wr wdx vl wl ch va : Nat} {k1 k2 k3 k4 k5 v1 v5 : Tok} {n : Nat} {c : DV} {u : Str → Option Value}
    (B : Below A₀ h₀ [] h₀) (X : (K w.params).In h₀) (T : Top q looseN mean mg mb h₀) (hd : dp + 200 < recursionLimit) (hu : un + 3000 < cLine)
    (hn1 : 1 ≤ n) (hn5 : n ≤ 5) (hJ : DVOk PySem.Challenge.rw_nn0316_01.prog w fs va n c) (W : WAt rl wdx wr vl wl ch va) (l2 : @LT.lt Nat _ fl pl) (l3 : @LT.lt Nat _ pl rl)
    (hfi : IntsAre fvs fs) (hfz : fs.length ≤ 500) (hfb : ∀ f ∈ fs, 0 ≤ f ∧ f < 840)
    (F : Fr h₀ L s.heap (kstB u [(Str.ofString "pool", .ref pl), (Str.ofString "scale", .str (mk sc) ts), (Str.ofString "writer", .ref wr), (Str.ofString "variables", .ref va)]))
    (N : News h₀ L s.heap ((pl, listOf #[.ref fl, .int c.ix c.pt1, .int c.mx c.pt2] c.np) :: (va, listOf c.vvs.toArray c.nvv) :: (wr, instObj 162 wdx) :: (wdx, dictOf [kE w "scale" k1 (.str (mk sc) v1), kE w "variables" k2 (.ref vl), kE w "widths" k3 (.ref wl), kE w "changes" k4 (.ref ch), kE w "now" k5 (.int (-1) v5)] 5) :: (vl, listOf c.wvv.toArray c.nwv) :: (wl, c.o) :: (ch, listOf #[] 0) :: (fl, listOf fvs.toArray nf) :: c.ext))
    (k : ∀ (ca : Nat) (i : Nat) (d : CV) (u : Str → Option Value) (h' : Heap) (tk' : Nat), i ≤ 12 → CVOk fs c.vs c.vvs c.wvv va ca i d → @LT.lt Nat _ va ca → Fr h₀ L h' (kstB u [(Str.ofString "pool", .ref pl), (Str.ofString "scale", .str (mk sc) ts), (Str.ofString "writer", .ref wr), (Str.ofString "variables", .ref va), (Str.ofString "changes", .ref ca), (Str.ofString "now", .int d.now d.tw)]) →
      News h₀ L h' ((pl, listOf #[.ref fl, .int d.ix d.pt1, .int d.mx d.pt2] d.np) :: (va, listOf c.vvs.toArray c.nvv) :: (wr, instObj 162 wdx) :: (wdx, dictOf [kE w "scale" k1 (.str (mk sc) v1), kE w "variables" k2 (.ref vl), kE w "widths" k3 (.ref wl), kE w "changes" k4 (.ref ch), kE w "now" k5 (.int d.wnow d.wt)] 5) :: (vl, listOf c.wvv.toArray c.nwv) :: (wl, c.o) :: (ch, listOf d.wcv.toArray d.nwc) :: (ca, listOf d.cvs.toArray d.ncv) :: (fl, listOf fvs.toArray nf) :: d.ext) → wpAny (model PySem.Challenge.rw_nn0316_01.prog w) (ktrTop dp un gd dR.name dR.scope L fa ccd [(Str.ofString "known", L + 1)] []) (execs (restN 11) (envX dR.name dR.scope L fa ccd [(Str.ofString "known", L + 1)])) (fun f s' => Q (match f with | .ret v => v | _ => .none) s') (fun e s' => wpAny (model PySem.Challenge.rw_nn0316_01.prog w) (ktrTop dp un gd dR.name dR.scope L fa ccd [(Str.ofString "known", L + 1)] []) (leaving (envX dR.name dR.scope L fa ccd [(Str.ofString "known", L + 1)]) e) (fun _ s'' => E e s'') (fun e' s'' => E e' s'') s') { s with heap := h', toks := tk' }) :
    wpAny (model PySem.Challenge.rw_nn0316_01.prog w) (ktrTop dp un gd dR.name dR.scope L fa ccd [(Str.ofString "known", L + 1)] []) (execs (restN 8) (envX dR.name dR.scope L fa ccd [(Str.ofString "known", L + 1)])) (fun f s' => Q (match f with | .ret v => v | _ => .none) s') (fun e s' => wpAny (model PySem.Challenge.rw_nn0316_01.prog w) (ktrTop dp un gd dR.name dR.scope L fa ccd [(Str.ofString "known", L + 1)] []) (leaving (envX dR.name dR.scope L fa ccd [(Str.ofString "known", L + 1)]) e) (fun _ s'' => E e s'') (fun e' s'' => E e' s'') s') s := by
  have hG : EvG w (envX dR.name dR.scope L fa ccd [(Str.ofString "known", L + 1)]) L h₀ := EvG.of (by with_unfolding_all rfl) X (topRead_of T)
  obtain ⟨hlen, hvv, hwv, hdo, hfo, hrd, hnm, hlt, hix, hmx⟩ := hJ
  have hdict := And.intro hdo hfo
  clear hdo hfo
  rw [rest_lit (k := 8) (j := 3) (l := [_, _, _]) rfl]
  refine execs_app ?_
  have W0 := W
  obtain ⟨hw1, hw2, hw3, hw4, hw5, hw6, hsy⟩ := W0
  have od0_2 : @LT.lt Nat _ (fl) rl := Nat.lt_trans l2 l3
  have od1_3 : @LT.lt Nat _ (pl) wdx := Nat.lt_trans l3 hw1
  have od2_4 : @LT.lt Nat _ (rl) wr := Nat.lt_trans hw1 hw2
  have od3_5 : @LT.lt Nat _ (wdx) vl := Nat.lt_trans hw2 hw3
  have od4_6 : @LT.lt Nat _ (wr) wl := Nat.lt_trans hw3 hw4
  have od5_7 : @LT.lt Nat _ (vl) ch := Nat.lt_trans hw4 hw5
  have od6_8 : @LT.lt Nat _ (wl) va := Nat.lt_trans hw5 hw6
  have od0_3 : @LT.lt Nat _ (fl) wdx := Nat.lt_trans od0_2 hw1
  have od1_4 : @LT.lt Nat _ (pl) wr := Nat.lt_trans od1_3 hw2
  have od2_5 : @LT.lt Nat _ (rl) vl := Nat.lt_trans od2_4 hw3
  have od3_6 : @LT.lt Nat _ (wdx) wl := Nat.lt_trans od3_5 hw4
  have od4_7 : @LT.lt Nat _ (wr) ch := Nat.lt_trans od4_6 hw5
  have od5_8 : @LT.lt Nat _ (vl) va := Nat.lt_trans od5_7 hw6
  have od0_4 : @LT.lt Nat _ (fl) wr := Nat.lt_trans od0_3 hw2
  have od1_5 : @LT.lt Nat _ (pl) vl := Nat.lt_trans od1_4 hw3
  have od2_6 : @LT.lt Nat _ (rl) wl := Nat.lt_trans od2_5 hw4
  have od3_7 : @LT.lt Nat _ (wdx) ch := Nat.lt_trans od3_6 hw5
  have od4_8 : @LT.lt Nat _ (wr) va := Nat.lt_trans od4_7 hw6
  have od0_5 : @LT.lt Nat _ (fl) vl := Nat.lt_trans od0_4 hw3
  have od1_6 : @LT.lt Nat _ (pl) wl := Nat.lt_trans od1_5 hw4
  have od2_7 : @LT.lt Nat _ (rl) ch := Nat.lt_trans od2_6 hw5
  have od3_8 : @LT.lt Nat _ (wdx) va := Nat.lt_trans od3_7 hw6
  have od0_6 : @LT.lt Nat _ (fl) wl := Nat.lt_trans od0_5 hw4
  have od1_7 : @LT.lt Nat _ (pl) ch := Nat.lt_trans od1_6 hw5
  have od2_8 : @LT.lt Nat _ (rl) va := Nat.lt_trans od2_7 hw6
  have od0_7 : @LT.lt Nat _ (fl) ch := Nat.lt_trans od0_6 hw5
  have od1_8 : @LT.lt Nat _ (pl) va := Nat.lt_trans od1_7 hw6
  have od0_8 : @LT.lt Nat _ (fl) va := Nat.lt_trans od0_7 hw6
  have x1 : ∀ p ∈ c.ext, p.1 ≠ pl := off_gt hlt (by omega)
  k_steps
  rename IsRange _ _ _ _ _ _ _ _ => rg
  rename Fr _ _ _ _ => F1
  rename News _ _ _ _ => N1
  rename Nn.Bd _ 13 => hr13
  obtain ⟨nn, hnn⟩ := Int.eq_ofNat_of_zero_le hr13.lo
  have hnn12 : nn ≤ 12 := by have := hr13.hi; omega
  rw [hnn] at rg
  rename (pl < _ ∧ va < _ ∧ _) => la
  obtain ⟨ca, er⟩ := nm1 (news_sub N1 (fun p hp => .tail _ hp))
  subst er
  have al := allLt_of' la.2.2.2.2.2.2.2.2
  have hvc : @LT.lt Nat _ va ca := la.2.1
  refine go (rangeK (σ := CV) (n := nn) (fun d => (pl, listOf #[.ref fl, .int d.ix d.pt1, .int d.mx d.pt2] d.np) :: (va, listOf c.vvs.toArray c.nvv) :: (wr, instObj 162 wdx) :: (wdx, dictOf [kE w "scale" k1 (.str (mk sc) v1), kE w "variables" k2 (.ref vl), kE w "widths" k3 (.ref wl), kE w "changes" k4 (.ref ch), kE w "now" k5 (.int d.wnow d.wt)] 5) :: (vl, listOf c.wvv.toArray c.nwv) :: (wl, c.o) :: (ch, listOf d.wcv.toArray d.nwc) :: (ca, listOf d.cvs.toArray d.ncv) :: (fl, listOf fvs.toArray nf) :: d.ext) (fun d => [(Str.ofString "now", .int d.now d.tw)]) [Str.ofString "row"]
    (CVOk fs c.vs c.vvs c.wvv va ca) ⟨[], [], 0, [], 0, 0, _, -1, v5, c.ext, _, _, _, _, _⟩ (by rfl) rg ?_ ?_ F1 (news_sub N1 (by ksw_less)) (ag_cons rfl ag_nil)
    ⟨rfl, hvv, hwv, ⟨rfl, fun i v e => by cases e⟩, ⟨rfl, fun i v e => by cases e⟩, (fun _ h => nomatch h), trivial, (fun _ h => nomatch h), Int.le_refl 0, Int.le_refl 0, .inr rfl, (show (-1 : Int) ≤ 0 by decide), hlt, fun p hp => Nat.ne_of_lt (al p hp), by assumption, by assumption⟩ ?_ ?_)
  · exact small_one (by omega) (by omega) (by omega) (by omega)
  · rw [rangeSize_nat]; omega
  · rintro j kk t ⟨cs, cvs, ncv, wcv, nwc, now, tw, wnow, wt, ext, ix, mx, pt1, pt2, np⟩ u h tk own hki hj hJ ha F2 N2
    (repeat ((with_reducible show ∀ _, Nn.Cut _ _ → _); intro _ _))
    clear k
    obtain ⟨hlen2, hvv2, hwv2, hcv, hwc, hcd, hso, hla, hn0, hnb, hwn, hwl, hlt2, hoc, hix2, hmx2⟩ := hJ
    clear F1 N1 rg
    dsimp (config := {zetaDelta := true}) only [envOf] at F2 N2 hlen2 hvv2 hwv2 hcv hwc hcd hso hla hn0 hnb hwn hwl hlt2 hoc hix2 hmx2
    simp only [List.cons_append] at N2
    have o1 : ∀ p ∈ own, p.1 ≠ pl := ha.ne (.head _)
    have o2 : ∀ p ∈ own, p.1 ≠ va := ha.ne (.tail _ (.head _))
    have o3 : ∀ p ∈ own, p.1 ≠ wdx := ha.ne (.tail _ (.tail _ (.tail _ (.head _))))
    have o4 : ∀ p ∈ own, p.1 ≠ vl := ha.ne (.tail _ (.tail _ (.tail _ (.tail _ (.head _)))))
    have o5 : ∀ p ∈ own, p.1 ≠ wl := ha.ne (.tail _ (.tail _ (.tail _ (.tail _ (.tail _ (.head _))))))
    have o6 : ∀ p ∈ own, p.1 ≠ ch := ha.ne (.tail _ (.tail _ (.tail _ (.tail _ (.tail _ (.tail _ (.head _)))))))
    have o7 : ∀ p ∈ own, p.1 ≠ ca := ha.ne (.tail _ (.tail _ (.tail _ (.tail _ (.tail _ (.tail _ (.tail _ (.head _))))))))
    have x2 : ∀ p ∈ ext, p.1 ≠ pl := off_gt hlt2 (by omega)
    have x3 : ∀ p ∈ ext, p.1 ≠ va := off_gt hlt2 (Nat.le_refl _)
    have x4 : ∀ p ∈ ext, p.1 ≠ wdx := off_gt hlt2 (by omega)
    have x5 : ∀ p ∈ ext, p.1 ≠ vl := off_gt hlt2 (by omega)
    have x6 : ∀ p ∈ ext, p.1 ≠ wl := off_gt hlt2 (by omega)
    have x7 : ∀ p ∈ ext, p.1 ≠ ch := off_gt hlt2 (by omega)
    have hvz : c.vvs.length = n := by rw [hvv.1]; exact hlen
    have hvn : c.vvs.length ≤ 5 := by omega
    have hvm : c.vs.length ≤ 5 := by omega
    have hj12 : j ≤ 11 := by omega
    have hc11 : cs.length ≤ 11 := by omega
    have hvq : c.vvs.length ≤ 1000000000 := by omega
    clear hvv hwv hlt
    repeat' (first | ((fail_if_success (with_reducible show wpAny _ _ False _ _ _)); (fail_if_success (with_reducible show wpAny _ _ (call (Value.ref 306) _) _ _ _)); (fail_if_success (with_reducible show wpAny _ _ (call (Value.ref 152) _) _ _ _)); (fail_if_success (with_reducible show wpAny _ _ (call (Value.builtin "len") _) _ _ _)); first | (k_unfold; (try dsimp only)) | (k_end; wrow_close) | walk1 | (dsimp only; walk1) | (leave1; try dsimp only) | ((with_reducible show ∀ _, Nn.Cut _ _ → _); intro _ _) | ((fail_if_success (with_reducible show wpAny _ _ _ _ _ _)); first | ((with_reducible refine Nn.Nx.use (by assumption) ?_); (try dsimp only)) | ((with_reducible refine Nn.Rx.ret (by assumption) ?_); (try dsimp only)) | ((with_reducible refine Nn.Rx.brk (by assumption) ?_); (try dsimp only)) | ((with_reducible refine Nn.Rx.cont (by assumption) ?_); (try dsimp only)) | ((with_reducible refine Nn.Cut.use (by assumption) ?_); (try dsimp only)))))
    rename News _ _ _ _ => N3
    replace N3 := nwDrop2 N3
    refine len_led N3 (.tail _ (.head _)) hvq ?_
    rw [hvz]
    (try dsimp only)
    repeat' (first | ((fail_if_success (with_reducible show wpAny _ _ (subscriptTail _ _ (Value.ref va) _) _ _ _)); (fail_if_success (with_reducible show wpAny _ _ (call (Value.ref 306) _) _ _ _)); (fail_if_success (with_reducible show wpAny _ _ (call (Value.ref 152) _) _ _ _)); (fail_if_success (with_reducible show wpAny _ _ (call (Value.builtin "len") _) _ _ _)); first | (k_unfold; (try dsimp only)) | (k_end; wrow_close) | walk1 | (dsimp only; walk1) | (leave1; try dsimp only) | ((with_reducible show ∀ _, Nn.Cut _ _ → _); intro _ _) | ((fail_if_success (with_reducible show wpAny _ _ _ _ _ _)); first | ((with_reducible refine Nn.Nx.use (by assumption) ?_); (try dsimp only)) | ((with_reducible refine Nn.Rx.ret (by assumption) ?_); (try dsimp only)) | ((with_reducible refine Nn.Rx.brk (by assumption) ?_); (try dsimp only)) | ((with_reducible refine Nn.Rx.cont (by assumption) ?_); (try dsimp only)) | ((with_reducible refine Nn.Cut.use (by assumption) ?_); (try dsimp only)))))
    rename Nn.Bd _ n => hrn
    rename Nn.Bd _ 4 => hr4
    obtain ⟨rn, er⟩ := nmBd hrn
    subst er
    obtain ⟨r4, er⟩ := nmBd hr4
    subst er
    have hstep := step_ok (getD_mem (l := stepsL) (d := 0) hr4.lo hr4.hi)
    obtain ⟨vv, hvv3⟩ : ∃ v, c.vvs[rn.toNat]? = some v := ⟨_, List.getElem?_eq_getElem (by have := hrn.lo; have := hrn.hi; omega)⟩
    obtain ⟨ra, ⟨rp, rw', rk, rnm⟩, q1, q2, q3, q4, hr, rfl, hm⟩ := hvv2.2 _ _ hvv3
    have hnm1 := hnm _ _ hr
    have hkn := named_known hnm hr
    have hrr := hrd _ (List.mem_of_getElem? hr)
    dsimp only at hm hnm1 hkn hrr
    rename News _ _ _ _ => N4
    refine item_refL (a := c.vvs) N4 (.tail _ (.head _)) hvv3 hrn.lo (by have := hrn.hi; omega) ?_ (by with_unfolding_all rfl)
    generalize stepsL.getD r4.toNat 0 = st at *
    have hwb := width_ok hrr.2.2.1
    obtain ⟨wn, hwn0⟩ := Int.eq_ofNat_of_zero_le (show 0 ≤ rw' by omega)
    subst hwn0
    repeat' (first | ((fail_if_success (with_reducible show wpAny _ _ False _ _ _)); (fail_if_success (with_reducible show wpAny _ _ (call (Value.ref 306) _) _ _ _)); (fail_if_success (with_reducible show wpAny _ _ (call (Value.ref 152) _) _ _ _)); (fail_if_success (with_reducible show wpAny _ _ (call (Value.builtin "len") _) _ _ _)); first | (k_unfold; (try dsimp only)) | (k_end; wrow_close) | walk1 | (dsimp only; walk1) | (leave1; try dsimp only) | ((with_reducible show ∀ _, Nn.Cut _ _ → _); intro _ _) | ((fail_if_success (with_reducible show wpAny _ _ _ _ _ _)); first | ((with_reducible refine Nn.Nx.use (by assumption) ?_); (try dsimp only)) | ((with_reducible refine Nn.Rx.ret (by assumption) ?_); (try dsimp only)) | ((with_reducible refine Nn.Rx.brk (by assumption) ?_); (try dsimp only)) | ((with_reducible refine Nn.Rx.cont (by assumption) ?_); (try dsimp only)) | ((with_reducible refine Nn.Cut.use (by assumption) ?_); (try dsimp only)))))
    refine' law_value_s ?q1B ?q1F ?q1X ?q1T ?q1hk ?q1N ?q1p1 ?q1hfm ?q1hnp hfi hfz hfb ?q1ix ?q1mx ?q1wn ?q1d ?q1u ?q1r
    (case q1B => k_asm); (case q1F => k_asm); (case q1X => k_asm); (case q1T => k_asm); (case q1hk => first | exact rfl | assumption); (case q1N => k_asm); (case q1p1 => lcg_sub)
    (case q1hfm => k_mem); (case q1hnp => krn_off); (case q1ix => assumption); (case q1mx => assumption); (case q1wn => omega); (case q1d => ktr_room); (case q1u => ktr_units); k_whole
    intro ix' mx' pt1' pt2' np' vb lo hi u1 u2 u3 h' tk' hix' hmx' F' N' hlo hhi hvb hvb2
    (try dsimp only)
    k_lt hvb
    repeat' (first | ((fail_if_success (with_reducible show wpAny _ _ (newTuple _) _ _ _)); (fail_if_success (with_reducible show wpAny _ _ (call (Value.ref 306) _) _ _ _)); (fail_if_success (with_reducible show wpAny _ _ (call (Value.ref 152) _) _ _ _)); (fail_if_success (with_reducible show wpAny _ _ (call (Value.builtin "len") _) _ _ _)); first | (k_unfold; (try dsimp only)) | (k_end; wrow_close) | walk1 | (dsimp only; walk1) | (leave1; try dsimp only) | ((with_reducible show ∀ _, Nn.Cut _ _ → _); intro _ _) | ((fail_if_success (with_reducible show wpAny _ _ _ _ _ _)); first | ((with_reducible refine Nn.Nx.use (by assumption) ?_); (try dsimp only)) | ((with_reducible refine Nn.Rx.ret (by assumption) ?_); (try dsimp only)) | ((with_reducible refine Nn.Rx.brk (by assumption) ?_); (try dsimp only)) | ((with_reducible refine Nn.Rx.cont (by assumption) ?_); (try dsimp only)) | ((with_reducible refine Nn.Cut.use (by assumption) ?_); (try dsimp only)))))
    refine kup_newTuple (by k_asm) (by k_asm) ?_ (by rw [sizeLine_eq]; show 3 ≤ 16777216; decide)
    intro aD h5 F5 N5 l5
    k_lt l5
    obtain ⟨dA, qA⟩ := nmO N5
    rw [← qA] at N5
    obtain ⟨tA, er⟩ := nmTokA qA
    subst er
    repeat' (first | ((fail_if_success (with_reducible show wpAny _ _ (call (Value.builtin "list.append") _) _ _ _)); (fail_if_success (with_reducible show wpAny _ _ (call (Value.ref 306) _) _ _ _)); (fail_if_success (with_reducible show wpAny _ _ (call (Value.ref 152) _) _ _ _)); (fail_if_success (with_reducible show wpAny _ _ (call (Value.builtin "len") _) _ _ _)); first | (k_unfold; (try dsimp only)) | (k_end; wrow_close) | walk1 | (dsimp only; walk1) | (leave1; try dsimp only) | ((with_reducible show ∀ _, Nn.Cut _ _ → _); intro _ _) | ((fail_if_success (with_reducible show wpAny _ _ _ _ _ _)); first | ((with_reducible refine Nn.Nx.use (by assumption) ?_); (try dsimp only)) | ((with_reducible refine Nn.Rx.ret (by assumption) ?_); (try dsimp only)) | ((with_reducible refine Nn.Rx.brk (by assumption) ?_); (try dsimp only)) | ((with_reducible refine Nn.Rx.cont (by assumption) ?_); (try dsimp only)) | ((with_reducible refine Nn.Cut.use (by assumption) ?_); (try dsimp only)))))
    rename Fr _ _ _ _ => F6
    rename News _ _ _ _ => N6
    have N7 := Pick.news (a := (ca, listOf cvs.toArray ncv)) (by lcg_sub) N6
    have hcz : cvs.length ≤ 12 := by rw [hcv.1, hlen2]; omega
    have hwz : wcv.length ≤ 12 := by rw [hwc.1, hlen2]; omega
    clear N6
    refine append_hd F6 N7 (by krn_off) (by omega) ?_
    intro h8 F8 N8
    (try dsimp only)
    repeat' (first | ((fail_if_success (with_reducible show wpAny _ _ (subscriptTail _ _ (Value.ref ca) _) _ _ _)); (fail_if_success (with_reducible show wpAny _ _ (call (Value.ref 306) _) _ _ _)); (fail_if_success (with_reducible show wpAny _ _ (call (Value.ref 152) _) _ _ _)); (fail_if_success (with_reducible show wpAny _ _ (call (Value.builtin "len") _) _ _ _)); first | (k_unfold; (try dsimp only)) | (k_end; wrow_close) | walk1 | (dsimp only; walk1) | (leave1; try dsimp only) | ((with_reducible show ∀ _, Nn.Cut _ _ → _); intro _ _) | ((fail_if_success (with_reducible show wpAny _ _ _ _ _ _)); first | ((with_reducible refine Nn.Nx.use (by assumption) ?_); (try dsimp only)) | ((with_reducible refine Nn.Rx.ret (by assumption) ?_); (try dsimp only)) | ((with_reducible refine Nn.Rx.brk (by assumption) ?_); (try dsimp only)) | ((with_reducible refine Nn.Rx.cont (by assumption) ?_); (try dsimp only)) | ((with_reducible refine Nn.Cut.use (by assumption) ?_); (try dsimp only)))))
    refine last_any N8 (.head _) (by omega) ?_ (by with_unfolding_all rfl) (by intro _; with_unfolding_all rfl)
    (try dsimp only)
    repeat' (first | ((fail_if_success (with_reducible show wpAny _ _ (subscriptTail _ _ (Value.ref aD) _) _ _ _)); (fail_if_success (with_reducible show wpAny _ _ (call (Value.ref 306) _) _ _ _)); (fail_if_success (with_reducible show wpAny _ _ (call (Value.ref 152) _) _ _ _)); (fail_if_success (with_reducible show wpAny _ _ (call (Value.builtin "len") _) _ _ _)); first | (k_unfold; (try dsimp only)) | (k_end; wrow_close) | walk1 | (dsimp only; walk1) | (leave1; try dsimp only) | ((with_reducible show ∀ _, Nn.Cut _ _ → _); intro _ _) | ((fail_if_success (with_reducible show wpAny _ _ _ _ _ _)); first | ((with_reducible refine Nn.Nx.use (by assumption) ?_); (try dsimp only)) | ((with_reducible refine Nn.Rx.ret (by assumption) ?_); (try dsimp only)) | ((with_reducible refine Nn.Rx.brk (by assumption) ?_); (try dsimp only)) | ((with_reducible refine Nn.Rx.cont (by assumption) ?_); (try dsimp only)) | ((with_reducible refine Nn.Cut.use (by assumption) ?_); (try dsimp only)))))
    refine item_tupleT (l := [.int (now + st) _, .str (mk rnm) q4, .ref vb]) (tup_at N8 (by rw [qA]; exact .tail _ (.head _))) (by decide) (by decide) rfl rfl ?_
    (try dsimp only)
    repeat' (first | ((fail_if_success (with_reducible show wpAny _ _ False _ _ _)); (fail_if_success (with_reducible show wpAny _ _ (call (Value.ref 306) _) _ _ _)); (fail_if_success (with_reducible show wpAny _ _ (call (Value.ref 152) _) _ _ _)); (fail_if_success (with_reducible show wpAny _ _ (call (Value.builtin "len") _) _ _ _)); first | (k_unfold; (try dsimp only)) | (k_end; wrow_close) | walk1 | (dsimp only; walk1) | (leave1; try dsimp only) | ((with_reducible show ∀ _, Nn.Cut _ _ → _); intro _ _) | ((fail_if_success (with_reducible show wpAny _ _ _ _ _ _)); first | ((with_reducible refine Nn.Nx.use (by assumption) ?_); (try dsimp only)) | ((with_reducible refine Nn.Rx.ret (by assumption) ?_); (try dsimp only)) | ((with_reducible refine Nn.Rx.brk (by assumption) ?_); (try dsimp only)) | ((with_reducible refine Nn.Rx.cont (by assumption) ?_); (try dsimp only)) | ((with_reducible refine Nn.Cut.use (by assumption) ?_); (try dsimp only)))))
    have hcr : chErr (nsOf c.vs) rnm (wn : Int) (now + st) wnow = none := by
      unfold chErr
      rw [hkn]
      (try dsimp only)
      rw [if_neg (by simp), if_neg (by omega)]
    refine' w_change_s ?q2B ?q2F ?q2X ?q2T ?q2hk ?q2N ?q2p1 ?q2p2 ?q2p3 ?q2p4 ?q2p5 ?q2W hdict.1 hdict.2 ?q2nz ?q2hv ?q2htm ?q2hnm ?q2cz ?q2hd ?q2hu ?q2ret ?q2exc
    (case q2B => k_asm); (case q2F => k_asm); (case q2X => k_asm); (case q2T => k_asm); (case q2hk => first | exact rfl | assumption); (case q2N => k_asm); (case q2p1 => lcg_sub); (case q2p2 => lcg_sub); (case q2p3 => lcg_sub); (case q2p4 => lcg_sub); (case q2p5 => lcg_sub)
    (case q2W => refine ⟨by omega, by omega, by omega, by omega, ?_, ?_, ?_, ?_, by assumption⟩ <;> krn_off)
    (case q2nz => unfold nsOf; rw [List.length_map]; omega); (case q2hv => k_mem); (case q2htm => omega); (case q2hnm => rw [hnm1]; simp); (case q2cz => omega); (case q2hd => ktr_room); (case q2hu => ktr_units)
    case q2exc => intro kd hkd; rw [hcr] at hkd; cases hkd
    k_whole
    intro _ tp u4 h9 tk9 F9 N9 ltp ltn
    (try dsimp only)
    k_lt ltn
    k_steps
    rename Fr _ _ _ _ => F10
    rename News _ _ _ _ => N10
    obtain ⟨dW, qW⟩ := nmO N10
    rw [← qW] at N10
    have al1 := allLt_of' hvb.2.2.2.2.2.2.2.2
    have al2 := allLt_of' l5.2.2.2.2.2.2.2.2.2.2
    have al3 := allLt_of' ltn.2.2.2.2.2.2
    have ha1 := ha
    simp only [List.map_cons] at ha1
    have ha2 := Apart.ins (A := [pl, va, wr, wdx, vl, wl, ch, ca, fl]) (B := [aD, tp, vb]) (C := List.map (fun p : Addr × Obj => p.1) ext) ha1 (.cons (fun p hp => Nat.ne_of_lt (al2 p (List.mem_append.mpr (.inr hp)))) (.cons (fun p hp => Nat.ne_of_lt (al3 p (List.mem_append.mpr (.inr hp)))) (.cons (fun p hp => Nat.ne_of_lt (al1 p (List.mem_append.mpr (.inr hp)))) .nil)))
    unfold GPost
    (try dsimp only)
    have hcd2 : CEnd (nsOf c.vs) ⟨now + st, rnm, (wn : Int), lo, hi⟩ := cend_of (i := rn.toNat) ⟨⟨by show 0 ≤ now + st; omega, by show now + st ≤ 10 ^ 15; omega, by show rnm.length ≤ 100; rw [hnm1]; simp, by show 1 ≤ (wn : Int); omega, by show (wn : Int) ≤ 1000; omega, hlo.1, hhi.1, hkn⟩, hrr.1.nm.1, hlo.2, hhi.2⟩ hnm1 (by have := hrn.lo; have := hrn.hi; omega)
    refine' GEnd.intro ⟨cs ++ [⟨now + st, rnm, (wn : Int), lo, hi⟩], cvs ++ [.ref aD], ncv + 1, wcv ++ [.ref tp], nwc + 1, now + st, tA, now + st, _, (aD, dA) :: (tp, dW) :: (vb, tupO [.int (wn : Int) u1, .int lo u2, .int hi u3]) :: ext, _, _, _, _, _⟩ F10 N10 ?gg1 ?gg2 ?gg3 ?gg4 ?gg5
    case gg1 => (dsimp only; ksw_less)
    case gg2 => ksw_less
    case gg3 => exact ha2
    case gg4 => exact ⟨ag_cons rfl ag_nil, by ksw_same⟩
    have e12 : ((j + 1 : Nat) : Int) * 10 ^ 12 = (j : Int) * 10 ^ 12 + 10 ^ 12 := by rw [Int.natCast_add, Int.add_mul]; rfl
    refine ⟨by rw [List.length_append, List.length_singleton, hlen2], hvv2.mono (fun p hp => .tail _ (.tail _ (.tail _ hp))), hwv2.mono (fun p hp => .tail _ (.tail _ (.tail _ hp))), ?_, ?_, fun x hx => (List.mem_append.mp hx).elim (hcd x) (fun h => by rw [List.mem_singleton.mp h]; exact hcd2),
      srt_snoc hso (by show 0 ≤ now + st; omega) (fun x hx => Int.le_trans (hla x hx) (by show now ≤ now + st; omega)), fun x hx => (List.mem_append.mp hx).elim (fun h => Int.le_trans (hla x h) (by show now ≤ now + st; omega)) (fun h => by rw [List.mem_singleton.mp h]; exact Int.le_refl _),
      (by show 0 ≤ now + st; omega), (by show now + st ≤ _; rw [e12]; omega), .inl rfl, Int.le_refl _, fun p hp => ?_, fun p hp => ?_, by assumption, by assumption⟩
    · exact ChsAre.snoc (r := ⟨now + st, rnm, (wn : Int), lo, hi⟩) (hcv.mono (fun p hp => .tail _ (.tail _ (.tail _ hp)))) (by rw [qA]; exact .head _) (.tail _ (.tail _ (.head _)))
    · exact ChsAre.snoc (r := ⟨now + st, rnm, (wn : Int), lo, hi⟩) (hwc.mono (fun p hp => .tail _ (.tail _ (.tail _ hp)))) (by rw [qW]; exact .tail _ (.head _)) (.tail _ (.tail _ (.head _)))
    · rcases List.mem_cons.mp hp with rfl | hp
      · exact l5.2.2.1
      · rcases List.mem_cons.mp hp with rfl | hp
        · exact ltn.2.2.2.2.1
        · rcases List.mem_cons.mp hp with rfl | hp
          · exact hvb.1
          · exact hlt2 p hp
    · rcases List.mem_cons.mp hp with rfl | hp
      · exact Nat.ne_of_gt l5.2.2.2.2.2.2.2.2.1
      · rcases List.mem_cons.mp hp with rfl | hp
        · exact Nat.ne_of_gt ltn.1
        · rcases List.mem_cons.mp hp with rfl | hp
          · exact Nat.ne_of_gt hvb.2.2.2.2.2.2.1
          · exact hoc p hp
  · intro d u h tk hJ F2 N2
    (repeat ((with_reducible show ∀ _, Nn.Cut _ _ → _); intro _ _))
    (try dsimp only)
    k_steps
    rename Fr _ _ _ _ => F3
    exact k ca nn d _ _ _ hnn12 hJ hvc (has_fr F3 (ag_cons rfl (ag_cons rfl (ag_cons rfl (ag_cons rfl (ag_cons rfl (ag_cons rfl ag_nil))))))) N2
end Nn
end
-- NnEq
section
open PySem PySem.W PySem.Spec PySem.Calls PyProof.Rows PyProof.V
set_option maxRecDepth 100000
section
local macro_rules | `(tactic| omega) => `(tactic| k_extra "oNnEq")
theorem Nn.oNnEq : True := by
  (k_with "oNnEq" => with_reducible (k_whole; first | k_extra "omega!" | ((show (_ : Nat) ≤ _); first | exact Nn.q148 (by assumption) (by assumption) | fail) | fail))
  trivial
namespace Nn
/-! ## Deep equality of what was given and what was read -/
noncomputable def varD (r : VR) : PyData := .tuple [.str (mk r.path), .int r.wd, .str (mk r.kd), .str (mk r.nm)]
noncomputable def chD (c : CR) : PyData := .tuple [.int c.tm, .str (mk c.nm), .tuple [.int c.wd, .int c.lo, .int c.hi]]
noncomputable def dumpD (sc : List Nat) (vs : List VR) (cs : List CR) : PyData := .tuple [.str (mk sc), .list (vs.map varD), .list (cs.map chD)]
theorem reads_get {h : Heap} : ∀ {vvs : List Value} {ds : List PyData}, vvs.length = ds.length → (∀ (i : Nat) (v : Value), vvs[i]? = some v → ∃ d : PyData, ds[i]? = some d ∧ Reads h v d []) → ReadsAll h vvs ds []
  | [], [], _, _ => .nil
  | v :: vvs, d :: ds, hl, hg => by
    obtain ⟨d', e1, e2⟩ := hg 0 v rfl
    cases e1
    exact readsAll_cons_val e2 (reads_get (Nat.succ.inj hl) fun i v h => hg (i + 1) v h)
theorem reads_vars {h₀ h : Heap} {L : Addr} {led : List (Addr × Obj)} {vvs : List Value} {vs : List VR} (N : News h₀ L h led) (H : VarsAre led vvs vs) : ReadsAll h vvs (vs.map varD) [] := by
  refine reads_get (by rw [List.length_map, H.1]) fun i v e => ?_
  obtain ⟨a, r, t1, t2, t3, t4, e1, rfl, e3⟩ := H.2 i v e
  refine ⟨varD r, by rw [List.getElem?_map, e1]; rfl, ?_⟩
  exact reads_tuple_at (N.get e3) rfl rfl (readsAll_cons_val (.str _ _) (readsAll_cons_val (.int _ _) (readsAll_cons_val (.str _ _) (readsAll_cons_val (.str _ _) .nil))))
theorem reads_chs {h₀ h : Heap} {L : Addr} {led : List (Addr × Obj)} {cvs : List Value} {cs : List CR} (N : News h₀ L h led) (H : ChsAre led cvs cs) : ReadsAll h cvs (cs.map chD) [] := by
  refine reads_get (by rw [List.length_map, H.1]) fun i v e => ?_
  obtain ⟨a, b, r, t1, t2, t3, t4, t5, e1, rfl, e3, e4⟩ := H.2 i v e
  refine ⟨chD r, by rw [List.getElem?_map, e1]; rfl, ?_⟩
  refine reads_tuple_at (N.get e3) rfl rfl (readsAll_cons_val (.int _ _) (readsAll_cons_val (.str _ _) (readsAll_cons_val ?_ .nil)))
  exact reads_tuple_at (N.get e4) rfl rfl (readsAll_cons_val (.int _ _) (readsAll_cons_val (.int _ _) (readsAll_cons_val (.int _ _) .nil)))
theorem reads_dump {h₀ h : Heap} {L : Addr} {led : List (Addr × Obj)} {vvs cvs : List Value} {sc : List Nat} {vs : List VR} {cs : List CR} {t v c n1 n2 : Nat} {u : Tok} (N : News h₀ L h led)
    (m1 : (t, tupO [.str (mk sc) u, .ref v, .ref c]) ∈ led) (m2 : (v, listOf vvs.toArray n1) ∈ led) (m3 : (c, listOf cvs.toArray n2) ∈ led) (H : VarsAre led vvs vs) (H2 : ChsAre led cvs cs) :
    ∃ as, Reads h (.ref t) (dumpD sc vs cs) as :=
  ⟨_, reads_tuple_at (N.get m1) rfl rfl (.cons (.str _ _) (.cons (reads_list_at (N.get m2) rfl rfl (reads_vars N H)) (.cons (reads_list_at (N.get m3) rfl rfl (reads_chs N H2)) .nil)))⟩
theorem lay_map {α : Type} {f : α → PyData} : ∀ {l : List α}, (∀ x ∈ l, (f x).canLay0 = true) → PyData.canLayAll0 (l.map f) = true
  | [], _ => rfl
  | x :: r, h => by
    rw [List.map_cons, PyData.canLayAll0, h x (.head _), lay_map fun y hy => h y (.tail _ hy)]; rfl
theorem depth_map {α : Type} {f : α → PyData} {k : Nat} : ∀ {l : List α}, (∀ x ∈ l, (f x).depth ≤ k) → PyData.depthAll (l.map f) ≤ k
  | [], _ => by rw [List.map_nil, PyData.depthAll]; exact Nat.zero_le _
  | x :: r, h => by
    rw [List.map_cons, PyData.depthAll]
    exact Nat.max_le.mpr ⟨h x (.head _), depth_map fun y hy => h y (.tail _ hy)⟩
structure SOk (sc : List Nat) (vs : List VR) (cs : List CR) : Prop where
  sc : PyData.strOk (mk sc) = true
  vs : ∀ r ∈ vs, PyData.strOk (mk r.path) = true ∧ PyData.strOk (mk r.kd) = true ∧ PyData.strOk (mk r.nm) = true
  cs : ∀ c ∈ cs, PyData.strOk (mk c.nm) = true
theorem dump_lay {sc vs cs} (h : SOk sc vs cs) : (dumpD sc vs cs).canLay0 = true := by
  unfold dumpD
  simp only [PyData.canLay0, PyData.canLayAll0, h.sc, Bool.and_true, Bool.true_and]
  rw [lay_map fun r hr => ?_, lay_map fun c hc => ?_]
  · rfl
  · unfold chD
    simp only [PyData.canLay0, PyData.canLayAll0, h.cs c hc, Bool.and_true]
  · unfold varD
    obtain ⟨h1, h2, h3⟩ := h.vs r hr
    simp only [PyData.canLay0, PyData.canLayAll0, h1, h2, h3, Bool.and_true]
theorem dump_shaped {sc vs cs} (h : SOk sc vs cs) : SeqAt.shaped (dumpD sc vs cs) = true := by
  have h1 : PyData.depthAll (vs.map varD) ≤ 1 := depth_map fun r _ => by unfold varD; simp [PyData.depth, PyData.depthAll]
  have h2 : PyData.depthAll (cs.map chD) ≤ 2 := depth_map fun r _ => by unfold chD; simp [PyData.depth, PyData.depthAll]
  have h3 : (dumpD sc vs cs).depth ≤ 64 := by
    unfold dumpD
    simp only [PyData.depth, PyData.depthAll]
    omega
  unfold SeqAt.shaped
  rw [dump_lay h, decide_eq_true h3]; rfl
section
variable {prog : Program} {w : World} {A : Around} {E : Value → Shared → Prop} {s : Shared} {h₀ : Heap} {L : Addr} {led : List (Addr × Obj)} {Q : Value → Shared → Prop}
theorem dump_ne {vvs cvs vvs' cvs' : List Value} {sc : List Nat} {vs : List VR} {cs : List CR} {t v c n1 n2 t' v' c' n1' n2' : Nat} {u u' : Tok} (N : News h₀ L s.heap led)
    (m1 : (t, tupO [.str (mk sc) u, .ref v, .ref c]) ∈ led) (m2 : (v, listOf vvs.toArray n1) ∈ led) (m3 : (c, listOf cvs.toArray n2) ∈ led) (H : VarsAre led vvs vs) (H2 : ChsAre led cvs cs)
    (m1' : (t', tupO [.str (mk sc) u', .ref v', .ref c']) ∈ led) (m2' : (v', listOf vvs'.toArray n1') ∈ led) (m3' : (c', listOf cvs'.toArray n2') ∈ led) (H' : VarsAre led vvs' vs) (H2' : ChsAre led cvs' cs)
    (ok : SOk sc vs cs) (hu : A.units + 64 < cLine) (h : Q (.bool false) s) : wpAny (model prog w) A (compareOp .NotEq (.ref t) (.ref t')) Q E s := by
  obtain ⟨as, ra⟩ := reads_dump N m1 m2 m3 H H2
  obtain ⟨bs, rb⟩ := reads_dump N m1' m2' m3' H' H2'
  refine ne_dataH ra rb (dump_shaped ok) (dump_shaped ok) hu ?_
  rw [PySem.SeqAt.eqv_refl _ (dump_lay ok)]
  exact h
end
end Nn
end
end
-- NnText
section
open PySem PySem.W PySem.Spec PySem.Calls PyProof.Rows PyProof.V
set_option maxRecDepth 100000
section
local macro_rules | `(tactic| omega) => `(tactic| k_extra "oNnText")
theorem Nn.oNnText : True := by
  (k_with "oNnText" => with_reducible (k_whole; first | k_extra "omega!" | ((show (_ : Nat) < _); first | exact Nn.q167 (by assumption) | exact Nn.q172 (by assumption) | exact Nn.q176 (by assumption) (by assumption) | fail) | ((show (_ : Nat) ≤ _); first | exact Nn.q166 (by assumption) (by assumption) | exact Nn.q168 | exact Nn.q169 (by assumption) (by assumption) | exact Nn.q171 (by assumption) (by assumption) | exact Nn.q173 (by assumption) | exact Nn.q174 (by assumption) (by assumption) | exact Nn.q175 (by assumption) | fail) | ((show (_ : Nat) = _); first | exact Nn.q163 | fail) | ((show _ ∧ _); first | exact Nn.q165 (by assumption) | fail) | ((show False); first | exact Nn.q170 (by assumption) (by assumption) | fail) | fail))
  trivial
namespace Nn
/-! ## The law's text: its length, what is read from it -/
structure LawOk (sc : List Nat) (vs : List VR) (cs : List CR) : Prop where
  sc : sc = S "1ns" ∨ sc = S "10ps"
  n1 : 1 ≤ vs.length
  n5 : vs.length ≤ 5
  rd : ∀ r ∈ vs, VRd r ∧ EndOk r ∧ r.wd ∈ widthsL ∧ r.path ∈ roadsL ∧ r.kd ∈ kindsL
  nm : Named vs
  c12 : cs.length ≤ 12
  cd : ∀ c ∈ cs, CEnd (nsOf vs) c
  so : srt 0 cs
theorem joinN_le {n : Nat} : ∀ {R : List (List Nat)}, (∀ x ∈ R, x.length ≤ n) → (joinN R).length ≤ R.length * (n + 1)
  | [], _ => Nat.zero_le _
  | x :: R, h => by
    have h1 := h x (.head _)
    have h2 := joinN_le fun y hy => h y (.tail _ hy)
    rw [jn_cons, List.length_append, List.length_cons, List.length_cons, Nat.add_mul]
    omega
theorem chL_num : ∀ (cs : List CR) (now : Int), (chL now cs).length ≤ 2 * cs.length
  | [], _ => Nat.zero_le _
  | c :: cs, now => by
    have h1 := chStep_num now c
    have h2 := chL_num cs c.tm
    rw [chL, List.length_append, List.length_cons]
    omega
theorem text_eq (sc : List Nat) (vs : List VR) (cs : List CR) : joinN (allRows sc vs cs) = joinN (headRows sc vs) ++ joinN (chL (-1) cs) := by rw [allRows_eq, jn_app]
section
variable {sc : List Nat} {vs : List VR} {cs : List CR} (H : LawOk sc vs cs)
include H
theorem LawOk.scl : sc.length ≤ 4 := (scale_ok H.sc).2.2
theorem text_len : (joinN (allRows sc vs cs)).length ≤ 90000 := by
  have h1 : (joinN (chL (-1) cs)).length ≤ (chL (-1) cs).length * (1200 + 1) := joinN_le fun x hx => (ch_good cs (-1) H.cd x hx).2.2
  have h2 := chL_num cs (-1)
  have h3 : (joinN (declRows vs)).length ≤ (declRows vs).length * (400 + 1) := joinN_le (declRows_len fun r hr => (H.rd r hr).1.ok)
  have h4 := declRows_num fun r hr => (H.rd r hr).1.ok
  have h5 := H.n5
  have h6 := H.c12
  have h7 := H.scl
  have e1 : (S "$timescale ").length = 11 := by decide +kernel
  have e2 : (S " $end").length = 5 := by decide +kernel
  have e3 : (S "$enddefinitions $end").length = 20 := by decide +kernel
  have e : (joinN (headRows sc vs)).length = sc.length + 38 + (joinN (declRows vs)).length := by
    unfold headRows
    rw [jn_app, jn_cons, jn_cons]
    simp only [List.length_append, List.length_cons, e1, e2, e3]
    unfold joinN
    simp only [List.flatMap_nil, List.length_nil]
    omega
  rw [text_eq, List.length_append, e]
  omega
theorem text_read (x : List Nat) : ∃ n e p2, Decls (joinN (allRows sc vs cs) ++ x) n 0 ⟨[], [], [], []⟩ e ⟨sc, [], vs, nsOf vs⟩ ∧ At (joinN (allRows sc vs cs) ++ x) p2 x ∧
    ∀ cs' out, Chs (joinN (allRows sc vs cs) ++ x) (nsOf vs) 0 p2 (lastT 0 cs) cs cs' out → ∃ n2, n2 ≤ 1000 ∧ Chs (joinN (allRows sc vs cs) ++ x) (nsOf vs) n2 e 0 [] cs' out := by
  have hs := scale_ok H.sc
  obtain ⟨n, e, hD, hA⟩ := text_decls (l := joinN (allRows sc vs cs) ++ x) (tail := joinN (chL (-1) cs) ++ x) hs.1 (by omega) (by have := H.n5; omega) (fun r hr => (H.rd r hr).1) (named_take H.nm) (by rw [text_eq, List.append_assoc])
  obtain ⟨p2, h1, h2⟩ := chs_of (ns := nsOf vs) cs (-1) 0 e (fun c hc => (H.cd c hc).rd) H.so (.inr (by decide)) hA
  refine ⟨n, e, p2, hD, h1, fun cs' out hC => ?_⟩
  obtain ⟨n', hn', hC'⟩ := h2 [] 0 cs' out hC
  exact ⟨n', by have := H.c12; omega, hC'⟩
theorem text_back : ∃ n n2 e, Decls (joinN (allRows sc vs cs)) n 0 ⟨[], [], [], []⟩ e ⟨sc, [], vs, nsOf vs⟩ ∧ Chs (joinN (allRows sc vs cs)) (nsOf vs) n2 e 0 [] cs none ∧ n2 ≤ 1000 := by
  obtain ⟨n, e, p2, hD, hA, hC⟩ := text_read H []
  rw [List.append_nil] at hD hA hC
  obtain ⟨n2, hn2, h⟩ := hC _ _ (.fin hA.done)
  exact ⟨n, n2, e, hD, h, hn2⟩
theorem LawOk.first : ∃ r, vs[0]? = some r ∧ r.nm = [33] ∧ r.wd ∈ widthsL ∧ wOf (nsOf vs) [33] = some r.wd := by
  have h0 : 0 < vs.length := by have := H.n1; omega
  refine ⟨vs[0], List.getElem?_eq_getElem h0, ?_, (H.rd _ (List.getElem_mem h0)).2.2.1, ?_⟩
  · exact H.nm 0 _ (List.getElem?_eq_getElem h0)
  · have := named_known H.nm (List.getElem?_eq_getElem h0)
    rwa [H.nm 0 _ (List.getElem?_eq_getElem h0)] at this
theorem LawOk.none {nm : List Nat} (h : nm.length ≠ 1) : wOf (nsOf vs) nm = none := by
  unfold wOf
  rw [Option.map_eq_none_iff, List.find?_eq_none]
  intro x hx
  unfold nsOf at hx
  obtain ⟨r, hr, rfl⟩ := List.mem_map.mp hx
  obtain ⟨i, hi, e⟩ := List.getElem_of_mem hr
  have := H.nm i r (by rw [List.getElem?_eq_getElem hi, e])
  rw [decide_eq_true_eq]
  dsimp only
  rw [this]
  intro e2
  rw [← e2] at h
  exact h rfl
theorem text_bad {wd : Nat} (h1 : wOf (nsOf vs) [33] = some (wd : Int)) {i : Nat} (hi : i ≠ 0) {x : List Nat × List Nat × Int} (hx : (rowsOf wd)[i]? = some x) :
    ∃ n n2 e cs', Decls (joinN (allRows sc vs cs) ++ x.1) n 0 ⟨[], [], [], []⟩ e ⟨sc, [], vs, nsOf vs⟩ ∧ Chs (joinN (allRows sc vs cs) ++ x.1) (nsOf vs) n2 e 0 [] cs' (some (mk x.2.1, ((joinN (allRows sc vs cs)).length : Int) + x.2.2)) ∧ n2 ≤ 1000 := by
  obtain ⟨n, e, p2, hD, hA, hC⟩ := text_read H x.1
  have hw : 1 ≤ wd := by
    obtain ⟨r, -, -, hr, h2⟩ := H.first
    rw [h1] at h2
    have := width_ok hr
    have := Option.some.inj h2
    omega
  have hb := bad_row (now := lastT 0 cs) (acc := cs) h1 hw (H.none (by decide +kernel)) (H.none (by decide)) hi hx hA
  rw [List.length_append, Nat.add_sub_cancel] at hb
  obtain ⟨n2, hn2, h⟩ := hC _ _ hb
  exact ⟨n, n2, e, _, hD, h, hn2⟩
theorem LawOk.wb {nm : List Nat} {k : Int} (h : wOf (nsOf vs) nm = some k) : 1 ≤ k ∧ k ≤ 1000 := by
  unfold wOf at h
  obtain ⟨x, hx, rfl⟩ := Option.map_eq_some_iff.mp h
  have hm := List.mem_of_find?_eq_some hx
  unfold nsOf at hm
  obtain ⟨r, hr, rfl⟩ := List.mem_map.mp hm
  have := width_ok (H.rd r hr).2.2.1
  dsimp only
  omega
theorem LawOk.sok : SOk sc vs cs := by
  have hk : ∀ l : List Nat, (∀ c ∈ l, c < 0x110000) → PyData.strOk (Nn.mk l) = true := fun l h => by
    unfold PyData.strOk Nn.mk
    simpa using h
  have hr : roadsL.all (fun l => l.all fun c => decide (c < 0x110000)) = true := by decide +kernel
  have hq : kindsL.all (fun l => l.all fun c => decide (c < 0x110000)) = true := by decide +kernel
  have hnm : ∀ i < 60, PyData.strOk (Nn.mk [33 + i]) = true := fun i hi => hk _ fun c hc => by rw [List.mem_singleton.mp hc]; omega
  refine ⟨?_, fun r hr2 => ⟨?_, ?_, ?_⟩, fun c hc => ?_⟩
  · rcases H.sc with rfl | rfl <;> decide +kernel
  · exact hk _ fun c hc => by
      have := List.all_eq_true.mp hr _ (H.rd r hr2).2.2.2.1
      exact of_decide_eq_true (List.all_eq_true.mp this c hc)
  · exact hk _ fun c hc => by
      have := List.all_eq_true.mp hq _ (H.rd r hr2).2.2.2.2
      exact of_decide_eq_true (List.all_eq_true.mp this c hc)
  · obtain ⟨i, hi, e⟩ := List.getElem_of_mem hr2
    rw [H.nm i r (by rw [List.getElem?_eq_getElem hi, e])]
    exact hnm i (by have := H.n5; omega)
  · have hkn := (H.cd c hc).rd.ok.known
    unfold wOf at hkn
    obtain ⟨x, hx, -⟩ := Option.map_eq_some_iff.mp hkn
    have hm := List.mem_of_find?_eq_some hx
    have he := List.find?_some hx
    unfold nsOf at hm
    obtain ⟨r, hr3, rfl⟩ := List.mem_map.mp hm
    obtain ⟨i, hi, e⟩ := List.getElem_of_mem hr3
    rw [decide_eq_true_eq] at he
    dsimp only at he
    rw [← he, H.nm i r (by rw [List.getElem?_eq_getElem hi, e])]
    exact hnm i (by have := H.n5; omega)
end
end Nn
namespace Nn
theorem len_mk {prog : Program} {w : World} {A : Around} {E : Value → Shared → Prop} {s : Shared} {l : List Nat} {t : Tok} {Q : Value → Shared → Prop} (hz : l.length ≤ 1000000)
    (h : ∀ t' j, Q (.int l.length t') { s with toks := j }) : wpAny (model prog w) A (call (.builtin "len") [.str (mk l) t]) Q E s := by
  refine PyProof.Rows.len_str (by rw [mk_len]; omega) ?_
  rw [mk_len]; exact h _ _
end Nn
namespace Nn
theorem pair_ne {prog : Program} {w : World} {A : Around} {E : Value → Shared → Prop} {s : Shared} {h₀ : Heap} {L : Addr} {led : List (Addr × Obj)} {Q : Value → Shared → Prop} {t t' : Nat} {a : Str} {n : Int} {u1 u2 u3 u4 : Tok} (N : News h₀ L s.heap led)
    (m1 : (t, tupO [.str a u1, .int n u2]) ∈ led) (m2 : (t', tupO [.str a u3, .int n u4]) ∈ led) (ok : PyData.strOk a = true) (hu : A.units + 64 < cLine) (h : Q (.bool false) s) :
    wpAny (model prog w) A (compareOp .NotEq (.ref t) (.ref t')) Q E s := by
  have lay : (PyData.tuple [.str a, .int n]).canLay0 = true := by simp only [PyData.canLay0, PyData.canLayAll0, ok, Bool.and_true]
  have sh : SeqAt.shaped (PyData.tuple [.str a, .int n]) = true := by
    unfold SeqAt.shaped
    rw [lay, decide_eq_true (by simp only [PyData.depth, PyData.depthAll]; omega)]; rfl
  refine ne_dataH (reads_tuple_at (N.get m1) rfl rfl (readsAll_cons_val (.str _ _) (readsAll_cons_val (.int _ _) .nil))) (reads_tuple_at (N.get m2) rfl rfl (readsAll_cons_val (.str _ _) (readsAll_cons_val (.int _ _) .nil))) sh sh hu ?_
  rw [PySem.SeqAt.eqv_refl _ lay]
  exact h
end Nn
namespace Nn
theorem name_goes_X {M : Model} {A : Around} {E : Value → Shared → Prop} {s : Shared} {h₀ : Heap} {L a : Addr} {m : Str → Option Value} {cn : Str} {cs : Scope} {ccd : Value} {cl : List (Str × Addr)} {n : Str} {pos : Pos} {Q : Unit → Shared → Prop} {news : List (Addr × Obj)}
    (F : Fr h₀ L s.heap m) (N : News h₀ L s.heap news)
    (h : ∀ h' v, Fr h₀ L h' (fun x => if x = n then v else m x) → News h₀ L h' news → Q () { s with heap := h', toks := s.toks + 1 })
    (hk : cs.kind = .function := by rfl) (hl : (envX cn cs L a ccd cl).kindOf n = some .local := by rfl) :
    wpAny M A (do bindName (envX cn cs L a ccd cl) n .none; unbindBehindTheSuite (envX cn cs L a ccd cl) n pos) Q E s :=
  wpAny_nameGoes_keeps hl F.ns (by show (cs.kind == .class || (cs.kind == .module && L != mainGlobals)) = false; rw [hk]; rfl) fun h' v hn hs => h h' v (F.set hn hs) (N.set hs)
end Nn
end
end
-- P35
section
local macro_rules | `(tactic| omega) => `(tactic| k_extra "oP35")
theorem Nn.oP35 : True := by
  (k_with "oP35" => with_reducible (k_whole; first | k_extra "omega!" | ((show (_ : Nat) ≤ _); first | exact Nn.q497 (by assumption) | exact Nn.q498 (by assumption) | exact Nn.q499 (by assumption) | exact Nn.q500 (by assumption) | exact Nn.q175 (by assumption) | fail) | fail))
  trivial
namespace Nn
theorem law_p5 {w : World} {mean : ExcName → Option Value} {mg mb : Str → Option Value} {dp un : Nat} {gd : Option (List Code)} {A₀ : Around} {h₀ : Heap} {L fa : Addr} {ccd : Value} {s : Shared} {Q E : Value → Shared → Prop} {pl fl np nf va wr wdx vl wl ch ca nvv nwv ncv nwc : Nat} {fvs vvs wvv cvs wcv : List Value} {fs : List Int} {ts tw wt pt1 pt2 : Tok} {sc : List Nat} {vs : List VR} {cs : List CR} {k1 k2 k3 k4 k5 v1 : Tok} {o : Obj} {kvs : List (Str × Value)} {now wnow ix mx : Int} {ext : List (Addr × Obj)} {u : Str → Option Value}
    (B : Below A₀ h₀ [] h₀) (X : (K w.params).In h₀) (T : Top q looseN mean mg mb h₀) (hd : dp + 200 < recursionLimit) (hu : un + 3000 < cLine)
    (H : LawOk sc vs cs) (hvv : VarsAre ext vvs vs) (hwv : VarsAre ext wvv vs) (hcv : ChsAre ext cvs cs) (hwc : ChsAre ext wcv cs) (hdict : o.IsDictOf (strKind PySem.Challenge.rw_nn0316_01.prog w) kvs ∧ FlatPairs PyData.str kvs (Dw (nsOf vs)))
    (W : WOk wdx wr vl wl ch ((pl, listOf #[.ref fl, .int ix pt1, .int mx pt2] np) :: (va, listOf vvs.toArray nvv) :: (ca, listOf cvs.toArray ncv) :: (fl, listOf fvs.toArray nf) :: ext))
    (F : Fr h₀ L s.heap (kstB u [(Str.ofString "pool", .ref pl), (Str.ofString "scale", .str (mk sc) ts), (Str.ofString "writer", .ref wr), (Str.ofString "variables", .ref va), (Str.ofString "changes", .ref ca), (Str.ofString "now", .int now tw)]))
    (N : News h₀ L s.heap ((pl, listOf #[.ref fl, .int ix pt1, .int mx pt2] np) :: (va, listOf vvs.toArray nvv) :: (wr, instObj 162 wdx) :: (wdx, dictOf [kE w "scale" k1 (.str (mk sc) v1), kE w "variables" k2 (.ref vl), kE w "widths" k3 (.ref wl), kE w "changes" k4 (.ref ch), kE w "now" k5 (.int wnow wt)] 5) :: (vl, listOf wvv.toArray nwv) :: (wl, o) :: (ch, listOf wcv.toArray nwc) :: (ca, listOf cvs.toArray ncv) :: (fl, listOf fvs.toArray nf) :: ext))
    (k : ∀ (tt : Tok) (u : Str → Option Value) (h' : Heap) (tk' : Nat), Fr h₀ L h' (kstB u [(Str.ofString "pool", .ref pl), (Str.ofString "writer", .ref wr), (Str.ofString "variables", .ref va), (Str.ofString "now", .int now tw), (Str.ofString "text", .str (mk (joinN (allRows sc vs cs))) tt)]) →
      News h₀ L h' ((pl, listOf #[.ref fl, .int ix pt1, .int mx pt2] np) :: (va, listOf vvs.toArray nvv) :: (wr, instObj 162 wdx) :: (wdx, dictOf [kE w "scale" k1 (.str (mk sc) v1), kE w "variables" k2 (.ref vl), kE w "widths" k3 (.ref wl), kE w "changes" k4 (.ref ch), kE w "now" k5 (.int wnow wt)] 5) :: (vl, listOf wvv.toArray nwv) :: (wl, o) :: (ch, listOf wcv.toArray nwc) :: (fl, listOf fvs.toArray nf) :: ext) → wpAny (model PySem.Challenge.rw_nn0316_01.prog w) (ktrTop dp un gd dR.name dR.scope L fa ccd [(Str.ofString "known", L + 1)] []) (execs (restN 13) (envX dR.name dR.scope L fa ccd [(Str.ofString "known", L + 1)])) (fun f s' => Q (match f with | .ret v => v | _ => .none) s') (fun e s' => wpAny (model PySem.Challenge.rw_nn0316_01.prog w) (ktrTop dp un gd dR.name dR.scope L fa ccd [(Str.ofString "known", L + 1)] []) (leaving (envX dR.name dR.scope L fa ccd [(Str.ofString "known", L + 1)]) e) (fun _ s'' => E e s'') (fun e' s'' => E e' s'') s') { s with heap := h', toks := tk' }) :
    wpAny (model PySem.Challenge.rw_nn0316_01.prog w) (ktrTop dp un gd dR.name dR.scope L fa ccd [(Str.ofString "known", L + 1)] []) (execs (restN 11) (envX dR.name dR.scope L fa ccd [(Str.ofString "known", L + 1)])) (fun f s' => Q (match f with | .ret v => v | _ => .none) s') (fun e s' => wpAny (model PySem.Challenge.rw_nn0316_01.prog w) (ktrTop dp un gd dR.name dR.scope L fa ccd [(Str.ofString "known", L + 1)] []) (leaving (envX dR.name dR.scope L fa ccd [(Str.ofString "known", L + 1)]) e) (fun _ s'' => E e s'') (fun e' s'' => E e' s'') s') s := by
  have hG : EvG w (envX dR.name dR.scope L fa ccd [(Str.ofString "known", L + 1)]) L h₀ := EvG.of (by with_unfolding_all rfl) X (topRead_of T)
  rw [rest_lit (k := 11) (j := 2) (l := [_, _]) rfl]
  refine execs_app ?_
  repeat' (first | ((fail_if_success (with_reducible show wpAny _ _ (call (Value.ref 159) _) _ _ _)); first | (k_unfold; (try dsimp only)) | (k_end; wrow_close) | walk1 | (dsimp only; walk1) | (leave1; try dsimp only) | ((with_reducible show ∀ _, Nn.Cut _ _ → _); intro _ _) | ((fail_if_success (with_reducible show wpAny _ _ _ _ _ _)); first | ((with_reducible refine Nn.Nx.use (by assumption) ?_); (try dsimp only)) | ((with_reducible refine Nn.Rx.ret (by assumption) ?_); (try dsimp only)) | ((with_reducible refine Nn.Rx.brk (by assumption) ?_); (try dsimp only)) | ((with_reducible refine Nn.Rx.cont (by assumption) ?_); (try dsimp only)) | ((with_reducible refine Nn.Cut.use (by assumption) ?_); (try dsimp only)))))
  have hoks : ∀ r ∈ vs, VOk r := fun r hr => (H.rd r hr).1.ok
  have hcok : ∀ c ∈ cs, COk (nsOf vs) c := fun c hc => (H.cd c hc).rd.ok
  have hnl : (nsOf vs).length ≤ 1000 := by unfold nsOf; rw [List.length_map]; have := H.n5; omega
  refine' w_text_s (vs := vs) (cs2 := cs) ?q2B ?q2F ?q2X ?q2T ?q2hk ?q2N ?q2p1 ?q2p2 ?q2p3 ?q2p4 ?q2p5 W hdict.1 hdict.2 hnl ?q2wv hoks ?q2vz ?q2wc hcok ?q2cz ?q2sl ?q2hd ?q2hu ?q2ret
  (case q2B => k_asm); (case q2F => k_asm); (case q2X => k_asm); (case q2T => k_asm); (case q2hk => first | exact rfl | assumption); (case q2N => k_asm); (case q2p1 => lcg_sub); (case q2p2 => lcg_sub); (case q2p3 => lcg_sub); (case q2p4 => lcg_sub); (case q2p5 => lcg_sub)
  (case q2wv => exact hwv.mono (fun p hp => .tail _ (.tail _ (.tail _ (.tail _ hp))))); (case q2wc => exact hwc.mono (fun p hp => .tail _ (.tail _ (.tail _ (.tail _ hp))))); (case q2vz => have := H.n5; omega); (case q2cz => have := H.c12; omega); (case q2sl => have := H.scl; omega); (case q2hd => ktr_room); (case q2hu => ktr_units)
  k_whole
  intro tt h1 tk1 F1 N1
  (try dsimp only)
  repeat' (first | ((fail_if_success (with_reducible show wpAny _ _ (call (Value.ref 285) _) _ _ _)); first | (k_unfold; (try dsimp only)) | (k_end; wrow_close) | walk1 | (dsimp only; walk1) | (leave1; try dsimp only) | ((with_reducible show ∀ _, Nn.Cut _ _ → _); intro _ _) | ((fail_if_success (with_reducible show wpAny _ _ _ _ _ _)); first | ((with_reducible refine Nn.Nx.use (by assumption) ?_); (try dsimp only)) | ((with_reducible refine Nn.Rx.ret (by assumption) ?_); (try dsimp only)) | ((with_reducible refine Nn.Rx.brk (by assumption) ?_); (try dsimp only)) | ((with_reducible refine Nn.Rx.cont (by assumption) ?_); (try dsimp only)) | ((with_reducible refine Nn.Cut.use (by assumption) ?_); (try dsimp only)))))
  obtain ⟨n1, n2, e, hD, hC, hn2⟩ := text_back H
  refine' read_dump_s ?q3B ?q3F ?q3X ?q3T ?q3hk ?q3N ?q3l hD hC hn2 ?q3nz ?q3ns ?q3hd ?q3hu ?q3ret ?q3exc
  (case q3B => k_asm); (case q3F => k_asm); (case q3X => k_asm); (case q3T => k_asm); (case q3hk => first | exact rfl | assumption); (case q3N => k_asm)
  (case q3l => have := text_len H; omega); (case q3nz => exact hnl); (case q3ns => exact fun nm k h => H.wb h); (case q3hd => ktr_room); (case q3hu => ktr_units)
  case q3exc => intro kd k2 h; cases h
  k_whole
  intro _ tp vl2 ch2 vvs2 nv2 cvs2 nc2 ext2 u1 h2 tk2 F2 N2 hvv2 hcv2
  (try dsimp only)
  clear hD hC
  repeat' (first | ((fail_if_success (with_reducible show wpAny _ _ (newTuple _) _ _ _)); (fail_if_success (with_reducible show wpAny _ _ (call (Value.ref 285) _) _ _ _)); (fail_if_success (with_reducible show wpAny _ _ (call (Value.ref 285) _) _ _ _)); (fail_if_success (with_reducible show wpAny _ _ (call (Value.builtin "len") _) _ _ _)); first | (k_unfold; (try dsimp only)) | (k_end; wrow_close) | walk1 | (dsimp only; walk1) | (leave1; try dsimp only) | ((with_reducible show ∀ _, Nn.Cut _ _ → _); intro _ _) | ((fail_if_success (with_reducible show wpAny _ _ _ _ _ _)); first | ((with_reducible refine Nn.Nx.use (by assumption) ?_); (try dsimp only)) | ((with_reducible refine Nn.Rx.ret (by assumption) ?_); (try dsimp only)) | ((with_reducible refine Nn.Rx.brk (by assumption) ?_); (try dsimp only)) | ((with_reducible refine Nn.Rx.cont (by assumption) ?_); (try dsimp only)) | ((with_reducible refine Nn.Cut.use (by assumption) ?_); (try dsimp only)))))
  refine kup_newTuple (by k_asm) (by k_asm) ?_ (by rw [sizeLine_eq]; show 3 ≤ 16777216; decide)
  intro tp2 h5 F5 N5 l5
  (try dsimp only)
  repeat' (first | ((fail_if_success (with_reducible show wpAny _ _ (compareOp _ _ _) _ _ _)); (fail_if_success (with_reducible show wpAny _ _ (call (Value.ref 285) _) _ _ _)); (fail_if_success (with_reducible show wpAny _ _ (call (Value.ref 285) _) _ _ _)); (fail_if_success (with_reducible show wpAny _ _ (call (Value.builtin "len") _) _ _ _)); first | (k_unfold; (try dsimp only)) | (k_end; wrow_close) | walk1 | (dsimp only; walk1) | (leave1; try dsimp only) | ((with_reducible show ∀ _, Nn.Cut _ _ → _); intro _ _) | ((fail_if_success (with_reducible show wpAny _ _ _ _ _ _)); first | ((with_reducible refine Nn.Nx.use (by assumption) ?_); (try dsimp only)) | ((with_reducible refine Nn.Rx.ret (by assumption) ?_); (try dsimp only)) | ((with_reducible refine Nn.Rx.brk (by assumption) ?_); (try dsimp only)) | ((with_reducible refine Nn.Rx.cont (by assumption) ?_); (try dsimp only)) | ((with_reducible refine Nn.Cut.use (by assumption) ?_); (try dsimp only)))))
  refine' dump_ne (vvs := vvs2) (cvs := cvs2) (vvs' := vvs) (cvs' := cvs) (sc := sc) (vs := vs) (cs := cs) N5 (.tail _ (.head _)) (.tail _ (.tail _ (.head _))) (.tail _ (.tail _ (.tail _ (.head _)))) ?dv1 ?dc1 (.head _) ?dm2 ?dm3 ?dv2 ?dc2 H.sok ?dhu ?_
  case dv1 => exact hvv2.mono (fun p hp => .tail _ (.tail _ (.tail _ (.tail _ (List.mem_append.mpr (.inr hp))))))
  case dc1 => exact hcv2.mono (fun p hp => .tail _ (.tail _ (.tail _ (.tail _ (List.mem_append.mpr (.inr hp))))))
  case dm2 => exact .tail _ (.tail _ (.tail _ (.tail _ (List.mem_append.mpr (.inl (by k_mem))))))
  case dm3 => exact .tail _ (.tail _ (.tail _ (.tail _ (List.mem_append.mpr (.inl (by k_mem))))))
  case dv2 => exact hvv.mono (fun p hp => (.tail _ (.tail _ (.tail _ (.tail _ (List.mem_append.mpr (.inl (.tail _ (.tail _ (.tail _ (.tail _ (.tail _ (.tail _ (.tail _ (.tail _ (.tail _ hp))))))))))))))))
  case dc2 => exact hcv.mono (fun p hp => (.tail _ (.tail _ (.tail _ (.tail _ (List.mem_append.mpr (.inl (.tail _ (.tail _ (.tail _ (.tail _ (.tail _ (.tail _ (.tail _ (.tail _ (.tail _ hp))))))))))))))))
  case dhu => ktr_units
  k_steps
  rename Fr _ _ _ _ => F6
  rename News _ _ _ _ => N6
  refine k tt _ _ _ (has_fr F6 (ag_cons rfl (ag_cons rfl (ag_cons rfl (ag_cons rfl (ag_cons rfl ag_nil)))))) (news_sub N6 (fun p hp => .tail _ (.tail _ (.tail _ (.tail _ (List.mem_append.mpr (.inl ?_)))))))
  revert p
  ksw_less
end Nn
end
-- P36
theorem Nn.wP36 : True := by
  (k_with "call builtin:len!" => (k_here; (with_reducible show wpAny _ _ (call (Value.builtin "len") [Value.str (Nn.mk _) _]) _ _ _); refine Nn.len_mk (by omega) ?_; intro _ _))
  trivial
section
local macro_rules | `(tactic| omega) => `(tactic| k_extra "oP36")
theorem Nn.oP36 : True := by
  (k_with "oP36" => with_reducible (k_whole; first | k_extra "omega!" | ((show (_ : Nat) ≤ _); first | exact Nn.q501 (by assumption) | exact Nn.q504 (by assumption) (by assumption) | exact Nn.q505 (by assumption) | exact Nn.q506 (by assumption) (by assumption) | exact Nn.q509 (by assumption) (by assumption) (by assumption) | exact Nn.q511 (by assumption) (by assumption) (by assumption) | exact Nn.q512 (by assumption) (by assumption) | exact Nn.q515 (by assumption) | exact Nn.q516 (by assumption) | exact Nn.q517 (by assumption) | exact Nn.q518 (by assumption) (by assumption) | fail) | ((show (_ : Int) < _); first | exact Nn.q502 (by assumption) (by assumption) (by assumption) | exact Nn.q503 | exact Nn.q69 | exact Nn.q507 (by assumption) (by assumption) (by assumption) | exact Nn.q513 (by assumption) (by assumption) (by assumption) | fail) | ((show (_ : Int) ≤ _); first | exact Nn.q508 (by assumption) (by assumption) (by assumption) | exact Nn.q510 (by assumption) (by assumption) (by assumption) | exact Nn.q70 | fail) | ((show False); first | exact Nn.q514 (by assumption) (by assumption) (by assumption) (by assumption) | fail) | fail))
  trivial
namespace Nn
theorem nl_lit2 : Str.ofString "\n" = mk [10] := by decide +kernel
theorem sp_lit2 : Str.ofString " " = mk [32] := by decide +kernel
theorem sl_from1 (x : List Nat) : Txt.slice (mk x) (some 1) none = mk (x.drop 1) := by
  cases x with
  | nil => decide +kernel
  | cons a r => exact slice_from (by decide) (by rw [List.length_cons]; omega)
theorem sl_to1 (x : List Nat) : Txt.slice (mk x) none (some 1) = mk (x.take 1) := by
  cases x with
  | nil => decide +kernel
  | cons a r => exact slice_to (by decide) (by rw [List.length_cons]; omega)
theorem joinC_len (c : Nat) : ∀ ps : List (List Nat), ps.length ≤ (joinC c ps).length + 1 ∧ ∀ p ∈ ps, p.length ≤ (joinC c ps).length
  | [] => ⟨Nat.zero_le _, fun _ h => nomatch h⟩
  | [x] => ⟨by simp [joinC], fun p h => by rw [List.mem_singleton.mp h]; exact Nat.le_refl _⟩
  | x :: y :: r => by
    have h := joinC_len c (y :: r)
    have e : (joinC c (x :: y :: r)).length = x.length + ((joinC c (y :: r)).length + 1) := by
      show (x ++ c :: joinC c (y :: r)).length = _
      rw [List.length_append, List.length_cons]
    refine ⟨by rw [e, List.length_cons]; omega, fun p hp => ?_⟩
    rw [e]
    rcases List.mem_cons.mp hp with rfl | hp
    · omega
    · have := h.2 p hp; omega
theorem partsBy_len (c : Nat) (l : List Nat) : (partsBy (mk [c]) l).length ≤ l.length + 1 ∧ ∀ p ∈ partsBy (mk [c]) l, p.length ≤ l.length := by
  have h := joinC_len c (partsBy (mk [c]) l)
  rwa [parts_join] at h
theorem flat_str {v : Value} {y : Str} (h : Flat v (PyData.str y)) : ∃ t, v = .str y t := by
  have := h default
  cases this
  exact ⟨_, rfl⟩
theorem look1 (x a b : Str) : (Spec.lookup (PyData.str x) [(PyData.str a, PyData.str b)]).getD (PyData.str x) = PyData.str (if x = a then b else x) := by
  unfold Spec.lookup
  by_cases h : x = a
  · subst h; simp [Spec.same]
  · simp only [Spec.same, Spec.lookup, beq_iff_eq]; rw [if_neg (Ne.symm h), if_neg h]; rfl
theorem lrow_key {x : List Nat} (h : LRow x) : ∃ dg rr, partsBy (mk [32]) (x.drop 1) = dg :: rr ∧ (x.take 1 = [98] → dg.length ≤ 1 ∨ ∃ a b r, dg = a :: b :: r ∧ a ≠ extN b) := by
  cases h with
  | other h =>
    cases e : partsBy (mk [32]) (x.drop 1) with
    | nil => exact absurd e (parts_ne _ _)
    | cons a r => exact ⟨a, r, rfl, fun h2 => absurd h2 h⟩
  | @vec ds nm h1 h2 h3 =>
    obtain ⟨r, hr⟩ := parts_head (b := nm) h1
    exact ⟨ds, r, hr, fun _ => h3⟩
theorem end_lit2 : Str.ofString "$enddefinitions $end\n" = mk (endE ++ [10]) := by unfold endE; decide +kernel
theorem law_p6 {w : World} {mean : ExcName → Option Value} {mg mb : Str → Option Value} {dp un : Nat} {gd : Option (List Code)} {A₀ : Around} {h₀ : Heap} {L fa : Addr} {ccd : Value} {s : Shared} {Q E : Value → Shared → Prop} {pl wr va : Nat} {tw : Tok} {sc : List Nat} {vs : List VR} {cs : List CR} {now : Int} {led : List (Addr × Obj)} {u : Str → Option Value} {tt : Tok}
    (B : Below A₀ h₀ [] h₀) (X : (K w.params).In h₀) (T : Top q looseN mean mg mb h₀) (hd : dp + 200 < recursionLimit) (hu : un + 3000 < cLine)
    (H : LawOk sc vs cs)
    (F : Fr h₀ L s.heap (kstB u [(Str.ofString "pool", .ref pl), (Str.ofString "writer", .ref wr), (Str.ofString "variables", .ref va), (Str.ofString "now", .int now tw), (Str.ofString "text", .str (mk (joinN (allRows sc vs cs))) tt)]))
    (N : News h₀ L s.heap led)
    (k : ∀ (u : Str → Option Value) (h' : Heap) (tk' : Nat), Fr h₀ L h' (kstB u [(Str.ofString "pool", .ref pl), (Str.ofString "writer", .ref wr), (Str.ofString "variables", .ref va), (Str.ofString "now", .int now tw), (Str.ofString "text", .str (mk (joinN (allRows sc vs cs))) tt)]) →
      News h₀ L h' led → wpAny (model PySem.Challenge.rw_nn0316_01.prog w) (ktrTop dp un gd dR.name dR.scope L fa ccd [(Str.ofString "known", L + 1)] []) (execs (restN 14) (envX dR.name dR.scope L fa ccd [(Str.ofString "known", L + 1)])) (fun f s' => Q (match f with | .ret v => v | _ => .none) s') (fun e s' => wpAny (model PySem.Challenge.rw_nn0316_01.prog w) (ktrTop dp un gd dR.name dR.scope L fa ccd [(Str.ofString "known", L + 1)] []) (leaving (envX dR.name dR.scope L fa ccd [(Str.ofString "known", L + 1)]) e) (fun _ s'' => E e s'') (fun e' s'' => E e' s'') s') { s with heap := h', toks := tk' }) :
    wpAny (model PySem.Challenge.rw_nn0316_01.prog w) (ktrTop dp un gd dR.name dR.scope L fa ccd [(Str.ofString "known", L + 1)] []) (execs (restN 13) (envX dR.name dR.scope L fa ccd [(Str.ofString "known", L + 1)])) (fun f s' => Q (match f with | .ret v => v | _ => .none) s') (fun e s' => wpAny (model PySem.Challenge.rw_nn0316_01.prog w) (ktrTop dp un gd dR.name dR.scope L fa ccd [(Str.ofString "known", L + 1)] []) (leaving (envX dR.name dR.scope L fa ccd [(Str.ofString "known", L + 1)]) e) (fun _ s'' => E e s'') (fun e' s'' => E e' s'') s') s := by
  have hG : EvG w (envX dR.name dR.scope L fa ccd [(Str.ofString "known", L + 1)]) L h₀ := EvG.of (by with_unfolding_all rfl) X (topRead_of T)
  obtain ⟨⟨pa, hp1⟩, hp2, hp3⟩ := law_rows_of (scale_good H.sc) (fun r hr => ⟨(H.rd r hr).1, (H.rd r hr).2.1⟩) H.cd
  have hlen := text_len H
  rw [rest_lit (k := 13) (j := 1) (l := [_]) rfl]
  refine execs_app ?_
  repeat' (first | ((fail_if_success (with_reducible show wpAny _ _ (call (Value.builtin "str.split") _) _ _ _)); (fail_if_success (with_reducible show wpAny _ _ (call (Value.ref 159) _) _ _ _)); (fail_if_success (with_reducible show wpAny _ _ (call (Value.ref 285) _) _ _ _)); (fail_if_success (with_reducible show wpAny _ _ (call (Value.builtin "len") _) _ _ _)); first | (k_unfold; (try dsimp only)) | (k_end; wrow_close) | walk1 | (dsimp only; walk1) | (leave1; try dsimp only) | ((with_reducible show ∀ _, Nn.Cut _ _ → _); intro _ _) | ((fail_if_success (with_reducible show wpAny _ _ _ _ _ _)); first | ((with_reducible refine Nn.Nx.use (by assumption) ?_); (try dsimp only)) | ((with_reducible refine Nn.Rx.ret (by assumption) ?_); (try dsimp only)) | ((with_reducible refine Nn.Rx.brk (by assumption) ?_); (try dsimp only)) | ((with_reducible refine Nn.Rx.cont (by assumption) ?_); (try dsimp only)) | ((with_reducible refine Nn.Cut.use (by assumption) ?_); (try dsimp only)))))
  refine split_l (by k_asm) (by k_asm) (by decide +kernel) (by omega) ?_
  intro d1 vs1 h1 k1 F1 N1 ht1 lt1
  rw [end_lit2, hp1] at ht1
  repeat' (first | ((fail_if_success (with_reducible show wpAny _ _ (subscriptTail _ _ (Value.ref d1) _) _ _ _)); (fail_if_success (with_reducible show wpAny _ _ (call (Value.ref 159) _) _ _ _)); (fail_if_success (with_reducible show wpAny _ _ (call (Value.ref 285) _) _ _ _)); (fail_if_success (with_reducible show wpAny _ _ (call (Value.builtin "len") _) _ _ _)); first | (k_unfold; (try dsimp only)) | (k_end; wrow_close) | walk1 | (dsimp only; walk1) | (leave1; try dsimp only) | ((with_reducible show ∀ _, Nn.Cut _ _ → _); intro _ _) | ((fail_if_success (with_reducible show wpAny _ _ _ _ _ _)); first | ((with_reducible refine Nn.Nx.use (by assumption) ?_); (try dsimp only)) | ((with_reducible refine Nn.Rx.ret (by assumption) ?_); (try dsimp only)) | ((with_reducible refine Nn.Rx.brk (by assumption) ?_); (try dsimp only)) | ((with_reducible refine Nn.Rx.cont (by assumption) ?_); (try dsimp only)) | ((with_reducible refine Nn.Cut.use (by assumption) ?_); (try dsimp only)))))
  refine item_txtsL N1 (.head _) ht1 (by decide) (show (1 : Int) < ((2 : Nat) : Int) by decide) (show 2 ≤ 1000000000 by decide) ?_ (by with_unfolding_all rfl)
  intro t2
  rw [show [pa, joinN (chL (-1) cs)].getD (Int.toNat 1) [] = joinN (chL (-1) cs) from rfl]
  repeat' (first | ((fail_if_success (with_reducible show wpAny _ _ (call (Value.builtin "str.split") _) _ _ _)); (fail_if_success (with_reducible show wpAny _ _ (call (Value.ref 159) _) _ _ _)); (fail_if_success (with_reducible show wpAny _ _ (call (Value.ref 285) _) _ _ _)); (fail_if_success (with_reducible show wpAny _ _ (call (Value.builtin "len") _) _ _ _)); first | (k_unfold; (try dsimp only)) | (k_end; wrow_close) | walk1 | (dsimp only; walk1) | (leave1; try dsimp only) | ((with_reducible show ∀ _, Nn.Cut _ _ → _); intro _ _) | ((fail_if_success (with_reducible show wpAny _ _ _ _ _ _)); first | ((with_reducible refine Nn.Nx.use (by assumption) ?_); (try dsimp only)) | ((with_reducible refine Nn.Rx.ret (by assumption) ?_); (try dsimp only)) | ((with_reducible refine Nn.Rx.brk (by assumption) ?_); (try dsimp only)) | ((with_reducible refine Nn.Rx.cont (by assumption) ?_); (try dsimp only)) | ((with_reducible refine Nn.Cut.use (by assumption) ?_); (try dsimp only)))))
  have hlen2 : (joinN (chL (-1) cs)).length ≤ 1000000 := by rw [text_eq, List.length_append] at hlen; omega
  refine split_l (by k_asm) (by k_asm) (by decide +kernel) hlen2 ?_
  intro d2 vs2 h2 k2 F2 N2 ht2 lt2
  rw [nl_lit2, hp2] at ht2
  generalize chL (-1) cs ++ [[]] = R at *
  clear hp1 hp2 ht1 lt1 lt2 hlen hlen2
  repeat' (first | ((fail_if_success (with_reducible show wpAny _ _ False _ _ _)); (fail_if_success (with_reducible show wpAny _ _ (call (Value.ref 159) _) _ _ _)); (fail_if_success (with_reducible show wpAny _ _ (call (Value.ref 285) _) _ _ _)); (fail_if_success (with_reducible show wpAny _ _ (call (Value.builtin "len") _) _ _ _)); first | (k_unfold; (try dsimp only)) | (k_end; wrow_close) | walk1 | (dsimp only; walk1) | (leave1; try dsimp only) | ((with_reducible show ∀ _, Nn.Cut _ _ → _); intro _ _) | ((fail_if_success (with_reducible show wpAny _ _ _ _ _ _)); first | ((with_reducible refine Nn.Nx.use (by assumption) ?_); (try dsimp only)) | ((with_reducible refine Nn.Rx.ret (by assumption) ?_); (try dsimp only)) | ((with_reducible refine Nn.Rx.brk (by assumption) ?_); (try dsimp only)) | ((with_reducible refine Nn.Rx.cont (by assumption) ?_); (try dsimp only)) | ((with_reducible refine Nn.Cut.use (by assumption) ?_); (try dsimp only)))))
  refine go (listV (σ := Unit) (fun _ => (d2, listOf vs2.toArray 0) :: led) (fun _ => []) [Str.ofString "digits"] (fun _ _ => True) () (by rfl) (fun _ => .head _) F2 (nwDrop2 N2) ag_nil trivial ?_ ?_)
  · intro i v c u3 h tk own hv _ ha F3 N3
    (repeat ((with_reducible show ∀ _, Nn.Cut _ _ → _); intro _ _))
    obtain ⟨x, t3, hx, rfl⟩ := ht2.get' hv
    obtain ⟨hrow, hxl⟩ := hp3 x (List.mem_of_getElem? hx)
    obtain ⟨dg, rr, hdg, hcase⟩ := lrow_key hrow
    clear k N2 F2 N1 F1 hp3 hrow ht2
    dsimp (config := {zetaDelta := true}) only [envOf] at F3 N3
    repeat' (first | ((fail_if_success (with_reducible show wpAny _ _ (call (Value.builtin "str.split") _) _ _ _)); (fail_if_success (with_reducible show wpAny _ _ (call (Value.ref 159) _) _ _ _)); (fail_if_success (with_reducible show wpAny _ _ (call (Value.ref 285) _) _ _ _)); (fail_if_success (with_reducible show wpAny _ _ (call (Value.builtin "len") _) _ _ _)); first | (k_unfold; (try dsimp only)) | (k_end; wrow_close) | walk1 | (dsimp only; walk1) | (leave1; try dsimp only) | ((with_reducible show ∀ _, Nn.Cut _ _ → _); intro _ _) | ((fail_if_success (with_reducible show wpAny _ _ _ _ _ _)); first | ((with_reducible refine Nn.Nx.use (by assumption) ?_); (try dsimp only)) | ((with_reducible refine Nn.Rx.ret (by assumption) ?_); (try dsimp only)) | ((with_reducible refine Nn.Rx.brk (by assumption) ?_); (try dsimp only)) | ((with_reducible refine Nn.Rx.cont (by assumption) ?_); (try dsimp only)) | ((with_reducible refine Nn.Cut.use (by assumption) ?_); (try dsimp only)))))
    rw [sl_from1]
    refine split_l (by k_asm) (by k_asm) (by decide +kernel) (by rw [List.length_drop]; omega) ?_
    intro d3 vs3 h3 k3 F4 N4 ht3 lt3
    rw [sp_lit2, hdg] at ht3
    repeat' (first | ((fail_if_success (with_reducible show wpAny _ _ (subscriptTail _ _ (Value.ref d3) _) _ _ _)); (fail_if_success (with_reducible show wpAny _ _ (call (Value.ref 159) _) _ _ _)); (fail_if_success (with_reducible show wpAny _ _ (call (Value.ref 285) _) _ _ _)); (fail_if_success (with_reducible show wpAny _ _ (call (Value.builtin "len") _) _ _ _)); first | (k_unfold; (try dsimp only)) | (k_end; wrow_close) | walk1 | (dsimp only; walk1) | (leave1; try dsimp only) | ((with_reducible show ∀ _, Nn.Cut _ _ → _); intro _ _) | ((fail_if_success (with_reducible show wpAny _ _ _ _ _ _)); first | ((with_reducible refine Nn.Nx.use (by assumption) ?_); (try dsimp only)) | ((with_reducible refine Nn.Rx.ret (by assumption) ?_); (try dsimp only)) | ((with_reducible refine Nn.Rx.brk (by assumption) ?_); (try dsimp only)) | ((with_reducible refine Nn.Rx.cont (by assumption) ?_); (try dsimp only)) | ((with_reducible refine Nn.Cut.use (by assumption) ?_); (try dsimp only)))))
    refine item_txtsL N4 (.head _) ht3 (by decide) (by rw [List.length_cons]; omega) (by have := (partsBy_len 32 (x.drop 1)).1; rw [hdg, List.length_drop] at this; omega) ?_ (by with_unfolding_all rfl)
    intro t4
    rw [show (dg :: rr).getD (Int.toNat 0) [] = dg from rfl]
    by_cases hx1 : x.take 1 = [98]
    · have heb : (Txt.slice (mk x) none (some 1) == Str.ofString "b") = true := by rw [sl_to1, hx1]; decide +kernel
      have hdl : dg.length ≤ 1200 := by have := (partsBy_len 32 (x.drop 1)).2 dg (by rw [hdg]; exact .head _); rw [List.length_drop] at this; omega
      have hml := mk_len dg
      rcases hcase hx1 with hcase | ⟨a, b, r, hab, hne⟩
      · repeat' (first | ((fail_if_success (with_reducible show wpAny _ _ False _ _ _)); (fail_if_success (with_reducible show wpAny _ _ (call (Value.ref 159) _) _ _ _)); (fail_if_success (with_reducible show wpAny _ _ (call (Value.ref 285) _) _ _ _)); (fail_if_success (with_reducible show wpAny _ _ (call (Value.builtin "len") _) _ _ _)); first | (k_unfold; (try dsimp only)) | (k_end; wrow_close) | walk1 | (dsimp only; walk1) | (leave1; try dsimp only) | ((with_reducible show ∀ _, Nn.Cut _ _ → _); intro _ _) | ((fail_if_success (with_reducible show wpAny _ _ _ _ _ _)); first | ((with_reducible refine Nn.Nx.use (by assumption) ?_); (try dsimp only)) | ((with_reducible refine Nn.Rx.ret (by assumption) ?_); (try dsimp only)) | ((with_reducible refine Nn.Rx.brk (by assumption) ?_); (try dsimp only)) | ((with_reducible refine Nn.Rx.cont (by assumption) ?_); (try dsimp only)) | ((with_reducible refine Nn.Cut.use (by assumption) ?_); (try dsimp only)))))
        refine len_mk (by omega) ?_
        intro t5 k5
        (try dsimp only)
        repeat' (first | ((fail_if_success (with_reducible show wpAny _ _ False _ _ _)); (fail_if_success (with_reducible show wpAny _ _ (call (Value.ref 159) _) _ _ _)); (fail_if_success (with_reducible show wpAny _ _ (call (Value.ref 285) _) _ _ _)); (fail_if_success (with_reducible show wpAny _ _ (call (Value.builtin "len") _) _ _ _)); first | (k_unfold; (try dsimp only)) | (k_end; wrow_close) | walk1 | (dsimp only; walk1) | (leave1; try dsimp only) | ((with_reducible show ∀ _, Nn.Cut _ _ → _); intro _ _) | ((fail_if_success (with_reducible show wpAny _ _ _ _ _ _)); first | ((with_reducible refine Nn.Nx.use (by assumption) ?_); (try dsimp only)) | ((with_reducible refine Nn.Rx.ret (by assumption) ?_); (try dsimp only)) | ((with_reducible refine Nn.Rx.brk (by assumption) ?_); (try dsimp only)) | ((with_reducible refine Nn.Rx.cont (by assumption) ?_); (try dsimp only)) | ((with_reducible refine Nn.Cut.use (by assumption) ?_); (try dsimp only)))))
        rename Fr _ _ _ _ => F5
        rename News _ _ _ _ => N5
        unfold GPost
        (try dsimp only)
        exact GEnd.intro () F5 N5 (by ksw_less) (by ksw_less) ha ⟨ag_nil, by ksw_same⟩ trivial
      · have hd2 : 2 ≤ dg.length := by rw [hab]; simp
        repeat' (first | ((fail_if_success (with_reducible show wpAny _ _ False _ _ _)); (fail_if_success (with_reducible show wpAny _ _ (call (Value.ref 159) _) _ _ _)); (fail_if_success (with_reducible show wpAny _ _ (call (Value.ref 285) _) _ _ _)); (fail_if_success (with_reducible show wpAny _ _ (call (Value.builtin "len") _) _ _ _)); first | (k_unfold; (try dsimp only)) | (k_end; wrow_close) | walk1 | (dsimp only; walk1) | (leave1; try dsimp only) | ((with_reducible show ∀ _, Nn.Cut _ _ → _); intro _ _) | ((fail_if_success (with_reducible show wpAny _ _ _ _ _ _)); first | ((with_reducible refine Nn.Nx.use (by assumption) ?_); (try dsimp only)) | ((with_reducible refine Nn.Rx.ret (by assumption) ?_); (try dsimp only)) | ((with_reducible refine Nn.Rx.brk (by assumption) ?_); (try dsimp only)) | ((with_reducible refine Nn.Rx.cont (by assumption) ?_); (try dsimp only)) | ((with_reducible refine Nn.Cut.use (by assumption) ?_); (try dsimp only)))))
        refine len_mk (by omega) ?_
        intro t5 k5
        (try dsimp only)
        repeat' (first | ((fail_if_success (with_reducible show wpAny _ _ False _ _ _)); (fail_if_success (with_reducible show wpAny _ _ (call (Value.ref 159) _) _ _ _)); (fail_if_success (with_reducible show wpAny _ _ (call (Value.ref 285) _) _ _ _)); (fail_if_success (with_reducible show wpAny _ _ (call (Value.builtin "len") _) _ _ _)); first | (k_unfold; (try dsimp only)) | (k_end; wrow_close) | walk1 | (dsimp only; walk1) | (leave1; try dsimp only) | ((with_reducible show ∀ _, Nn.Cut _ _ → _); intro _ _) | ((fail_if_success (with_reducible show wpAny _ _ _ _ _ _)); first | ((with_reducible refine Nn.Nx.use (by assumption) ?_); (try dsimp only)) | ((with_reducible refine Nn.Rx.ret (by assumption) ?_); (try dsimp only)) | ((with_reducible refine Nn.Rx.brk (by assumption) ?_); (try dsimp only)) | ((with_reducible refine Nn.Rx.cont (by assumption) ?_); (try dsimp only)) | ((with_reducible refine Nn.Cut.use (by assumption) ?_); (try dsimp only)))))
        rename Flat _ _ => hfv
        simp only [strData, datumOf, Option.getD_some] at hfv
        rw [look1] at hfv
        obtain ⟨t6, er⟩ := flat_str hfv
        subst er
        have ne2 : (Txt.item (mk dg) 0 == (if Txt.item (mk dg) 1 = Str.ofString "1" then Str.ofString "0" else Txt.item (mk dg) 1)) = false := by
          rw [hab, item_mk (by decide) (by rw [List.length_cons]; omega), item_mk (by decide) (by rw [List.length_cons, List.length_cons]; omega), Bool.eq_false_iff]
          intro e
          rw [beq_iff_eq] at e
          exact hne ((ext_iff a b).mp e)
        repeat' (first | ((fail_if_success (with_reducible show wpAny _ _ False _ _ _)); (fail_if_success (with_reducible show wpAny _ _ (call (Value.ref 159) _) _ _ _)); (fail_if_success (with_reducible show wpAny _ _ (call (Value.ref 285) _) _ _ _)); (fail_if_success (with_reducible show wpAny _ _ (call (Value.builtin "len") _) _ _ _)); first | (k_unfold; (try dsimp only)) | (k_end; wrow_close) | walk1 | (dsimp only; walk1) | (leave1; try dsimp only) | ((with_reducible show ∀ _, Nn.Cut _ _ → _); intro _ _) | ((fail_if_success (with_reducible show wpAny _ _ _ _ _ _)); first | ((with_reducible refine Nn.Nx.use (by assumption) ?_); (try dsimp only)) | ((with_reducible refine Nn.Rx.ret (by assumption) ?_); (try dsimp only)) | ((with_reducible refine Nn.Rx.brk (by assumption) ?_); (try dsimp only)) | ((with_reducible refine Nn.Rx.cont (by assumption) ?_); (try dsimp only)) | ((with_reducible refine Nn.Cut.use (by assumption) ?_); (try dsimp only)))))
        rename Fr _ _ _ _ => F5
        rename News _ _ _ _ => N5
        unfold GPost
        (try dsimp only)
        exact GEnd.intro () F5 N5 (by ksw_less) (by ksw_less) ha ⟨ag_nil, by ksw_same⟩ trivial
    · have heb : (Txt.slice (mk x) none (some 1) == Str.ofString "b") = false := by
        rw [sl_to1, Bool.eq_false_iff]
        intro e
        rw [beq_iff_eq, show Str.ofString "b" = mk [98] by decide +kernel] at e
        exact hx1 (mk_inj e)
      repeat' (first | ((fail_if_success (with_reducible show wpAny _ _ False _ _ _)); (fail_if_success (with_reducible show wpAny _ _ (call (Value.ref 159) _) _ _ _)); (fail_if_success (with_reducible show wpAny _ _ (call (Value.ref 285) _) _ _ _)); (fail_if_success (with_reducible show wpAny _ _ (call (Value.builtin "len") _) _ _ _)); first | (k_unfold; (try dsimp only)) | (k_end; wrow_close) | walk1 | (dsimp only; walk1) | (leave1; try dsimp only) | ((with_reducible show ∀ _, Nn.Cut _ _ → _); intro _ _) | ((fail_if_success (with_reducible show wpAny _ _ _ _ _ _)); first | ((with_reducible refine Nn.Nx.use (by assumption) ?_); (try dsimp only)) | ((with_reducible refine Nn.Rx.ret (by assumption) ?_); (try dsimp only)) | ((with_reducible refine Nn.Rx.brk (by assumption) ?_); (try dsimp only)) | ((with_reducible refine Nn.Rx.cont (by assumption) ?_); (try dsimp only)) | ((with_reducible refine Nn.Cut.use (by assumption) ?_); (try dsimp only)))))
      rename Fr _ _ _ _ => F5
      rename News _ _ _ _ => N5
      unfold GPost
      (try dsimp only)
      exact GEnd.intro () F5 N5 (by ksw_less) (by ksw_less) ha ⟨ag_nil, by ksw_same⟩ trivial
  · intro c u3 h tk _ F3 N3
    (repeat ((with_reducible show ∀ _, Nn.Cut _ _ → _); intro _ _))
    (try dsimp only)
    k_steps
    rename Fr _ _ _ _ => F4
    exact k _ _ _ (has_fr F4 (ag_cons rfl (ag_cons rfl (ag_cons rfl (ag_cons rfl (ag_cons rfl ag_nil)))))) (news_sub N3 (fun p hp => .tail _ hp))
end Nn
end
-- P37
theorem Nn.wP37 : True := by
  (k_with "subscriptTail Subscript Constant ref int!" => (k_here; (with_reducible show wpAny _ _ (subscriptTail _ _ (Value.ref _) (Value.int _ _)) _ _ _); k_dflt (refine' item_tupleT ?qcfa7d_t ?qcfa7d_a ?qcfa7d_b ?qcfa7d_c ?qcfa7d_d ?_; (case qcfa7d_t => (refine' Nn.tup_at ?qcfa7d_tN ?qcfa7d_tm; (case qcfa7d_tN => k_asm); (case qcfa7d_tm => k_mem))); (case qcfa7d_a => decide); (case qcfa7d_b => decide); (case qcfa7d_c => exact rfl); (case qcfa7d_d => exact rfl); k_whole)))
  trivial
section
local macro_rules | `(tactic| omega) => `(tactic| k_extra "oP37")
theorem Nn.oP37 : True := by
  (k_with "oP37" => with_reducible (k_whole; first | k_extra "omega!" | ((show (_ : Nat) < _); first | exact Nn.q526 (by assumption) (by assumption) | fail) | ((show (_ : Nat) ≤ _); first | exact Nn.q390 (by assumption) (by assumption) (by assumption) (by assumption) (by assumption) (by assumption) | exact Nn.q520 (by assumption) | exact Nn.q522 (by assumption) | exact Nn.q364 | fail) | ((show (_ : Nat) ≠ _); first | exact Nn.q519 (by assumption) (by assumption) (by assumption) (by assumption) (by assumption) (by assumption) | exact Nn.q292 (by assumption) (by assumption) (by assumption) (by assumption) | exact Nn.q368 (by assumption) (by assumption) (by assumption) (by assumption) (by assumption) | exact Nn.q354 (by assumption) (by assumption) (by assumption) | exact Nn.q355 (by assumption) (by assumption) | fail) | ((show (_ : Int) ≤ _); first | exact Nn.q523 (by assumption) | exact Nn.q494 (by assumption) | fail) | ((show _ ∧ _); first | exact Nn.q521 | exact Nn.q525 (by assumption) (by assumption) | fail) | ((show _ ∨ _); first | exact Nn.q524 (by assumption) (by assumption) | fail) | fail))
  trivial
namespace Nn
theorem law_p7 {w : World} {mean : ExcName → Option Value} {mg mb : Str → Option Value} {dp un : Nat} {gd : Option (List Code)} {A₀ : Around} {h₀ : Heap} {L fa : Addr} {ccd : Value} {s : Shared} {Q E : Value → Shared → Prop} {pl fl np nf va wr wdx vl wl ch ca nvv nwv ncv nwc : Nat} {fvs vvs wvv cvs wcv : List Value} {fs : List Int} {ts tw wt pt1 pt2 : Tok} {sc : List Nat} {vs : List VR} {cs : List CR} {k1 k2 k3 k4 k5 v1 : Tok} {o : Obj} {kvs : List (Str × Value)} {now wnow ix mx : Int} {ext : List (Addr × Obj)} {u : Str → Option Value} {tt : Tok}
    (B : Below A₀ h₀ [] h₀) (X : (K w.params).In h₀) (T : Top q looseN mean mg mb h₀) (hd : dp + 200 < recursionLimit) (hu : un + 3000 < cLine)
    (H : LawOk sc vs cs) (hvv : VarsAre ext vvs vs)
    (hs1 : @LT.lt Nat _ fl pl) (hs2 : @LT.lt Nat _ pl wdx) (hs3 : @LT.lt Nat _ wdx wr) (hs4 : @LT.lt Nat _ wr vl) (hs5 : @LT.lt Nat _ vl wl) (hs6 : @LT.lt Nat _ wl ch) (hs7 : @LT.lt Nat _ ch va) (hlt : ∀ p ∈ ext, @LT.lt Nat _ va p.1)
    (hfi : IntsAre fvs fs) (hfz : fs.length ≤ 500) (hfb : ∀ f ∈ fs, 0 ≤ f ∧ f < 840) (hix : 0 ≤ ix ∧ ix ≤ (fs.length : Int)) (hmx : 0 ≤ mx ∧ mx < 1009)
    (F : Fr h₀ L s.heap (kstB u [(Str.ofString "pool", .ref pl), (Str.ofString "writer", .ref wr), (Str.ofString "variables", .ref va), (Str.ofString "now", .int now tw), (Str.ofString "text", .str (mk (joinN (allRows sc vs cs))) tt)]))
    (N : News h₀ L s.heap ((pl, listOf #[.ref fl, .int ix pt1, .int mx pt2] np) :: (va, listOf vvs.toArray nvv) :: (wr, instObj 162 wdx) :: (wdx, dictOf [kE w "scale" k1 (.str (mk sc) v1), kE w "variables" k2 (.ref vl), kE w "widths" k3 (.ref wl), kE w "changes" k4 (.ref ch), kE w "now" k5 (.int wnow wt)] 5) :: (vl, listOf wvv.toArray nwv) :: (wl, o) :: (ch, listOf wcv.toArray nwc) :: (fl, listOf fvs.toArray nf) :: ext))
    (k : ∀ (wn i : Nat) (x : List Nat × List Nat × Int) (t1 t2 t3 t4 : Tok) (ix' mx' : Int) (pt1' pt2' : Tok) (np' : Nat) (u : Str → Option Value) (h' : Heap) (tk' : Nat), wOf (nsOf vs) [33] = some (wn : Int) → 1 ≤ wn → wn ≤ 40 → (rowsOf wn)[i]? = some x → 0 ≤ ix' ∧ ix' ≤ (fs.length : Int) → 0 ≤ mx' ∧ mx' < 1009 →
      Fr h₀ L h' (kstB u [(Str.ofString "pool", .ref pl), (Str.ofString "writer", .ref wr), (Str.ofString "now", .int now tw), (Str.ofString "text", .str (mk (joinN (allRows sc vs cs))) tt), (Str.ofString "width", .int (wn : Int) t1), (Str.ofString "row", .str (mk x.1) t2), (Str.ofString "kind", .str (mk x.2.1) t3), (Str.ofString "inside", .int x.2.2 t4)]) →
      News h₀ L h' ((pl, listOf #[.ref fl, .int ix' pt1', .int mx' pt2'] np') :: (wr, instObj 162 wdx) :: (wdx, dictOf [kE w "scale" k1 (.str (mk sc) v1), kE w "variables" k2 (.ref vl), kE w "widths" k3 (.ref wl), kE w "changes" k4 (.ref ch), kE w "now" k5 (.int wnow wt)] 5) :: (vl, listOf wvv.toArray nwv) :: (wl, o) :: (ch, listOf wcv.toArray nwc) :: (fl, listOf fvs.toArray nf) :: ext) → wpAny (model PySem.Challenge.rw_nn0316_01.prog w) (ktrTop dp un gd dR.name dR.scope L fa ccd [(Str.ofString "known", L + 1)] []) (execs (restN 17) (envX dR.name dR.scope L fa ccd [(Str.ofString "known", L + 1)])) (fun f s' => Q (match f with | .ret v => v | _ => .none) s') (fun e s' => wpAny (model PySem.Challenge.rw_nn0316_01.prog w) (ktrTop dp un gd dR.name dR.scope L fa ccd [(Str.ofString "known", L + 1)] []) (leaving (envX dR.name dR.scope L fa ccd [(Str.ofString "known", L + 1)]) e) (fun _ s'' => E e s'') (fun e' s'' => E e' s'') s') { s with heap := h', toks := tk' }) :
    wpAny (model PySem.Challenge.rw_nn0316_01.prog w) (ktrTop dp un gd dR.name dR.scope L fa ccd [(Str.ofString "known", L + 1)] []) (execs (restN 14) (envX dR.name dR.scope L fa ccd [(Str.ofString "known", L + 1)])) (fun f s' => Q (match f with | .ret v => v | _ => .none) s') (fun e s' => wpAny (model PySem.Challenge.rw_nn0316_01.prog w) (ktrTop dp un gd dR.name dR.scope L fa ccd [(Str.ofString "known", L + 1)] []) (leaving (envX dR.name dR.scope L fa ccd [(Str.ofString "known", L + 1)]) e) (fun _ s'' => E e s'') (fun e' s'' => E e' s'') s') s := by
  have hG : EvG w (envX dR.name dR.scope L fa ccd [(Str.ofString "known", L + 1)]) L h₀ := EvG.of (by with_unfolding_all rfl) X (topRead_of T)
  obtain ⟨r0, h00, hn0, hw0, hk0⟩ := H.first
  have hwb := width_ok hw0
  obtain ⟨v0, hv0⟩ : ∃ v, vvs[0]? = some v := ⟨_, List.getElem?_eq_getElem (by rw [hvv.1]; exact H.n1)⟩
  obtain ⟨ra, r, q1, q2, q3, q4, hr, rfl, hm⟩ := hvv.2 _ _ hv0
  rw [h00] at hr
  obtain rfl := Option.some.inj hr
  obtain ⟨rp, rw', rk, rnm⟩ := r0
  dsimp only at hn0 hw0 hk0 hm hwb
  subst hn0
  obtain ⟨wn, hwn0⟩ := Int.eq_ofNat_of_zero_le (show 0 ≤ rw' by omega)
  subst hwn0
  have x1 : ∀ p ∈ ext, p.1 ≠ pl := off_gt hlt (by omega)
  rw [rest_lit (k := 14) (j := 3) (l := [_, _, _]) rfl]
  refine execs_app ?_
  repeat' (first | ((fail_if_success (with_reducible show wpAny _ _ (subscriptTail _ _ (Value.ref va) _) _ _ _)); (fail_if_success (with_reducible show wpAny _ _ (call (Value.ref 313) _) _ _ _)); (fail_if_success (with_reducible show wpAny _ _ (call (Value.ref 285) _) _ _ _)); (fail_if_success (with_reducible show wpAny _ _ (call (Value.builtin "len") _) _ _ _)); first | (k_unfold; (try dsimp only)) | (k_end; wrow_close) | walk1 | (dsimp only; walk1) | (leave1; try dsimp only) | ((with_reducible show ∀ _, Nn.Cut _ _ → _); intro _ _) | ((fail_if_success (with_reducible show wpAny _ _ _ _ _ _)); first | ((with_reducible refine Nn.Nx.use (by assumption) ?_); (try dsimp only)) | ((with_reducible refine Nn.Rx.ret (by assumption) ?_); (try dsimp only)) | ((with_reducible refine Nn.Rx.brk (by assumption) ?_); (try dsimp only)) | ((with_reducible refine Nn.Rx.cont (by assumption) ?_); (try dsimp only)) | ((with_reducible refine Nn.Cut.use (by assumption) ?_); (try dsimp only)))))
  refine item_refL (a := vvs) N (.tail _ (.head _)) hv0 (by decide) (by decide) ?_ (by with_unfolding_all rfl)
  repeat' (first | ((fail_if_success (with_reducible show wpAny _ _ (subscriptTail _ _ (Value.ref va) _) _ _ _)); (fail_if_success (with_reducible show wpAny _ _ (call (Value.ref 313) _) _ _ _)); (fail_if_success (with_reducible show wpAny _ _ (call (Value.ref 285) _) _ _ _)); (fail_if_success (with_reducible show wpAny _ _ (call (Value.builtin "len") _) _ _ _)); first | (k_unfold; (try dsimp only)) | (k_end; wrow_close) | walk1 | (dsimp only; walk1) | (leave1; try dsimp only) | ((with_reducible show ∀ _, Nn.Cut _ _ → _); intro _ _) | ((fail_if_success (with_reducible show wpAny _ _ _ _ _ _)); first | ((with_reducible refine Nn.Nx.use (by assumption) ?_); (try dsimp only)) | ((with_reducible refine Nn.Rx.ret (by assumption) ?_); (try dsimp only)) | ((with_reducible refine Nn.Rx.brk (by assumption) ?_); (try dsimp only)) | ((with_reducible refine Nn.Rx.cont (by assumption) ?_); (try dsimp only)) | ((with_reducible refine Nn.Cut.use (by assumption) ?_); (try dsimp only)))))
  (try dsimp only)
  rename News _ _ _ _ => N1
  refine item_refL (a := vvs) N1 (.tail _ (.head _)) hv0 (by decide) (by decide) ?_ (by with_unfolding_all rfl)
  have hbang : (mk [33] != Str.ofString "!") = false := by decide +kernel
  repeat' (first | ((fail_if_success (with_reducible show wpAny _ _ False _ _ _)); (fail_if_success (with_reducible show wpAny _ _ (call (Value.ref 313) _) _ _ _)); (fail_if_success (with_reducible show wpAny _ _ (call (Value.ref 285) _) _ _ _)); (fail_if_success (with_reducible show wpAny _ _ (call (Value.builtin "len") _) _ _ _)); first | (k_unfold; (try dsimp only)) | (k_end; wrow_close) | walk1 | (dsimp only; walk1) | (leave1; try dsimp only) | ((with_reducible show ∀ _, Nn.Cut _ _ → _); intro _ _) | ((fail_if_success (with_reducible show wpAny _ _ _ _ _ _)); first | ((with_reducible refine Nn.Nx.use (by assumption) ?_); (try dsimp only)) | ((with_reducible refine Nn.Rx.ret (by assumption) ?_); (try dsimp only)) | ((with_reducible refine Nn.Rx.brk (by assumption) ?_); (try dsimp only)) | ((with_reducible refine Nn.Rx.cont (by assumption) ?_); (try dsimp only)) | ((with_reducible refine Nn.Cut.use (by assumption) ?_); (try dsimp only)))))
  refine' law_rows_s ?q3B ?q3F ?q3X ?q3T ?q3hk ?q3N ?q3w ?q3d ?q3u ?q3r
  (case q3B => k_asm); (case q3F => k_asm); (case q3X => k_asm); (case q3T => k_asm); (case q3hk => first | exact rfl | assumption); (case q3N => k_asm); (case q3w => omega); (case q3d => ktr_room); (case q3u => ktr_units)
  k_whole
  intro d1 rvs nn ext1 h3 tk3 hra F3 N3 ld1 ld2
  (try dsimp only)
  have ld1' : @LT.lt Nat _ pl d1 := ld1 _ (.head _)
  simp only [List.cons_append] at N3
  have ld2' : ∀ p ∈ ext1, @LT.lt Nat _ pl p.1 := fun p hp => ld2 p hp _ (.head _)
  have x3 : ∀ p ∈ ext1, p.1 ≠ pl := off_gt ld2' (Nat.le_refl _)
  clear ld1 ld2 hvv hv0
  repeat' (first | ((fail_if_success (with_reducible show wpAny _ _ (subscriptTail _ _ (Value.ref d1) _) _ _ _)); (fail_if_success (with_reducible show wpAny _ _ (call (Value.ref 313) _) _ _ _)); (fail_if_success (with_reducible show wpAny _ _ (call (Value.ref 285) _) _ _ _)); (fail_if_success (with_reducible show wpAny _ _ (call (Value.builtin "len") _) _ _ _)); first | (k_unfold; (try dsimp only)) | (k_end; wrow_close) | walk1 | (dsimp only; walk1) | (leave1; try dsimp only) | ((with_reducible show ∀ _, Nn.Cut _ _ → _); intro _ _) | ((fail_if_success (with_reducible show wpAny _ _ _ _ _ _)); first | ((with_reducible refine Nn.Nx.use (by assumption) ?_); (try dsimp only)) | ((with_reducible refine Nn.Rx.ret (by assumption) ?_); (try dsimp only)) | ((with_reducible refine Nn.Rx.brk (by assumption) ?_); (try dsimp only)) | ((with_reducible refine Nn.Rx.cont (by assumption) ?_); (try dsimp only)) | ((with_reducible refine Nn.Cut.use (by assumption) ?_); (try dsimp only)))))
  rename Nn.Bd _ 2 => hr2
  rename Nn.Bd _ 13 => hr13
  obtain ⟨r2, er⟩ := nmBd hr2
  subst er
  obtain ⟨r13, er⟩ := nmBd hr13
  subst er
  obtain ⟨hr20, hr21⟩ := hr2
  obtain ⟨hr30, hr31⟩ := hr13
  have hpr : 0 ≤ r2 * r13 ∧ r2 * r13 < 13 := by
    rcases (show r2 = 0 ∨ r2 = 1 by omega) with h | h
    · rw [h, Int.zero_mul]; omega
    · rw [h, Int.one_mul]; omega
  refine PyProof.Rows.mul_int ?_ (IntMulOk.of_right (intBits_le_64 (by omega) (by omega)))
  generalize r2 * r13 = pr at *
  clear hr20 hr21 hr30 hr31
  (try dsimp only)
  rename Fr _ _ _ _ => F5
  rename News _ _ _ _ => N5
  have hrl : rvs.length = 13 := hra.1
  obtain ⟨vx, hvx⟩ : ∃ v, rvs[pr.toNat]? = some v := ⟨_, List.getElem?_eq_getElem (by omega)⟩
  obtain ⟨xa, x, s1, s2, s3, hx, rfl, hmx⟩ := hra.2 _ _ hvx
  refine item_refL (a := rvs) N5 (by k_mem) hvx hpr.1 (by omega) ?_ (by with_unfolding_all rfl)
  have hmx5 : (xa, tupO [.str (mk x.1) s1, .str (mk x.2.1) s2, .int x.2.2 s3]) ∈ ext1 := hmx
  clear hmx hvx hra
  repeat' (first | ((fail_if_success (with_reducible show wpAny _ _ False _ _ _)); (fail_if_success (with_reducible show wpAny _ _ (call (Value.ref 313) _) _ _ _)); (fail_if_success (with_reducible show wpAny _ _ (call (Value.ref 285) _) _ _ _)); (fail_if_success (with_reducible show wpAny _ _ (call (Value.builtin "len") _) _ _ _)); first | (k_unfold; (try dsimp only)) | (k_end; wrow_close) | walk1 | (dsimp only; walk1) | (leave1; try dsimp only) | ((with_reducible show ∀ _, Nn.Cut _ _ → _); intro _ _) | ((fail_if_success (with_reducible show wpAny _ _ _ _ _ _)); first | ((with_reducible refine Nn.Nx.use (by assumption) ?_); (try dsimp only)) | ((with_reducible refine Nn.Rx.ret (by assumption) ?_); (try dsimp only)) | ((with_reducible refine Nn.Rx.brk (by assumption) ?_); (try dsimp only)) | ((with_reducible refine Nn.Rx.cont (by assumption) ?_); (try dsimp only)) | ((with_reducible refine Nn.Cut.use (by assumption) ?_); (try dsimp only)))))
  (try dsimp only)
  rename Fr _ _ _ _ => F6
  rename News _ _ _ _ => N6
  exact k wn pr.toNat x _ _ _ _ _ _ _ _ _ _ _ _ hk0 (by omega) (by omega) hx (by assumption) (by assumption) (has_fr F6 (ag_cons rfl (ag_cons rfl (ag_cons rfl (ag_cons rfl (ag_cons rfl (ag_cons rfl (ag_cons rfl (ag_cons rfl ag_nil))))))))) (news_sub N6 (by ksw_less))
end Nn
end
-- P38
section
local macro_rules | `(tactic| omega) => `(tactic| k_extra "oP38")
theorem Nn.oP38 : True := by
  (k_with "oP38" => with_reducible (k_whole; first | k_extra "omega!" | ((show (_ : Nat) ≤ _); first | exact Nn.q497 (by assumption) | exact Nn.q527 (by assumption) (by assumption) | exact Nn.q528 (by assumption) (by assumption) | exact Nn.q529 (by assumption) | exact Nn.q515 (by assumption) | fail) | fail))
  trivial
namespace Nn
theorem kind_ne {wn i : Nat} {x : List Nat × List Nat × Int} (hi : i ≠ 0) (hx : (rowsOf wn)[i]? = some x) : (mk x.2.1 != Str.ofString "") = true := by
  unfold rowsOf at hx
  match i, hx with
  | 0, _ => exact absurd rfl hi
  | 1, hx | 2, hx | 3, hx | 4, hx | 5, hx | 6, hx | 7, hx | 8, hx | 9, hx | 11, hx | 12, hx => cases hx; decide +kernel
  | 10, hx => cases hx; show (mk (S "wrong_width") != Str.ofString "") = true; decide +kernel
  | i + 13, hx => cases hx
theorem kind_ok2 {wn i : Nat} {x : List Nat × List Nat × Int} (hx : (rowsOf wn)[i]? = some x) : PyData.strOk (mk x.2.1) = true := by
  unfold rowsOf at hx
  match i, hx with
  | 0, hx | 1, hx | 2, hx | 3, hx | 4, hx | 5, hx | 6, hx | 7, hx | 8, hx | 9, hx | 11, hx | 12, hx => cases hx; decide +kernel
  | 10, hx => cases hx; show PyData.strOk (mk (S "wrong_width")) = true; decide +kernel
  | i + 13, hx => cases hx
theorem row_le {wn i : Nat} {x : List Nat × List Nat × Int} (hw : wn ≤ 40) (hx : (rowsOf wn)[i]? = some x) : x.1.length ≤ 60 ∧ 0 ≤ x.2.2 ∧ x.2.2 ≤ 1 ∧ x.2.1.length ≤ 60 := by
  unfold rowsOf at hx
  match i, hx with
  | 0, hx | 1, hx | 2, hx | 3, hx | 4, hx | 5, hx | 6, hx | 7, hx | 8, hx | 9, hx | 11, hx | 12, hx => cases hx; decide +kernel
  | 10, hx =>
    cases hx
    refine ⟨?_, Int.le_refl 0, (show (0 : Int) ≤ 1 by decide), (show (S "wrong_width").length ≤ 60 by decide +kernel)⟩
    have e1 : (S "b").length = 1 := by decide +kernel
    have e2 : (S " !").length = 2 := by decide +kernel
    simp only [List.length_append, List.length_replicate, e1, e2]
    omega
  | i + 13, hx => cases hx
theorem law_p8 {w : World} {mean : ExcName → Option Value} {mg mb : Str → Option Value} {dp un : Nat} {gd : Option (List Code)} {A₀ : Around} {h₀ : Heap} {L fa : Addr} {ccd : Value} {s : Shared} {Q E : Value → Shared → Prop} {pl wr wn i : Nat} {x : List Nat × List Nat × Int} {tw tt t1 t2 t3 t4 : Tok} {sc : List Nat} {vs : List VR} {cs : List CR} {now : Int} {led : List (Addr × Obj)} {u : Str → Option Value}
    (B : Below A₀ h₀ [] h₀) (X : (K w.params).In h₀) (T : Top q looseN mean mg mb h₀) (hd : dp + 200 < recursionLimit) (hu : un + 3000 < cLine)
    (H : LawOk sc vs cs) (hk0 : wOf (nsOf vs) [33] = some (wn : Int)) (hx : (rowsOf wn)[i]? = some x) (hwn : wn ≤ 40)
    (F : Fr h₀ L s.heap (kstB u [(Str.ofString "pool", .ref pl), (Str.ofString "writer", .ref wr), (Str.ofString "now", .int now tw), (Str.ofString "text", .str (mk (joinN (allRows sc vs cs))) tt), (Str.ofString "width", .int (wn : Int) t1), (Str.ofString "row", .str (mk x.1) t2), (Str.ofString "kind", .str (mk x.2.1) t3), (Str.ofString "inside", .int x.2.2 t4)]))
    (N : News h₀ L s.heap led)
    (k : ∀ (u : Str → Option Value) (h' : Heap) (tk' : Nat), Fr h₀ L h' (kstB u [(Str.ofString "pool", .ref pl), (Str.ofString "writer", .ref wr), (Str.ofString "now", .int now tw), (Str.ofString "text", .str (mk (joinN (allRows sc vs cs))) tt), (Str.ofString "width", .int (wn : Int) t1)]) → News h₀ L h' led → wpAny (model PySem.Challenge.rw_nn0316_01.prog w) (ktrTop dp un gd dR.name dR.scope L fa ccd [(Str.ofString "known", L + 1)] []) (execs (restN 18) (envX dR.name dR.scope L fa ccd [(Str.ofString "known", L + 1)])) (fun f s' => Q (match f with | .ret v => v | _ => .none) s') (fun e s' => wpAny (model PySem.Challenge.rw_nn0316_01.prog w) (ktrTop dp un gd dR.name dR.scope L fa ccd [(Str.ofString "known", L + 1)] []) (leaving (envX dR.name dR.scope L fa ccd [(Str.ofString "known", L + 1)]) e) (fun _ s'' => E e s'') (fun e' s'' => E e' s'') s') { s with heap := h', toks := tk' }) :
    wpAny (model PySem.Challenge.rw_nn0316_01.prog w) (ktrTop dp un gd dR.name dR.scope L fa ccd [(Str.ofString "known", L + 1)] []) (execs (restN 17) (envX dR.name dR.scope L fa ccd [(Str.ofString "known", L + 1)])) (fun f s' => Q (match f with | .ret v => v | _ => .none) s') (fun e s' => wpAny (model PySem.Challenge.rw_nn0316_01.prog w) (ktrTop dp un gd dR.name dR.scope L fa ccd [(Str.ofString "known", L + 1)] []) (leaving (envX dR.name dR.scope L fa ccd [(Str.ofString "known", L + 1)]) e) (fun _ s'' => E e s'') (fun e' s'' => E e' s'') s') s := by
  have hG : EvG w (envX dR.name dR.scope L fa ccd [(Str.ofString "known", L + 1)]) L h₀ := EvG.of (by with_unfolding_all rfl) X (topRead_of T)
  rw [rest_lit (k := 17) (j := 1) (l := [_]) rfl]
  refine execs_app ?_
  have hlen := text_len H
  by_cases hi : i = 0
  · subst hi
    obtain rfl := Option.some.inj hx
    have hne : (mk (S "") != Str.ofString "") = false := by decide +kernel
    k_steps
    rename Fr _ _ _ _ => F6
    exact k _ _ _ (has_fr F6 (ag_cons rfl (ag_cons rfl (ag_cons rfl (ag_cons rfl (ag_cons rfl ag_nil)))))) N
  · have hne : (mk x.2.1 != Str.ofString "") = true := kind_ne hi hx
    obtain ⟨n1, n2, e0, cs2, hD, hC, hn2⟩ := text_bad H hk0 hi hx
    have hxl := row_le hwn hx
    repeat' (first | ((fail_if_success (with_reducible show wpAny _ _ (exec (Stmt.Try _ _ _ _ _) _) _ _ _)); (fail_if_success (with_reducible show wpAny _ _ (call (Value.ref 285) _) _ _ _)); (fail_if_success (with_reducible show wpAny _ _ (call (Value.ref 285) _) _ _ _)); (fail_if_success (with_reducible show wpAny _ _ (call (Value.builtin "len") _) _ _ _)); first | (k_unfold; (try dsimp only)) | (k_end; wrow_close) | walk1 | (dsimp only; walk1) | (leave1; try dsimp only) | ((with_reducible show ∀ _, Nn.Cut _ _ → _); intro _ _) | ((fail_if_success (with_reducible show wpAny _ _ _ _ _ _)); first | ((with_reducible refine Nn.Nx.use (by assumption) ?_); (try dsimp only)) | ((with_reducible refine Nn.Rx.ret (by assumption) ?_); (try dsimp only)) | ((with_reducible refine Nn.Rx.brk (by assumption) ?_); (try dsimp only)) | ((with_reducible refine Nn.Rx.cont (by assumption) ?_); (try dsimp only)) | ((with_reducible refine Nn.Cut.use (by assumption) ?_); (try dsimp only)))))
    rename Fr _ _ _ _ => F1
    rename News _ _ _ _ => N1
    refine' try_fe0 (kd := mk x.2.1) (at' := ((joinN (allRows sc vs cs)).length : Int) + x.2.2) rfl rfl F1 N1 X ?hev ?hst ?h1 ?kk
    case hev =>
      intro A' E' Q' s₁ F' hQ
      clear F1 N1 k
      k_steps
      exact hQ
    case hst =>
      intro A' E' Q' s₁ nws e F N k
      exact storeX_L F N k rfl rfl
    case h1 =>
      clear k
      repeat' (first | ((fail_if_success (with_reducible show wpAny _ _ False _ _ _)); (fail_if_success (with_reducible show wpAny _ _ (call (Value.ref 285) _) _ _ _)); (fail_if_success (with_reducible show wpAny _ _ (call (Value.ref 285) _) _ _ _)); (fail_if_success (with_reducible show wpAny _ _ (call (Value.builtin "len") _) _ _ _)); first | (k_unfold; (try dsimp only)) | (k_end; wrow_close) | walk1 | (dsimp only; walk1) | (leave1; try dsimp only) | ((with_reducible show ∀ _, Nn.Cut _ _ → _); intro _ _) | ((fail_if_success (with_reducible show wpAny _ _ _ _ _ _)); first | ((with_reducible refine Nn.Nx.use (by assumption) ?_); (try dsimp only)) | ((with_reducible refine Nn.Rx.ret (by assumption) ?_); (try dsimp only)) | ((with_reducible refine Nn.Rx.brk (by assumption) ?_); (try dsimp only)) | ((with_reducible refine Nn.Rx.cont (by assumption) ?_); (try dsimp only)) | ((with_reducible refine Nn.Cut.use (by assumption) ?_); (try dsimp only)))))
      refine' read_dump_s ?q3B ?q3F ?q3X ?q3T ?q3hk ?q3N ?q3l hD hC hn2 ?q3nz ?q3ns ?q3hd ?q3hu ?q3ret ?q3exc
      (case q3B => k_asm); (case q3F => k_asm); (case q3X => k_asm); (case q3T => k_asm); (case q3hk => first | exact rfl | assumption); (case q3N => k_asm)
      (case q3l => rw [List.length_append]; omega); (case q3nz => unfold nsOf; dsimp only; rw [List.length_map]; have := H.n5; omega); (case q3ns => exact fun nm k h => H.wb h); (case q3hd => ktr_room); (case q3hu => ktr_units)
      case q3ret => intro h; cases h
      case q3exc =>
        intro kd k2 hkd g2 e2 h2 tk2 hs2 F2 R2
        obtain ⟨rfl, rfl⟩ := Prod.mk.inj (Option.some.inj hkd)
        exact Flew.intro F2 hs2 R2 (fun _ h => h)
    case kk =>
      intro e dx v1 v2 v3 tk ta vd h' ws sl tks F' N'
      clear F1 N1 hD hC
      repeat' (first | ((fail_if_success (with_reducible show wpAny _ _ (call (Value.builtin "len") _) _ _ _)); (fail_if_success (with_reducible show wpAny _ _ (call (Value.ref 285) _) _ _ _)); (fail_if_success (with_reducible show wpAny _ _ (call (Value.ref 285) _) _ _ _)); (fail_if_success (with_reducible show wpAny _ _ (call (Value.builtin "len") _) _ _ _)); first | (k_unfold; (try dsimp only)) | (k_end; wrow_close) | walk1 | (dsimp only; walk1) | (leave1; try dsimp only) | ((with_reducible show ∀ _, Nn.Cut _ _ → _); intro _ _) | ((fail_if_success (with_reducible show wpAny _ _ _ _ _ _)); first | ((with_reducible refine Nn.Nx.use (by assumption) ?_); (try dsimp only)) | ((with_reducible refine Nn.Rx.ret (by assumption) ?_); (try dsimp only)) | ((with_reducible refine Nn.Rx.brk (by assumption) ?_); (try dsimp only)) | ((with_reducible refine Nn.Rx.cont (by assumption) ?_); (try dsimp only)) | ((with_reducible refine Nn.Cut.use (by assumption) ?_); (try dsimp only)))))
      refine len_mk (by omega) ?_
      intro t6 k6
      (try dsimp only)
      repeat' (first | ((fail_if_success (with_reducible show wpAny _ _ (compareOp _ _ _) _ _ _)); (fail_if_success (with_reducible show wpAny _ _ (call (Value.ref 285) _) _ _ _)); (fail_if_success (with_reducible show wpAny _ _ (call (Value.ref 285) _) _ _ _)); (fail_if_success (with_reducible show wpAny _ _ (call (Value.builtin "len") _) _ _ _)); first | (k_unfold; (try dsimp only)) | (k_end; wrow_close) | walk1 | (dsimp only; walk1) | (leave1; try dsimp only) | ((with_reducible show ∀ _, Nn.Cut _ _ → _); intro _ _) | ((fail_if_success (with_reducible show wpAny _ _ _ _ _ _)); first | ((with_reducible refine Nn.Nx.use (by assumption) ?_); (try dsimp only)) | ((with_reducible refine Nn.Rx.ret (by assumption) ?_); (try dsimp only)) | ((with_reducible refine Nn.Rx.brk (by assumption) ?_); (try dsimp only)) | ((with_reducible refine Nn.Rx.cont (by assumption) ?_); (try dsimp only)) | ((with_reducible refine Nn.Cut.use (by assumption) ?_); (try dsimp only)))))
      rename News _ _ _ _ => N6
      refine pair_ne (a := mk x.2.1) (n := ((joinN (allRows sc vs cs)).length : Int) + x.2.2) N6 (.tail _ (.head _)) (.head _) (kind_ok2 hx) (by ktr_units) ?_
      k_steps
      rename Fr _ _ _ _ => F7
      rename News _ _ _ _ => N7
      refine name_goes_X F7 N7 ?_ rfl rfl
      intro h8 v8 F8 N8
      k_steps
      exact k _ _ _ (has_fr F8 (ag_cons rfl (ag_cons rfl (ag_cons rfl (ag_cons rfl (ag_cons rfl ag_nil)))))) (fun p hp => N8 p (.tail _ (.tail _ (.tail _ (.tail _ hp)))))
end Nn
end
-- P39
section
local macro_rules | `(tactic| omega) => `(tactic| k_extra "oP39")
theorem Nn.oP39 : True := by
  (k_with "oP39" => with_reducible (k_whole; first | k_extra "omega!" | ((show (_ : Nat) < _); first | exact Nn.q538 (by assumption) (by assumption) | fail) | ((show (_ : Nat) ≤ _); first | exact Nn.q358 (by assumption) (by assumption) (by assumption) (by assumption) (by assumption) | exact Nn.q497 (by assumption) | exact Nn.q530 (by assumption) (by assumption) | exact Nn.q498 (by assumption) | exact Nn.q535 (by assumption) (by assumption) | exact Nn.q357 (by assumption) (by assumption) | exact Nn.q536 (by assumption) (by assumption) | exact Nn.q360 (by assumption) (by assumption) (by assumption) | exact Nn.q537 (by assumption) | exact Nn.q390 (by assumption) (by assumption) (by assumption) (by assumption) (by assumption) (by assumption) | fail) | ((show (_ : Nat) ≠ _); first | exact Nn.q292 (by assumption) (by assumption) (by assumption) (by assumption) | exact Nn.q531 (by assumption) (by assumption) (by assumption) (by assumption) (by assumption) | exact Nn.q534 (by assumption) (by assumption) (by assumption) (by assumption) (by assumption) (by assumption) | exact Nn.q288 (by assumption) (by assumption) (by assumption) (by assumption) | exact Nn.q368 (by assumption) (by assumption) (by assumption) (by assumption) (by assumption) | fail) | ((show (_ : Int) ≤ _); first | exact Nn.q533 (by assumption) (by assumption) | fail) | ((show _ ∧ _); first | exact Nn.q532 (by assumption) (by assumption) | fail) | ((show _ ∨ _); first | exact Nn.q539 (by assumption) (by assumption) | fail) | fail))
  trivial
namespace Nn
theorem law_p9 {w : World} {mean : ExcName → Option Value} {mg mb : Str → Option Value} {dp un : Nat} {gd : Option (List Code)} {A₀ : Around} {h₀ : Heap} {L fa : Addr} {ccd : Value} {s : Shared} {Q E : Value → Shared → Prop} {pl fl np nf va wr wdx vl wl ch ca nvv nwv ncv nwc : Nat} {fvs vvs wvv cvs wcv : List Value} {fs : List Int} {ts tw wt pt1 pt2 : Tok} {sc : List Nat} {vs : List VR} {cs : List CR} {k1 k2 k3 k4 k5 v1 : Tok} {o : Obj} {kvs : List (Str × Value)} {now wnow ix mx : Int} {ext : List (Addr × Obj)} {u : Str → Option Value} {tt t1 : Tok} {wn : Nat}
    (B : Below A₀ h₀ [] h₀) (X : (K w.params).In h₀) (T : Top q looseN mean mg mb h₀) (hd : dp + 200 < recursionLimit) (hu : un + 3000 < cLine)
    (H : LawOk sc vs cs) (hwv : VarsAre ext wvv vs) (hwc : ChsAre ext wcv cs) (hdict : o.IsDictOf (strKind PySem.Challenge.rw_nn0316_01.prog w) kvs ∧ FlatPairs PyData.str kvs (Dw (nsOf vs)))
    (hs1 : @LT.lt Nat _ fl pl) (hs2 : @LT.lt Nat _ pl wdx) (hs3 : @LT.lt Nat _ wdx wr) (hs4 : @LT.lt Nat _ wr vl) (hs5 : @LT.lt Nat _ vl wl) (hs6 : @LT.lt Nat _ wl ch) (hs7 : @LT.lt Nat _ ch va) (hlt : ∀ p ∈ ext, @LT.lt Nat _ va p.1) (hsy : (wl == sysModules) = false) (hk0 : wOf (nsOf vs) [33] = some (wn : Int)) (hw1 : 1 ≤ wn) (hw40 : wn ≤ 40) (hnow : 0 ≤ now ∧ now ≤ 10 ^ 15) (hback : wnow = now ∨ now = 0)
    (hfi : IntsAre fvs fs) (hfz : fs.length ≤ 500) (hfb : ∀ f ∈ fs, 0 ≤ f ∧ f < 840) (hix : 0 ≤ ix ∧ ix ≤ (fs.length : Int)) (hmx : 0 ≤ mx ∧ mx < 1009)
    (F : Fr h₀ L s.heap (kstB u [(Str.ofString "pool", .ref pl), (Str.ofString "writer", .ref wr), (Str.ofString "now", .int now tw), (Str.ofString "text", .str (mk (joinN (allRows sc vs cs))) tt), (Str.ofString "width", .int (wn : Int) t1)]))
    (N : News h₀ L s.heap ((pl, listOf #[.ref fl, .int ix pt1, .int mx pt2] np) :: (wr, instObj 162 wdx) :: (wdx, dictOf [kE w "scale" k1 (.str (mk sc) v1), kE w "variables" k2 (.ref vl), kE w "widths" k3 (.ref wl), kE w "changes" k4 (.ref ch), kE w "now" k5 (.int wnow wt)] 5) :: (vl, listOf wvv.toArray nwv) :: (wl, o) :: (ch, listOf wcv.toArray nwc) :: (fl, listOf fvs.toArray nf) :: ext))
    (ret : ∀ m' h' tk', Fr h₀ L h' m' → Q (.bool true) { s with heap := h', toks := tk' }) :
    wpAny (model PySem.Challenge.rw_nn0316_01.prog w) (ktrTop dp un gd dR.name dR.scope L fa ccd [(Str.ofString "known", L + 1)] []) (execs (restN 18) (envX dR.name dR.scope L fa ccd [(Str.ofString "known", L + 1)])) (fun f s' => Q (match f with | .ret v => v | _ => .none) s') (fun e s' => wpAny (model PySem.Challenge.rw_nn0316_01.prog w) (ktrTop dp un gd dR.name dR.scope L fa ccd [(Str.ofString "known", L + 1)] []) (leaving (envX dR.name dR.scope L fa ccd [(Str.ofString "known", L + 1)]) e) (fun _ s'' => E e s'') (fun e' s'' => E e' s'') s') s := by
  have hG : EvG w (envX dR.name dR.scope L fa ccd [(Str.ofString "known", L + 1)]) L h₀ := EvG.of (by with_unfolding_all rfl) X (topRead_of T)
  have x1 : ∀ p ∈ ext, p.1 ≠ pl := off_gt hlt (by omega)
  have hn5 := H.n5
  have hc12 := H.c12
  have hoks : ∀ r ∈ vs, VOk r := fun r hr => (H.rd r hr).1.ok
  have hcok : ∀ c ∈ cs, COk (nsOf vs) c := fun c hc => (H.cd c hc).rd.ok
  have hnl : (nsOf vs).length ≤ 1000 := by unfold nsOf; rw [List.length_map]; omega
  have hwvz : wvv.length = vs.length := hwv.1
  have hwcz : wcv.length = cs.length := hwc.1
  rw [rest_lit (k := 18) (j := 2) (l := [_, _]) rfl]
  refine execs_app ?_
  repeat' (first | ((fail_if_success (with_reducible show wpAny _ _ False _ _ _)); (fail_if_success (with_reducible show wpAny _ _ (call (Value.ref 320) _) _ _ _)); (fail_if_success (with_reducible show wpAny _ _ (call (Value.ref 159) _) _ _ _)); (fail_if_success (with_reducible show wpAny _ _ (call (Value.builtin "len") _) _ _ _)); first | (k_unfold; (try dsimp only)) | (k_end; wrow_close) | walk1 | (dsimp only; walk1) | (leave1; try dsimp only) | ((with_reducible show ∀ _, Nn.Cut _ _ → _); intro _ _) | ((fail_if_success (with_reducible show wpAny _ _ _ _ _ _)); first | ((with_reducible refine Nn.Nx.use (by assumption) ?_); (try dsimp only)) | ((with_reducible refine Nn.Rx.ret (by assumption) ?_); (try dsimp only)) | ((with_reducible refine Nn.Rx.brk (by assumption) ?_); (try dsimp only)) | ((with_reducible refine Nn.Rx.cont (by assumption) ?_); (try dsimp only)) | ((with_reducible refine Nn.Cut.use (by assumption) ?_); (try dsimp only)))))
  · rename Fr _ _ _ _ => F5
    (try dsimp only)
    rename (_ < _) => h5
    rw [decide_eq_true h5]
    exact ret _ _ _ F5
  · rename Nn.Bd _ 12 => hr12
    obtain ⟨r12, er⟩ := nmBd hr12
    subst er
    have h5 : ¬ 5 < r12 := by assumption
    have hra := hr12.lo
    have x2 : ∀ p ∈ ext, p.1 ≠ wdx := off_gt hlt (by omega)
    have x3 : ∀ p ∈ ext, p.1 ≠ vl := off_gt hlt (by omega)
    have x4 : ∀ p ∈ ext, p.1 ≠ wl := off_gt hlt (by omega)
    have x5 : ∀ p ∈ ext, p.1 ≠ ch := off_gt hlt (by omega)
    refine' law_refused_s ?q1B ?q1F ?q1X ?q1T ?q1hk ?q1N ?q1p1 ?q1p2 ?q1p3 ?q1p4 ?q1p5 ?q1W hdict.1 hdict.2 hnl ?q1way hk0 ?q1n2 ?q1wb hnow ?q1back ?q1cz ?q1vz ?q1new ?q1hd ?q1hu ?q1ret
    (case q1B => k_asm); (case q1F => k_asm); (case q1X => k_asm); (case q1T => k_asm); (case q1hk => first | exact rfl | assumption); (case q1N => k_asm); (case q1p1 => lcg_sub); (case q1p2 => lcg_sub); (case q1p3 => lcg_sub); (case q1p4 => lcg_sub); (case q1p5 => lcg_sub)
    (case q1W => refine ⟨by omega, by omega, by omega, by omega, ?_, ?_, ?_, ?_, by assumption⟩ <;> krn_off)
    (case q1way => exact ⟨hra, by omega⟩); (case q1n2 => exact H.none (by decide +kernel)); (case q1wb => omega); (case q1back => omega); (case q1cz => omega); (case q1vz => omega); (case q1new => exact named_new H.nm (by omega)); (case q1hd => ktr_room); (case q1hu => ktr_units)
    k_whole
    intro h6 tk6 F6 N6
    (try dsimp only)
    repeat' (first | ((fail_if_success (with_reducible show wpAny _ _ False _ _ _)); (fail_if_success (with_reducible show wpAny _ _ (call (Value.ref 320) _) _ _ _)); (fail_if_success (with_reducible show wpAny _ _ (call (Value.ref 159) _) _ _ _)); (fail_if_success (with_reducible show wpAny _ _ (call (Value.builtin "len") _) _ _ _)); first | (k_unfold; (try dsimp only)) | (k_end; wrow_close) | walk1 | (dsimp only; walk1) | (leave1; try dsimp only) | ((with_reducible show ∀ _, Nn.Cut _ _ → _); intro _ _) | ((fail_if_success (with_reducible show wpAny _ _ _ _ _ _)); first | ((with_reducible refine Nn.Nx.use (by assumption) ?_); (try dsimp only)) | ((with_reducible refine Nn.Rx.ret (by assumption) ?_); (try dsimp only)) | ((with_reducible refine Nn.Rx.brk (by assumption) ?_); (try dsimp only)) | ((with_reducible refine Nn.Rx.cont (by assumption) ?_); (try dsimp only)) | ((with_reducible refine Nn.Cut.use (by assumption) ?_); (try dsimp only)))))
    refine' w_text_s (vs := vs) (cs2 := cs) ?q2B ?q2F ?q2X ?q2T ?q2hk ?q2N ?q2p1 ?q2p2 ?q2p3 ?q2p4 ?q2p5 ?q2W hdict.1 hdict.2 hnl ?q2wv hoks ?q2vz ?q2wc hcok ?q2cz ?q2sl ?q2hd ?q2hu ?q2ret
    (case q2B => k_asm); (case q2F => k_asm); (case q2X => k_asm); (case q2T => k_asm); (case q2hk => first | exact rfl | assumption); (case q2N => k_asm); (case q2p1 => lcg_sub); (case q2p2 => lcg_sub); (case q2p3 => lcg_sub); (case q2p4 => lcg_sub); (case q2p5 => lcg_sub)
    (case q2W => refine ⟨by omega, by omega, by omega, by omega, ?_, ?_, ?_, ?_, by assumption⟩ <;> krn_off)
    (case q2wv => exact hwv.mono (fun p hp => .tail _ (.tail _ hp))); (case q2wc => exact hwc.mono (fun p hp => .tail _ (.tail _ hp))); (case q2vz => omega); (case q2cz => omega); (case q2sl => have := H.scl; omega); (case q2hd => ktr_room); (case q2hu => ktr_units)
    k_whole
    intro t7 h7 tk7 F7 N7
    (try dsimp only)
    repeat' (first | ((fail_if_success (with_reducible show wpAny _ _ False _ _ _)); (fail_if_success (with_reducible show wpAny _ _ (call (Value.ref 320) _) _ _ _)); (fail_if_success (with_reducible show wpAny _ _ (call (Value.ref 159) _) _ _ _)); (fail_if_success (with_reducible show wpAny _ _ (call (Value.builtin "len") _) _ _ _)); first | (k_unfold; (try dsimp only)) | (k_end; wrow_close) | walk1 | (dsimp only; walk1) | (leave1; try dsimp only) | ((with_reducible show ∀ _, Nn.Cut _ _ → _); intro _ _) | ((fail_if_success (with_reducible show wpAny _ _ _ _ _ _)); first | ((with_reducible refine Nn.Nx.use (by assumption) ?_); (try dsimp only)) | ((with_reducible refine Nn.Rx.ret (by assumption) ?_); (try dsimp only)) | ((with_reducible refine Nn.Rx.brk (by assumption) ?_); (try dsimp only)) | ((with_reducible refine Nn.Rx.cont (by assumption) ?_); (try dsimp only)) | ((with_reducible refine Nn.Cut.use (by assumption) ?_); (try dsimp only)))))
    rw [show (mk (joinN (allRows sc vs cs)) == mk (joinN (allRows sc vs cs))) = true from by rw [beq_iff_eq]]
    exact ret _ _ _ F7
end Nn
end
-- P40
section
local macro_rules | `(tactic| omega) => `(tactic| k_extra "oP40")
theorem Nn.oP40 : True := by
  (k_with "oP40" => with_reducible (k_whole; first | k_extra "omega!" | ((show (_ : Nat) ≤ _); first | exact Nn.q540 (by assumption) (by assumption) (by assumption) | exact Nn.q541 (by assumption) (by assumption) | exact Nn.q357 (by assumption) (by assumption) | exact Nn.q358 (by assumption) (by assumption) (by assumption) (by assumption) (by assumption) | exact Nn.q543 (by assumption) (by assumption) (by assumption) | exact Nn.q360 (by assumption) (by assumption) (by assumption) | fail) | ((show (_ : Nat) ≠ _); first | exact Nn.q542 (by assumption) (by assumption) (by assumption) (by assumption) (by assumption) (by assumption) (by assumption) | exact Nn.q531 (by assumption) (by assumption) (by assumption) (by assumption) (by assumption) | exact Nn.q368 (by assumption) (by assumption) (by assumption) (by assumption) (by assumption) | exact Nn.q544 (by assumption) (by assumption) (by assumption) (by assumption) (by assumption) (by assumption) | exact Nn.q288 (by assumption) (by assumption) (by assumption) (by assumption) | exact Nn.q545 (by assumption) (by assumption) (by assumption) (by assumption) | exact Nn.q534 (by assumption) (by assumption) (by assumption) (by assumption) (by assumption) (by assumption) | fail) | ((show (_ : Int) ≤ _); first | exact Nn.q546 (by assumption) (by assumption) (by assumption) | fail) | fail))
  trivial
namespace Nn
theorem law_walk {w : World} {mean : ExcName → Option Value} {mg mb : Str → Option Value} {dp un : Nat} {gd : Option (List Code)} {A₀ : Around} {h₀ : Heap} {L fa sa : Addr} {ccd : Value} {s : Shared} {Q E : Value → Shared → Prop} {vs : List Value} {ns : List Int} {co : Obj}
    (B : Below A₀ h₀ [] h₀) (F : Fr h₀ L s.heap (fun y => List.lookup y [(Str.ofString "script", Value.ref sa)].reverse)) (X : (K w.params).In h₀) (T : Top q looseN mean mg mb h₀) (N : News h₀ L s.heap [(L + 1, co)]) (XC : CellsAre (fun _ => none) [(Str.ofString "known", L + 1)] [(L + 1, co)])
    (hsl : h₀.IsList sa vs.toArray) (hsi : IntsAre vs ns) (hsz : ns.length ≤ 63) (hlay : (PyData.list (ns.map PyData.int)).layable0 = true) (hd : dp + 200 < recursionLimit) (hu : un + 3000 < cLine)
    (ret : ∀ m' h' tk', Fr h₀ L h' m' → Q (.bool true) { s with heap := h', toks := tk' }) :
    wpAny (model PySem.Challenge.rw_nn0316_01.prog w) (ktrTop dp un gd dR.name dR.scope L fa ccd [(Str.ofString "known", L + 1)] []) (execs dR.body (envX dR.name dR.scope L fa ccd [(Str.ofString "known", L + 1)])) (fun f s' => Q (match f with | .ret v => v | _ => .none) s') (fun e s' => wpAny (model PySem.Challenge.rw_nn0316_01.prog w) (ktrTop dp un gd dR.name dR.scope L fa ccd [(Str.ofString "known", L + 1)] []) (leaving (envX dR.name dR.scope L fa ccd [(Str.ofString "known", L + 1)]) e) (fun _ s'' => E e s'') (fun e' s'' => E e' s'') s') s := by
  refine law_p1 B F X T N XC hsl hsi hsz hlay hd hu ?_
  intro pl fl rl np nf nr fvs fs ix mx pt1 pt2 sc ts rvs u1 h1 tk1 hsc hfi hfz hfb hix hmx hrv F1 N1 l1 l2 l3
  clear F N
  refine law_p2 B X T XC hd hu hsc hfi hfz hfb hix hmx hrv F1 N1 l1 l2 l3 ?_
  intro wr wdx vl wl ch va k1 k2 k3 k4 k5 v1 v5 n c u2 h2 tk2 hn1 hn5 hJ W F2 N2
  clear F1 N1
  refine law_p3 (np := np) B X T XC hd hu hn1 hn5 hJ W l1 l2 l3 F2 N2 ?_
  intro u3 h3 tk3 F3 N3
  clear F2 N2
  refine law_p4 (np := np) B X T hd hu hn1 hn5 hJ W l2 l3 hfi hfz hfb F3 N3 ?_
  intro ca i d u4 h4 tk4 hi12 hC hvc F4 N4
  clear F3 N3
  obtain ⟨vs', vvs, nvv, wvv, nwv, o, kvs, ext0, ix0, mx0, pt10, pt20, np0⟩ := c
  obtain ⟨cs, cvs, ncv, wcv, nwc, now, tw, wnow, wt, ext, ix2, mx2, pt3, pt4, np2⟩ := d
  obtain ⟨hlen, hvv0, hwv0, hdo, hfo, hrd, hnm, hlt0, hix0, hmx0⟩ := hJ
  obtain ⟨hlen2, hvv, hwv, hcv, hwc, hcd, hso, hla, hn0, hnb, hwn, hwl, hlt, hoc, hix2, hmx2⟩ := hC
  obtain ⟨hw1, hw2, hw3, hw4, hw5, hw6, hsy⟩ := W
  dsimp only at *
  have H : LawOk sc vs' cs := ⟨hsc, by omega, by omega, hrd, hnm, by omega, hcd, hso⟩
  have x4 : ∀ p ∈ ext, p.1 ≠ wdx := off_gt hlt (by omega)
  have x5 : ∀ p ∈ ext, p.1 ≠ vl := off_gt hlt (by omega)
  have x6 : ∀ p ∈ ext, p.1 ≠ wl := off_gt hlt (by omega)
  have x7 : ∀ p ∈ ext, p.1 ≠ ch := off_gt hlt (by omega)
  refine law_p5 (fs := fs) B X T hd hu H hvv hwv hcv hwc ⟨hdo, hfo⟩ ?_ F4 N4 ?_
  · refine ⟨by omega, by omega, by omega, by omega, ?_, ?_, ?_, ?_, by assumption⟩ <;> krn_off
  intro tt u5 h5 tk5 F5 N5
  clear F4 N4
  refine law_p6 B X T hd hu H F5 N5 ?_
  intro u6 h6 tk6 F6 N6
  clear F5 N5
  refine law_p7 (ca := ca) (ncv := ncv) (cvs := cvs) (ts := ts) (kvs := kvs) B X T hd hu H hvv l2 (by omega) hw2 hw3 hw4 hw5 hw6 hlt hfi hfz hfb hix2 hmx2 F6 N6 ?_
  intro wn i7 x t1 t2 t3 t4 ix7 mx7 pt7 pt8 np7 u7 h7 tk7 hk0 hwn1 hwn40 hx hix7 hmx7 F7 N7
  clear F6 N6
  refine law_p8 B X T hd hu H hk0 hx hwn40 F7 N7 ?_
  intro u8 h8 tk8 F8 N8
  clear F7 N7
  refine law_p9 (ca := ca) (ncv := ncv) (cvs := cvs) (ts := ts) (nvv := nvv) (vvs := vvs) B X T hd hu H hwv hwc ⟨hdo, hfo⟩ l2 (by omega) hw2 hw3 hw4 hw5 hw6 hlt hsy hk0 hwn1 hwn40 ⟨hn0, by omega⟩ hwn hfi hfz hfb hix7 hmx7 F8 N8 ?_
  intro m9 h9 tk9 F9
  exact ret m9 h9 tk9 F9
end Nn
end
-- P41
local macro_rules | `(tactic| k_qdec) => `(tactic| k_extra "k_qdec!")
theorem Nn.wP41 : True := by
  (k_with "k_qdec!" => decide +kernel)
  trivial
section
local macro_rules | `(tactic| omega) => `(tactic| k_extra "oP41")
theorem Nn.oP41 : True := by
  (k_with "oP41" => with_reducible (k_whole; first | k_extra "omega!" | ((show (_ : Nat) ≤ _); first | exact Nn.q547 (by assumption) | fail) | fail))
  trivial
namespace Nn
theorem fr_eq {h₀ h : Heap} {L : Addr} {m m' : Str → Option Value} (e : ∀ y, m y = m' y) (F : Fr h₀ L h m) : Fr h₀ L h m' := (funext e : m = m') ▸ F
theorem fr_script {h₀ h : Heap} {L : Addr} {v : Value} (F : Fr h₀ L h (fun y => if y = Str.ofString "script" then some v else none)) : Fr h₀ L h (fun y => List.lookup y [(Str.ofString "script", v)].reverse) := by
  refine fr_eq (fun y => ?_) F
  show _ = List.lookup y [(Str.ofString "script", v)]
  by_cases e : y = Str.ofString "script"
  · rw [if_pos e, e]; simp [List.lookup]
  · have e2 : (y == Str.ofString "script") = false := by rw [beq_eq_false_iff_ne]; exact e
    rw [if_neg e]; simp only [List.lookup, e2]
end Nn
theorem PySem.Challenge.cw_nn0316_01_holds : PySem.Challenge.rw_nn0316_01.Holds := by
  refine Nn.head ?_
  w_strict k_go0
  rename World => w0
  rename CellsAre _ _ _ => X0
  rename Top _ _ _ _ _ _ => T0
  rename Below _ _ _ _ => K0
  rename Fr _ _ _ _ => F0
  rename (Nn.K _).In _ => KX0
  rename News _ _ _ _ => N0
  rename IntsAre _ _ => hI0
  rename Heap.IsList _ _ _ => hL0
  rename (PyData.layable0 _ = true) => hl0
  rename (¬ _ < _) => hc0
  apply Nn.law_walk (Q := fun v s' => GoodW _ _ _ _ _ (.ok (.ret v)) s') (E := fun e s' => GoodW _ _ _ _ _ (.error e) s')
  case B => exact K0
  case hsl => exact hL0
  case F => exact Nn.fr_script (by with_unfolding_all exact F0)
  case X => exact KX0
  case T => exact T0
  case N => exact N0
  case XC => exact X0
  case hsi => exact hI0
  case hsz => omega
  case hlay => exact hl0
  case hd => decide
  case hu => decide
  intro m' h' tk' F'
  (try dsimp only)
  wrow_close
end
