import PyProof.Rows.All
import Wide.All
import OpenK.AllK
import Wide.FinOn
import Lean
import PySem.Challenge.RW_og0174_01
open PySem PySem.W PyProof.Rows PySem.Calls PySem.Spec
set_option Elab.async false
set_option maxRecDepth 100000
set_option maxHeartbeats 0
namespace Mine
section
def stp (i : Nat) : Stmt := PySem.Challenge.pw_og0174_01.main.body.getD i (.Pass default)
def stc (i j : Nat) : Stmt := match stp i with | .ClassDef _ _ _ b _ _ _ _ _ _ _ => b.getD j (.Pass default) | s => s
def fA : Stmt → Arguments | .FunctionDef _ a _ _ _ _ _ _ _ _ => a | _ => default
def fB : Stmt → List Stmt | .FunctionDef _ _ b _ _ _ _ _ _ _ => b | _ => []
def fS : Stmt → Scope | .FunctionDef _ _ _ _ _ _ sc _ _ _ => sc | _ => default
noncomputable def KF (P : Params) : Frag :=
  (nat_lit 2, (⟨.none, none, .dict #[⟨PyData.keyHash P (Str.ofString "type.__subclasses__.Exception.0"), .str (Str.ofString "type.__subclasses__.Exception.0") 259, .int (55) 0⟩, ⟨PyData.keyHash P (Str.ofString "type.__subclasses__.Exception.n"), .str (Str.ofString "type.__subclasses__.Exception.n") 260, .int (1) 0⟩] 2, #[]⟩ : Obj)) ::
  (nat_lit 3, (⟨.type "dict", none, .dict #[⟨PyData.keyHash P (Str.ofString "__name__"), .str (Str.ofString "__name__") 165, .str (Str.ofString "law_og0174_01") 673⟩, ⟨PyData.keyHash P (Str.ofString "__doc__"), .str (Str.ofString "__doc__") 166, .none⟩, ⟨PyData.keyHash P (Str.ofString "__package__"), .str (Str.ofString "__package__") 167, .none⟩, ⟨PyData.keyHash P (Str.ofString "__loader__"), .str (Str.ofString "__loader__") 168, .builtin "__main__.__loader__#opaque"⟩, ⟨PyData.keyHash P (Str.ofString "__spec__"), .str (Str.ofString "__spec__") 169, .none⟩, ⟨PyData.keyHash P (Str.ofString "__annotations__"), .str (Str.ofString "__annotations__") 170, .ref 6⟩, ⟨PyData.keyHash P (Str.ofString "__builtins__"), .str (Str.ofString "__builtins__") 171, .ref 4⟩, ⟨PyData.keyHash P (Str.ofString "__file__"), .str (Str.ofString "__file__") 173, .str (Str.ofString "/claim/cut.py") 172⟩, ⟨PyData.keyHash P (Str.ofString "__cached__"), .str (Str.ofString "__cached__") 174, .none⟩, ⟨PyData.keyHash P (Str.ofString "_wall"), .str (Str.ofString "_wall") 193, .ref 21⟩, ⟨PyData.keyHash P (Str.ofString "WHITE"), .str (Str.ofString "WHITE") 202, .ref 22⟩, ⟨PyData.keyHash P (Str.ofString "DELIMITERS"), .str (Str.ofString "DELIMITERS") 213, .ref 23⟩, ⟨PyData.keyHash P (Str.ofString "is_regular"), .str (Str.ofString "is_regular") 220, .ref 30⟩, ⟨PyData.keyHash P (Str.ofString "PaperError"), .str (Str.ofString "PaperError") 262, .ref 55⟩, ⟨PyData.keyHash P (Str.ofString "Decimal"), .str (Str.ofString "Decimal") 379, .ref 152⟩, ⟨PyData.keyHash P (Str.ofString "sign_text"), .str (Str.ofString "sign_text") 386, .ref 163⟩, ⟨PyData.keyHash P (Str.ofString "Name"), .str (Str.ofString "Name") 417, .ref 180⟩, ⟨PyData.keyHash P (Str.ofString "String"), .str (Str.ofString "String") 448, .ref 202⟩, ⟨PyData.keyHash P (Str.ofString "Stream"), .str (Str.ofString "Stream") 479, .ref 223⟩, ⟨PyData.keyHash P (Str.ofString "Reference"), .str (Str.ofString "Reference") 517, .ref 251⟩, ⟨PyData.keyHash P (Str.ofString "kind_of"), .str (Str.ofString "kind_of") 524, .ref 262⟩, ⟨PyData.keyHash P (Str.ofString "MOST_NUMBER"), .str (Str.ofString "MOST_NUMBER") 528, .int (40) 527⟩, ⟨PyData.keyHash P (Str.ofString "BACKSLASH"), .str (Str.ofString "BACKSLASH") 530, .int (92) 529⟩, ⟨PyData.keyHash P (Str.ofString "OPEN_BRACKET"), .str (Str.ofString "OPEN_BRACKET") 532, .int (40) 531⟩, ⟨PyData.keyHash P (Str.ofString "CLOSE_BRACKET"), .str (Str.ofString "CLOSE_BRACKET") 534, .int (41) 533⟩, ⟨PyData.keyHash P (Str.ofString "CARRIAGE"), .str (Str.ofString "CARRIAGE") 536, .int (13) 535⟩, ⟨PyData.keyHash P (Str.ofString "NUMBER_SIGN"), .str (Str.ofString "NUMBER_SIGN") 538, .int (35) 537⟩, ⟨PyData.keyHash P (Str.ofString "HEX_FIGURES"), .str (Str.ofString "HEX_FIGURES") 540, .bytes #[48, 49, 50, 51, 52, 53, 54, 55, 56, 57, 65, 66, 67, 68, 69, 70] 539⟩, ⟨PyData.keyHash P (Str.ofString "text_octets"), .str (Str.ofString "text_octets") 546, .ref 267⟩, ⟨PyData.keyHash P (Str.ofString "hex_pair"), .str (Str.ofString "hex_pair") 553, .ref 274⟩, ⟨PyData.keyHash P (Str.ofString "name_octets"), .str (Str.ofString "name_octets") 563, .ref 281⟩, ⟨PyData.keyHash P (Str.ofString "whole_octets"), .str (Str.ofString "whole_octets") 570, .ref 288⟩, ⟨PyData.keyHash P (Str.ofString "decimal_octets"), .str (Str.ofString "decimal_octets") 576, .ref 293⟩, ⟨PyData.keyHash P (Str.ofString "lone_brackets"), .str (Str.ofString "lone_brackets") 586, .ref 300⟩, ⟨PyData.keyHash P (Str.ofString "literal_octets"), .str (Str.ofString "literal_octets") 597, .ref 307⟩, ⟨PyData.keyHash P (Str.ofString "hex_octets"), .str (Str.ofString "hex_octets") 606, .ref 314⟩, ⟨PyData.keyHash P (Str.ofString "string_octets"), .str (Str.ofString "string_octets") 616, .ref 321⟩, ⟨PyData.keyHash P (Str.ofString "plain_part"), .str (Str.ofString "plain_part") 625, .ref 328⟩, ⟨PyData.keyHash P (Str.ofString "lay_reference"), .str (Str.ofString "lay_reference") 633, .ref 335⟩, ⟨PyData.keyHash P (Str.ofString "lay_dict"), .str (Str.ofString "lay_dict") 643, .ref 342⟩, ⟨PyData.keyHash P (Str.ofString "lay_parts"), .str (Str.ofString "lay_parts") 654, .ref 349⟩, ⟨PyData.keyHash P (Str.ofString "run_together"), .str (Str.ofString "run_together") 662, .ref 356⟩, ⟨PyData.keyHash P (Str.ofString "joined_parts"), .str (Str.ofString "joined_parts") 672, .ref 363⟩, ⟨PyData.keyHash P (Str.ofString "_law_pen"), .str (Str.ofString "_law_pen") 680, .ref 368⟩, ⟨PyData.keyHash P (Str.ofString "_law_draw"), .str (Str.ofString "_law_draw") 689, .ref 375⟩, ⟨PyData.keyHash P (Str.ofString "_law_pick"), .str (Str.ofString "_law_pick") 697, .ref 382⟩, ⟨PyData.keyHash P (Str.ofString "_law_object"), .str (Str.ofString "_law_object") 703, .ref 387⟩, ⟨PyData.keyHash P (Str.ofString "_law_parts"), .str (Str.ofString "_law_parts") 709, .ref 392⟩, ⟨PyData.keyHash P (Str.ofString "_law_is_one"), .str (Str.ofString "_law_is_one") 715, .ref 397⟩, ⟨PyData.keyHash P (Str.ofString "law"), .str (Str.ofString "law") 731, .ref 404⟩] 50, #[]⟩ : Obj)) ::
  (nat_lit 22, (⟨.type "tuple", none, .seq #[.int (0) 196, .int (9) 197, .int (10) 198, .int (12) 199, .int (13) 200, .int (32) 201] 0, #[]⟩ : Obj)) ::
  (nat_lit 23, (⟨.type "tuple", none, .seq #[.int (40) 203, .int (41) 204, .int (60) 205, .int (62) 206, .int (91) 207, .int (93) 208, .int (123) 209, .int (125) 210, .int (47) 211, .int (37) 212] 0, #[]⟩ : Obj)) ::
  (nat_lit 29, (⟨.type "code", none, .fields #[.str (Str.ofString "is_regular") 214, .str (Str.ofString "is_regular") 215, .str (Str.ofString "/claim/cut.py") 216, .int (7) 0, .int (1) 0, .int (0) 0, .int (0) 0, .int (3) 0, .ref 24, .bool true, .int (181) 0, .ref 25, .none, .ref 26, .ref 27, .ref 28, .int (218) 0, .int (7) 0, .str (Str.ofString "/claim/cut.py") 219], #[]⟩ : Obj)) ::
  (nat_lit 30, (⟨.type "function", none, .func (fnOf (Str.ofString "is_regular") (Str.ofString "is_regular") (fA (stp 4)) (fB (stp 4)) (fS (stp 4)) (.none) (.none) (.none) (.str (Str.ofString "paperhold.cursor") 194) none (.ref 29) (.none)), #[]⟩ : Obj)) ::
  (nat_lit 151, (⟨.type "dict", none, .dict #[⟨PyData.keyHash P (Str.ofString "__module__"), .str (Str.ofString "__module__") 272, .str (Str.ofString "paperhold.decimals") 263⟩, ⟨PyData.keyHash P (Str.ofString "__firstlineno__"), .str (Str.ofString "__firstlineno__") 276, .int (20) 275⟩, ⟨PyData.keyHash P (Str.ofString "__init__"), .str (Str.ofString "__init__") 285, .ref 72⟩, ⟨PyData.keyHash P (Str.ofString "plus"), .str (Str.ofString "plus") 293, .ref 79⟩, ⟨PyData.keyHash P (Str.ofString "minus"), .str (Str.ofString "minus") 301, .ref 86⟩, ⟨PyData.keyHash P (Str.ofString "times"), .str (Str.ofString "times") 309, .ref 93⟩, ⟨PyData.keyHash P (Str.ofString "negated"), .str (Str.ofString "negated") 316, .ref 100⟩, ⟨PyData.keyHash P (Str.ofString "compared"), .str (Str.ofString "compared") 324, .ref 107⟩, ⟨PyData.keyHash P (Str.ofString "is_whole"), .str (Str.ofString "is_whole") 331, .ref 114⟩, ⟨PyData.keyHash P (Str.ofString "floor"), .str (Str.ofString "floor") 338, .ref 121⟩, ⟨PyData.keyHash P (Str.ofString "rounded"), .str (Str.ofString "rounded") 346, .ref 128⟩, ⟨PyData.keyHash P (Str.ofString "told"), .str (Str.ofString "told") 353, .ref 135⟩, ⟨PyData.keyHash P (Str.ofString "text"), .str (Str.ofString "text") 361, .ref 142⟩, ⟨PyData.keyHash P (Str.ofString "least_text"), .str (Str.ofString "least_text") 369, .ref 149⟩, ⟨PyData.keyHash P (Str.ofString "__static_attributes__"), .str (Str.ofString "__static_attributes__") 372, .ref 150⟩, ⟨PyData.keyHash P (Str.ofString "__dict__"), .str (Str.ofString "__dict__") 374, .ref 153⟩, ⟨PyData.keyHash P (Str.ofString "__weakref__"), .str (Str.ofString "__weakref__") 376, .ref 154⟩, ⟨PyData.keyHash P (Str.ofString "__doc__"), .str (Str.ofString "__doc__") 377, .none⟩] 4, #[]⟩ : Obj)) ::
  (nat_lit 152, (⟨.type "type", none, .cls { name := Str.ofString "Decimal", bases := [.type "object"], mro := [.ref 152, .type "object"], ns := 151, qualname := Str.ofString "Decimal", hasDict := true, slotNames := [], subclasses := [], abstract := false, collection := none, hasDel := false }, #[none, none, (some (.str (Str.ofString "Decimal") 265)), (some (.str (Str.ofString "Decimal") 273)), (some (.builtin "object.__new__")), (some (.bool true))]⟩ : Obj)) ::
  (nat_lit 176, (⟨.type "code", none, .fields #[.str (Str.ofString "__init__") 401, .str (Str.ofString "Name.__init__") 402, .str (Str.ofString "/claim/cut.py") 403, .int (73) 0, .int (2) 0, .int (0) 0, .int (0) 0, .int (3) 0, .ref 171, .bool true, .int (181) 0, .ref 172, .none, .ref 173, .ref 174, .ref 175, .int (406) 0, .int (73) 0, .str (Str.ofString "/claim/cut.py") 407], #[]⟩ : Obj)) ::
  (nat_lit 177, (⟨.type "function", none, .func (fnOf (Str.ofString "__init__") (Str.ofString "Name.__init__") (fA (stc 11 0)) (fB (stc 11 0)) (fS (stc 11 0)) (.none) (.none) (.none) (.str (Str.ofString "paperhold.objects") 387) none (.ref 176) (.none)), #[]⟩ : Obj)) ::
  (nat_lit 179, (⟨.type "dict", none, .dict #[⟨PyData.keyHash P (Str.ofString "__module__"), .str (Str.ofString "__module__") 396, .str (Str.ofString "paperhold.objects") 387⟩, ⟨PyData.keyHash P (Str.ofString "__firstlineno__"), .str (Str.ofString "__firstlineno__") 400, .int (71) 399⟩, ⟨PyData.keyHash P (Str.ofString "__init__"), .str (Str.ofString "__init__") 408, .ref 177⟩, ⟨PyData.keyHash P (Str.ofString "__static_attributes__"), .str (Str.ofString "__static_attributes__") 410, .ref 178⟩, ⟨PyData.keyHash P (Str.ofString "__dict__"), .str (Str.ofString "__dict__") 412, .ref 181⟩, ⟨PyData.keyHash P (Str.ofString "__weakref__"), .str (Str.ofString "__weakref__") 414, .ref 182⟩, ⟨PyData.keyHash P (Str.ofString "__doc__"), .str (Str.ofString "__doc__") 415, .none⟩] 4, #[]⟩ : Obj)) ::
  (nat_lit 180, (⟨.type "type", none, .cls { name := Str.ofString "Name", bases := [.type "object"], mro := [.ref 180, .type "object"], ns := 179, qualname := Str.ofString "Name", hasDict := true, slotNames := [], subclasses := [], abstract := false, collection := none, hasDel := false }, #[none, none, (some (.str (Str.ofString "Name") 389)), (some (.str (Str.ofString "Name") 397)), (some (.builtin "object.__new__")), (some (.bool true))]⟩ : Obj)) ::
  (nat_lit 192, (⟨.type "tuple", none, .seq #[.bool false] 0, #[]⟩ : Obj)) ::
  (nat_lit 198, (⟨.type "code", none, .fields #[.str (Str.ofString "__init__") 430, .str (Str.ofString "String.__init__") 431, .str (Str.ofString "/claim/cut.py") 432, .int (77) 0, .int (3) 0, .int (0) 0, .int (0) 0, .int (3) 0, .ref 193, .bool true, .int (181) 0, .ref 194, .none, .ref 195, .ref 196, .ref 197, .int (436) 0, .int (77) 0, .str (Str.ofString "/claim/cut.py") 437], #[]⟩ : Obj)) ::
  (nat_lit 199, (⟨.type "function", none, .func (fnOf (Str.ofString "__init__") (Str.ofString "String.__init__") (fA (stc 12 0)) (fB (stc 12 0)) (fS (stc 12 0)) (.ref 192) (.none) (.none) (.str (Str.ofString "paperhold.objects") 387) none (.ref 198) (.none)), #[]⟩ : Obj)) ::
  (nat_lit 201, (⟨.type "dict", none, .dict #[⟨PyData.keyHash P (Str.ofString "__module__"), .str (Str.ofString "__module__") 425, .str (Str.ofString "paperhold.objects") 387⟩, ⟨PyData.keyHash P (Str.ofString "__firstlineno__"), .str (Str.ofString "__firstlineno__") 429, .int (75) 428⟩, ⟨PyData.keyHash P (Str.ofString "__init__"), .str (Str.ofString "__init__") 438, .ref 199⟩, ⟨PyData.keyHash P (Str.ofString "__static_attributes__"), .str (Str.ofString "__static_attributes__") 441, .ref 200⟩, ⟨PyData.keyHash P (Str.ofString "__dict__"), .str (Str.ofString "__dict__") 443, .ref 203⟩, ⟨PyData.keyHash P (Str.ofString "__weakref__"), .str (Str.ofString "__weakref__") 445, .ref 204⟩, ⟨PyData.keyHash P (Str.ofString "__doc__"), .str (Str.ofString "__doc__") 446, .none⟩] 4, #[]⟩ : Obj)) ::
  (nat_lit 202, (⟨.type "type", none, .cls { name := Str.ofString "String", bases := [.type "object"], mro := [.ref 202, .type "object"], ns := 201, qualname := Str.ofString "String", hasDict := true, slotNames := [], subclasses := [], abstract := false, collection := none, hasDel := false }, #[none, none, (some (.str (Str.ofString "String") 418)), (some (.str (Str.ofString "String") 426)), (some (.builtin "object.__new__")), (some (.bool true))]⟩ : Obj)) ::
  (nat_lit 222, (⟨.type "dict", none, .dict #[⟨PyData.keyHash P (Str.ofString "__module__"), .str (Str.ofString "__module__") 456, .str (Str.ofString "paperhold.objects") 387⟩, ⟨PyData.keyHash P (Str.ofString "__firstlineno__"), .str (Str.ofString "__firstlineno__") 460, .int (80) 459⟩, ⟨PyData.keyHash P (Str.ofString "__init__"), .str (Str.ofString "__init__") 469, .ref 220⟩, ⟨PyData.keyHash P (Str.ofString "__static_attributes__"), .str (Str.ofString "__static_attributes__") 472, .ref 221⟩, ⟨PyData.keyHash P (Str.ofString "__dict__"), .str (Str.ofString "__dict__") 474, .ref 224⟩, ⟨PyData.keyHash P (Str.ofString "__weakref__"), .str (Str.ofString "__weakref__") 476, .ref 225⟩, ⟨PyData.keyHash P (Str.ofString "__doc__"), .str (Str.ofString "__doc__") 477, .none⟩] 4, #[]⟩ : Obj)) ::
  (nat_lit 223, (⟨.type "type", none, .cls { name := Str.ofString "Stream", bases := [.type "object"], mro := [.ref 223, .type "object"], ns := 222, qualname := Str.ofString "Stream", hasDict := true, slotNames := [], subclasses := [], abstract := false, collection := none, hasDel := false }, #[none, none, (some (.str (Str.ofString "Stream") 449)), (some (.str (Str.ofString "Stream") 457)), (some (.builtin "object.__new__")), (some (.bool true))]⟩ : Obj)) ::
  (nat_lit 240, (⟨.type "code", none, .fields #[.str (Str.ofString "__init__") 492, .str (Str.ofString "Reference.__init__") 493, .str (Str.ofString "/claim/cut.py") 494, .int (87) 0, .int (3) 0, .int (0) 0, .int (0) 0, .int (3) 0, .ref 235, .bool true, .int (181) 0, .ref 236, .none, .ref 237, .ref 238, .ref 239, .int (498) 0, .int (87) 0, .str (Str.ofString "/claim/cut.py") 499], #[]⟩ : Obj)) ::
  (nat_lit 241, (⟨.type "function", none, .func (fnOf (Str.ofString "__init__") (Str.ofString "Reference.__init__") (fA (stc 14 0)) (fB (stc 14 0)) (fS (stc 14 0)) (.none) (.none) (.none) (.str (Str.ofString "paperhold.objects") 387) none (.ref 240) (.none)), #[]⟩ : Obj)) ::
  (nat_lit 250, (⟨.type "dict", none, .dict #[⟨PyData.keyHash P (Str.ofString "__module__"), .str (Str.ofString "__module__") 487, .str (Str.ofString "paperhold.objects") 387⟩, ⟨PyData.keyHash P (Str.ofString "__firstlineno__"), .str (Str.ofString "__firstlineno__") 491, .int (85) 490⟩, ⟨PyData.keyHash P (Str.ofString "__init__"), .str (Str.ofString "__init__") 500, .ref 241⟩, ⟨PyData.keyHash P (Str.ofString "pair"), .str (Str.ofString "pair") 507, .ref 248⟩, ⟨PyData.keyHash P (Str.ofString "__static_attributes__"), .str (Str.ofString "__static_attributes__") 510, .ref 249⟩, ⟨PyData.keyHash P (Str.ofString "__dict__"), .str (Str.ofString "__dict__") 512, .ref 252⟩, ⟨PyData.keyHash P (Str.ofString "__weakref__"), .str (Str.ofString "__weakref__") 514, .ref 253⟩, ⟨PyData.keyHash P (Str.ofString "__doc__"), .str (Str.ofString "__doc__") 515, .none⟩] 4, #[]⟩ : Obj)) ::
  (nat_lit 251, (⟨.type "type", none, .cls { name := Str.ofString "Reference", bases := [.type "object"], mro := [.ref 251, .type "object"], ns := 250, qualname := Str.ofString "Reference", hasDict := true, slotNames := [], subclasses := [], abstract := false, collection := none, hasDel := false }, #[none, none, (some (.str (Str.ofString "Reference") 480)), (some (.str (Str.ofString "Reference") 488)), (some (.builtin "object.__new__")), (some (.bool true))]⟩ : Obj)) ::
  (nat_lit 261, (⟨.type "code", none, .fields #[.str (Str.ofString "kind_of") 518, .str (Str.ofString "kind_of") 519, .str (Str.ofString "/claim/cut.py") 520, .int (93) 0, .int (1) 0, .int (0) 0, .int (0) 0, .int (3) 0, .ref 256, .bool true, .int (181) 0, .ref 257, .none, .ref 258, .ref 259, .ref 260, .int (522) 0, .int (93) 0, .str (Str.ofString "/claim/cut.py") 523], #[]⟩ : Obj)) ::
  (nat_lit 262, (⟨.type "function", none, .func (fnOf (Str.ofString "kind_of") (Str.ofString "kind_of") (fA (stp 15)) (fB (stp 15)) (fS (stp 15)) (.none) (.none) (.none) (.str (Str.ofString "paperhold.objects") 387) none (.ref 261) (.none)), #[]⟩ : Obj)) ::
  (nat_lit 266, (⟨.type "code", none, .fields #[.str (Str.ofString "text_octets") 541, .str (Str.ofString "text_octets") 542, .str (Str.ofString "/claim/cut.py") 543, .int (123) 0, .int (1) 0, .int (0) 0, .int (0) 0, .int (3) 0, .ref 263, .bool true, .int (181) 0, .ref 264, .none, .none, .none, .ref 265, .int (544) 0, .int (123) 0, .str (Str.ofString "/claim/cut.py") 545], #[]⟩ : Obj)) ::
  (nat_lit 267, (⟨.type "function", none, .func (fnOf (Str.ofString "text_octets") (Str.ofString "text_octets") (fA (stp 24)) (fB (stp 24)) (fS (stp 24)) (.none) (.none) (.none) (.str (Str.ofString "paperhold.writer") 525) none (.ref 266) (.none)), #[]⟩ : Obj)) ::
  (nat_lit 273, (⟨.type "code", none, .fields #[.str (Str.ofString "hex_pair") 547, .str (Str.ofString "hex_pair") 548, .str (Str.ofString "/claim/cut.py") 549, .int (125) 0, .int (1) 0, .int (0) 0, .int (0) 0, .int (3) 0, .ref 268, .bool true, .int (181) 0, .ref 269, .none, .ref 270, .ref 271, .ref 272, .int (551) 0, .int (125) 0, .str (Str.ofString "/claim/cut.py") 552], #[]⟩ : Obj)) ::
  (nat_lit 274, (⟨.type "function", none, .func (fnOf (Str.ofString "hex_pair") (Str.ofString "hex_pair") (fA (stp 25)) (fB (stp 25)) (fS (stp 25)) (.none) (.none) (.none) (.str (Str.ofString "paperhold.writer") 525) none (.ref 273) (.none)), #[]⟩ : Obj)) ::
  (nat_lit 280, (⟨.type "code", none, .fields #[.str (Str.ofString "name_octets") 554, .str (Str.ofString "name_octets") 555, .str (Str.ofString "/claim/cut.py") 556, .int (127) 0, .int (1) 0, .int (0) 0, .int (0) 0, .int (3) 0, .ref 275, .bool true, .int (181) 0, .ref 276, .none, .ref 277, .ref 278, .ref 279, .int (561) 0, .int (127) 0, .str (Str.ofString "/claim/cut.py") 562], #[]⟩ : Obj)) ::
  (nat_lit 281, (⟨.type "function", none, .func (fnOf (Str.ofString "name_octets") (Str.ofString "name_octets") (fA (stp 26)) (fB (stp 26)) (fS (stp 26)) (.none) (.none) (.none) (.str (Str.ofString "paperhold.writer") 525) none (.ref 280) (.none)), #[]⟩ : Obj)) ::
  (nat_lit 287, (⟨.type "code", none, .fields #[.str (Str.ofString "whole_octets") 564, .str (Str.ofString "whole_octets") 565, .str (Str.ofString "/claim/cut.py") 566, .int (139) 0, .int (1) 0, .int (0) 0, .int (0) 0, .int (3) 0, .ref 282, .bool true, .int (181) 0, .ref 283, .none, .ref 284, .ref 285, .ref 286, .int (568) 0, .int (139) 0, .str (Str.ofString "/claim/cut.py") 569], #[]⟩ : Obj)) ::
  (nat_lit 288, (⟨.type "function", none, .func (fnOf (Str.ofString "whole_octets") (Str.ofString "whole_octets") (fA (stp 27)) (fB (stp 27)) (fS (stp 27)) (.none) (.none) (.none) (.str (Str.ofString "paperhold.writer") 525) none (.ref 287) (.none)), #[]⟩ : Obj)) ::
  (nat_lit 299, (⟨.type "code", none, .fields #[.str (Str.ofString "lone_brackets") 577, .str (Str.ofString "lone_brackets") 578, .str (Str.ofString "/claim/cut.py") 579, .int (153) 0, .int (1) 0, .int (0) 0, .int (0) 0, .int (3) 0, .ref 294, .bool true, .int (181) 0, .ref 295, .none, .ref 296, .ref 297, .ref 298, .int (584) 0, .int (153) 0, .str (Str.ofString "/claim/cut.py") 585], #[]⟩ : Obj)) ::
  (nat_lit 300, (⟨.type "function", none, .func (fnOf (Str.ofString "lone_brackets") (Str.ofString "lone_brackets") (fA (stp 29)) (fB (stp 29)) (fS (stp 29)) (.none) (.none) (.none) (.str (Str.ofString "paperhold.writer") 525) none (.ref 299) (.none)), #[]⟩ : Obj)) ::
  (nat_lit 306, (⟨.type "code", none, .fields #[.str (Str.ofString "literal_octets") 587, .str (Str.ofString "literal_octets") 588, .str (Str.ofString "/claim/cut.py") 589, .int (167) 0, .int (1) 0, .int (0) 0, .int (0) 0, .int (3) 0, .ref 301, .bool true, .int (181) 0, .ref 302, .none, .ref 303, .ref 304, .ref 305, .int (595) 0, .int (167) 0, .str (Str.ofString "/claim/cut.py") 596], #[]⟩ : Obj)) ::
  (nat_lit 307, (⟨.type "function", none, .func (fnOf (Str.ofString "literal_octets") (Str.ofString "literal_octets") (fA (stp 30)) (fB (stp 30)) (fS (stp 30)) (.none) (.none) (.none) (.str (Str.ofString "paperhold.writer") 525) none (.ref 306) (.none)), #[]⟩ : Obj)) ::
  (nat_lit 313, (⟨.type "code", none, .fields #[.str (Str.ofString "hex_octets") 598, .str (Str.ofString "hex_octets") 599, .str (Str.ofString "/claim/cut.py") 600, .int (180) 0, .int (1) 0, .int (0) 0, .int (0) 0, .int (3) 0, .ref 308, .bool true, .int (181) 0, .ref 309, .none, .ref 310, .ref 311, .ref 312, .int (604) 0, .int (180) 0, .str (Str.ofString "/claim/cut.py") 605], #[]⟩ : Obj)) ::
  (nat_lit 314, (⟨.type "function", none, .func (fnOf (Str.ofString "hex_octets") (Str.ofString "hex_octets") (fA (stp 31)) (fB (stp 31)) (fS (stp 31)) (.none) (.none) (.none) (.str (Str.ofString "paperhold.writer") 525) none (.ref 313) (.none)), #[]⟩ : Obj)) ::
  (nat_lit 320, (⟨.type "code", none, .fields #[.str (Str.ofString "string_octets") 607, .str (Str.ofString "string_octets") 608, .str (Str.ofString "/claim/cut.py") 609, .int (186) 0, .int (2) 0, .int (0) 0, .int (0) 0, .int (3) 0, .ref 315, .bool true, .int (181) 0, .ref 316, .none, .ref 317, .ref 318, .ref 319, .int (614) 0, .int (186) 0, .str (Str.ofString "/claim/cut.py") 615], #[]⟩ : Obj)) ::
  (nat_lit 321, (⟨.type "function", none, .func (fnOf (Str.ofString "string_octets") (Str.ofString "string_octets") (fA (stp 32)) (fB (stp 32)) (fS (stp 32)) (.none) (.none) (.none) (.str (Str.ofString "paperhold.writer") 525) none (.ref 320) (.none)), #[]⟩ : Obj)) ::
  (nat_lit 327, (⟨.type "code", none, .fields #[.str (Str.ofString "plain_part") 617, .str (Str.ofString "plain_part") 618, .str (Str.ofString "/claim/cut.py") 619, .int (192) 0, .int (3) 0, .int (0) 0, .int (0) 0, .int (3) 0, .ref 322, .bool true, .int (181) 0, .ref 323, .none, .ref 324, .ref 325, .ref 326, .int (623) 0, .int (192) 0, .str (Str.ofString "/claim/cut.py") 624], #[]⟩ : Obj)) ::
  (nat_lit 328, (⟨.type "function", none, .func (fnOf (Str.ofString "plain_part") (Str.ofString "plain_part") (fA (stp 33)) (fB (stp 33)) (fS (stp 33)) (.none) (.none) (.none) (.str (Str.ofString "paperhold.writer") 525) none (.ref 327) (.none)), #[]⟩ : Obj)) ::
  (nat_lit 334, (⟨.type "code", none, .fields #[.str (Str.ofString "lay_reference") 626, .str (Str.ofString "lay_reference") 627, .str (Str.ofString "/claim/cut.py") 628, .int (206) 0, .int (2) 0, .int (0) 0, .int (0) 0, .int (3) 0, .ref 329, .bool true, .int (181) 0, .ref 330, .none, .ref 331, .ref 332, .ref 333, .int (631) 0, .int (206) 0, .str (Str.ofString "/claim/cut.py") 632], #[]⟩ : Obj)) ::
  (nat_lit 335, (⟨.type "function", none, .func (fnOf (Str.ofString "lay_reference") (Str.ofString "lay_reference") (fA (stp 34)) (fB (stp 34)) (fS (stp 34)) (.none) (.none) (.none) (.str (Str.ofString "paperhold.writer") 525) none (.ref 334) (.none)), #[]⟩ : Obj)) ::
  (nat_lit 341, (⟨.type "code", none, .fields #[.str (Str.ofString "lay_dict") 634, .str (Str.ofString "lay_dict") 635, .str (Str.ofString "/claim/cut.py") 636, .int (212) 0, .int (3) 0, .int (0) 0, .int (0) 0, .int (3) 0, .ref 336, .bool true, .int (181) 0, .ref 337, .none, .ref 338, .ref 339, .ref 340, .int (641) 0, .int (212) 0, .str (Str.ofString "/claim/cut.py") 642], #[]⟩ : Obj)) ::
  (nat_lit 342, (⟨.type "function", none, .func (fnOf (Str.ofString "lay_dict") (Str.ofString "lay_dict") (fA (stp 35)) (fB (stp 35)) (fS (stp 35)) (.none) (.none) (.none) (.str (Str.ofString "paperhold.writer") 525) none (.ref 341) (.none)), #[]⟩ : Obj)) ::
  (nat_lit 348, (⟨.type "code", none, .fields #[.str (Str.ofString "lay_parts") 644, .str (Str.ofString "lay_parts") 645, .str (Str.ofString "/claim/cut.py") 646, .int (219) 0, .int (3) 0, .int (0) 0, .int (0) 0, .int (3) 0, .ref 343, .bool true, .int (181) 0, .ref 344, .none, .ref 345, .ref 346, .ref 347, .int (652) 0, .int (219) 0, .str (Str.ofString "/claim/cut.py") 653], #[]⟩ : Obj)) ::
  (nat_lit 349, (⟨.type "function", none, .func (fnOf (Str.ofString "lay_parts") (Str.ofString "lay_parts") (fA (stp 36)) (fB (stp 36)) (fS (stp 36)) (.none) (.none) (.none) (.str (Str.ofString "paperhold.writer") 525) none (.ref 348) (.none)), #[]⟩ : Obj)) ::
  (nat_lit 355, (⟨.type "code", none, .fields #[.str (Str.ofString "run_together") 655, .str (Str.ofString "run_together") 656, .str (Str.ofString "/claim/cut.py") 657, .int (232) 0, .int (2) 0, .int (0) 0, .int (0) 0, .int (3) 0, .ref 350, .bool true, .int (181) 0, .ref 351, .none, .ref 352, .ref 353, .ref 354, .int (660) 0, .int (232) 0, .str (Str.ofString "/claim/cut.py") 661], #[]⟩ : Obj)) ::
  (nat_lit 356, (⟨.type "function", none, .func (fnOf (Str.ofString "run_together") (Str.ofString "run_together") (fA (stp 37)) (fB (stp 37)) (fS (stp 37)) (.none) (.none) (.none) (.str (Str.ofString "paperhold.writer") 525) none (.ref 355) (.none)), #[]⟩ : Obj)) ::
  (nat_lit 362, (⟨.type "code", none, .fields #[.str (Str.ofString "joined_parts") 663, .str (Str.ofString "joined_parts") 664, .str (Str.ofString "/claim/cut.py") 665, .int (234) 0, .int (2) 0, .int (0) 0, .int (0) 0, .int (3) 0, .ref 357, .bool true, .int (181) 0, .ref 358, .none, .ref 359, .ref 360, .ref 361, .int (670) 0, .int (234) 0, .str (Str.ofString "/claim/cut.py") 671], #[]⟩ : Obj)) ::
  (nat_lit 363, (⟨.type "function", none, .func (fnOf (Str.ofString "joined_parts") (Str.ofString "joined_parts") (fA (stp 38)) (fB (stp 38)) (fS (stp 38)) (.none) (.none) (.none) (.str (Str.ofString "paperhold.writer") 525) none (.ref 362) (.none)), #[]⟩ : Obj)) ::
  (nat_lit 367, (⟨.type "code", none, .fields #[.str (Str.ofString "_law_pen") 675, .str (Str.ofString "_law_pen") 676, .str (Str.ofString "/claim/cut.py") 677, .int (244) 0, .int (1) 0, .int (0) 0, .int (0) 0, .int (3) 0, .ref 364, .bool true, .int (181) 0, .ref 365, .none, .none, .none, .ref 366, .int (678) 0, .int (244) 0, .str (Str.ofString "/claim/cut.py") 679], #[]⟩ : Obj)) ::
  (nat_lit 368, (⟨.type "function", none, .func (fnOf (Str.ofString "_law_pen") (Str.ofString "_law_pen") (fA (stp 40)) (fB (stp 40)) (fS (stp 40)) (.none) (.none) (.none) (.str (Str.ofString "law_og0174_01") 673) none (.ref 367) (.none)), #[]⟩ : Obj)) ::
  (nat_lit 374, (⟨.type "code", none, .fields #[.str (Str.ofString "_law_draw") 681, .str (Str.ofString "_law_draw") 682, .str (Str.ofString "/claim/cut.py") 683, .int (246) 0, .int (2) 0, .int (0) 0, .int (0) 0, .int (3) 0, .ref 369, .bool true, .int (181) 0, .ref 370, .none, .ref 371, .ref 372, .ref 373, .int (687) 0, .int (246) 0, .str (Str.ofString "/claim/cut.py") 688], #[]⟩ : Obj)) ::
  (nat_lit 375, (⟨.type "function", none, .func (fnOf (Str.ofString "_law_draw") (Str.ofString "_law_draw") (fA (stp 41)) (fB (stp 41)) (fS (stp 41)) (.none) (.none) (.none) (.str (Str.ofString "law_og0174_01") 673) none (.ref 374) (.none)), #[]⟩ : Obj)) ::
  (nat_lit 381, (⟨.type "code", none, .fields #[.str (Str.ofString "_law_pick") 690, .str (Str.ofString "_law_pick") 691, .str (Str.ofString "/claim/cut.py") 692, .int (253) 0, .int (2) 0, .int (0) 0, .int (0) 0, .int (3) 0, .ref 376, .bool true, .int (181) 0, .ref 377, .none, .ref 378, .ref 379, .ref 380, .int (695) 0, .int (253) 0, .str (Str.ofString "/claim/cut.py") 696], #[]⟩ : Obj)) ::
  (nat_lit 382, (⟨.type "function", none, .func (fnOf (Str.ofString "_law_pick") (Str.ofString "_law_pick") (fA (stp 42)) (fB (stp 42)) (fS (stp 42)) (.none) (.none) (.none) (.str (Str.ofString "law_og0174_01") 673) none (.ref 381) (.none)), #[]⟩ : Obj)) ::
  (nat_lit 386, (⟨.type "code", none, .fields #[.str (Str.ofString "_law_object") 698, .str (Str.ofString "_law_object") 699, .str (Str.ofString "/claim/cut.py") 700, .int (255) 0, .int (2) 0, .int (0) 0, .int (0) 0, .int (3) 0, .ref 383, .bool true, .int (181) 0, .ref 384, .none, .none, .none, .ref 385, .int (701) 0, .int (255) 0, .str (Str.ofString "/claim/cut.py") 702], #[]⟩ : Obj)) ::
  (nat_lit 387, (⟨.type "function", none, .func (fnOf (Str.ofString "_law_object") (Str.ofString "_law_object") (fA (stp 43)) (fB (stp 43)) (fS (stp 43)) (.none) (.none) (.none) (.str (Str.ofString "law_og0174_01") 673) none (.ref 386) (.none)), #[]⟩ : Obj)) ::
  (nat_lit 391, (⟨.type "code", none, .fields #[.str (Str.ofString "_law_parts") 704, .str (Str.ofString "_law_parts") 705, .str (Str.ofString "/claim/cut.py") 706, .int (274) 0, .int (2) 0, .int (0) 0, .int (0) 0, .int (3) 0, .ref 388, .bool true, .int (181) 0, .ref 389, .none, .none, .none, .ref 390, .int (707) 0, .int (274) 0, .str (Str.ofString "/claim/cut.py") 708], #[]⟩ : Obj)) ::
  (nat_lit 392, (⟨.type "function", none, .func (fnOf (Str.ofString "_law_parts") (Str.ofString "_law_parts") (fA (stp 44)) (fB (stp 44)) (fS (stp 44)) (.none) (.none) (.none) (.str (Str.ofString "law_og0174_01") 673) none (.ref 391) (.none)), #[]⟩ : Obj)) ::
  (nat_lit 396, (⟨.type "code", none, .fields #[.str (Str.ofString "_law_is_one") 710, .str (Str.ofString "_law_is_one") 711, .str (Str.ofString "/claim/cut.py") 712, .int (288) 0, .int (2) 0, .int (0) 0, .int (0) 0, .int (3) 0, .ref 393, .bool true, .int (181) 0, .ref 394, .none, .none, .none, .ref 395, .int (713) 0, .int (288) 0, .str (Str.ofString "/claim/cut.py") 714], #[]⟩ : Obj)) ::
  (nat_lit 397, (⟨.type "function", none, .func (fnOf (Str.ofString "_law_is_one") (Str.ofString "_law_is_one") (fA (stp 45)) (fB (stp 45)) (fS (stp 45)) (.none) (.none) (.none) (.str (Str.ofString "law_og0174_01") 673) none (.ref 396) (.none)), #[]⟩ : Obj)) ::
  (nat_lit 403, (⟨.type "code", none, .fields #[.str (Str.ofString "law") 716, .str (Str.ofString "law") 717, .str (Str.ofString "/claim/cut.py") 718, .int (291) 0, .int (1) 0, .int (0) 0, .int (0) 0, .int (3) 0, .ref 398, .bool true, .int (181) 0, .ref 399, .none, .ref 400, .ref 401, .ref 402, .int (729) 0, .int (291) 0, .str (Str.ofString "/claim/cut.py") 730], #[]⟩ : Obj)) ::
  (nat_lit 404, (⟨.type "function", none, .func (fnOf (Str.ofString "law") (Str.ofString "law") (fA (stp 46)) (fB (stp 46)) (fS (stp 46)) (.none) (.none) (.none) (.str (Str.ofString "law_og0174_01") 673) none (.ref 403) (.none)), #[]⟩ : Obj)) ::
  []
def KA : List Addr := [2, 3, 22, 23, 29, 30, 151, 152, 176, 177, 179, 180, 192, 198, 199, 201, 202, 222, 223, 240, 241, 250, 251, 261, 262, 266, 267, 273, 274, 280, 281, 287, 288, 299, 300, 306, 307, 313, 314, 320, 321, 327, 328, 334, 335, 341, 342, 348, 349, 355, 356, 362, 363, 367, 368, 374, 375, 381, 382, 386, 387, 391, 392, 396, 397, 403, 404]

def QV : Program := view PySem.Challenge.pw_og0174_01 [46]
def LO : List Str := [Str.ofString "_wall", Str.ofString "WHITE", Str.ofString "DELIMITERS", Str.ofString "is_regular", Str.ofString "PaperError", Str.ofString "Decimal", Str.ofString "sign_text", Str.ofString "Name", Str.ofString "String", Str.ofString "Stream", Str.ofString "Reference", Str.ofString "kind_of", Str.ofString "MOST_NUMBER", Str.ofString "BACKSLASH", Str.ofString "OPEN_BRACKET", Str.ofString "CLOSE_BRACKET", Str.ofString "CARRIAGE", Str.ofString "NUMBER_SIGN", Str.ofString "HEX_FIGURES", Str.ofString "text_octets", Str.ofString "hex_pair", Str.ofString "name_octets", Str.ofString "whole_octets", Str.ofString "decimal_octets", Str.ofString "lone_brackets", Str.ofString "literal_octets", Str.ofString "hex_octets", Str.ofString "string_octets", Str.ofString "plain_part", Str.ofString "lay_reference", Str.ofString "lay_dict", Str.ofString "lay_parts", Str.ofString "run_together", Str.ofString "joined_parts", Str.ofString "_law_pen", Str.ofString "_law_draw", Str.ofString "_law_pick", Str.ofString "_law_object", Str.ofString "_law_parts", Str.ofString "_law_is_one"]
end
section
noncomputable def leftL (w : World) := (openEnds treeTable PySem.Challenge.pw_og0174_01 w 5600).map (fun s => (openSeen QV LO (importedModules PySem.Challenge.pw_og0174_01.main.body) (fun s => xlAt QV [] s && recOk (RowW.records PySem.Challenge.rw_og0174_01.row.toRowW) s) true s, KA.map s.heap.get?))
noncomputable def leftR (w : World) := some (openGood QV LO, (KF w.params).map fun p => some p.2)
lay_quick Mine.leftL Mine.leftR
end
section
theorem left_ok (w : World) : PySem.W.Fast.tw1185107308194267583 w = PySem.W.Fast.tw11439460737713216136 w := by kernel_rfl
theorem left_all (w : World) : leftL w = leftR w := (congrFun PySem.W.Fast.te1185107308194267583 w).trans ((left_ok w).trans (congrFun PySem.W.Fast.te11439460737713216136 w).symm)
end
section
theorem enter {w : World} {dp un : Nat} {gd : Option (List Code)} {cn : Str} {cs : Scope} {a : Addr} {ccd : Value} {cl : List (Str × Addr)} {outer : List Env} {A₀ : Around} {base h₀ : Heap} {L : Addr} {m : Str → Option Value} {news : List (Addr × Obj)} {s : Shared}
  {Q E : Value → Shared → Prop} {qq : Program} {loose : List Str} {mean : ExcName → Option Value} {mg mb : Str → Option Value}
  {name qual : Str} {po as_ : List Arg} {va : Option Arg} {ko : List Arg} {kd : List (Option PySem.Expr)} {kw : Option Arg} {ds : List PySem.Expr} {s0 : Stmt} {rest : List Stmt} {sk : ScopeKind} {sn : List (Str × NameKind)} {sg sc : Bool} {sm : List (Str × Const)}
  {dV kV doc pm cdv ct oc : Value} {an od : Option Addr} {osl : Array (Option Value)} {f : Addr} {args : List Value} (binds : List (Str × Value))
  (B : Below A₀ base outer h₀) (F : Fr h₀ L s.heap m) (X : (KF w.params).In h₀) (N : News h₀ L s.heap news) (T : Top qq loose mean mg mb h₀) (hk : cs.kind = .function)
  (ho : (KF w.params).lookup f = some ⟨oc, od, .func (fnOf name qual ⟨po, as_, va, ko, kd, kw, ds⟩ (s0 :: rest) ⟨sk, sn, sg, sc, sm⟩ dV kV doc pm an cdv ct), osl⟩)
  (hcd : codeIn (KF w.params) cdv qual = true) (hroom : dp < 999)
  (hbind : BindsTo s (fnOf name qual ⟨po, as_, va, ko, kd, kw, ds⟩ (s0 :: rest) ⟨sk, sn, sg, sc, sm⟩ dV kV doc pm an cdv ct) ⟨args, []⟩ binds)
  (hloc : (binds.all fun x => decide ((⟨sk, sn, sg, sc, sm⟩ : Scope).names.lookup x.1 = some .local)) = true)
  (hsc : sc = false) (hsg : sg = false) (hsk : sk = .function) (hcell : (sn.all fun x => decide (x.2 ≠ .cell)) = true)
  (h : ∀ g L' h₁ tk, Fr h₀ L g m → Fr g L' h₁ (fun y => binds.reverse.lookup y) → News g L' h₁ news → Below (ktrTop dp un gd cn cs L a ccd cl outer) base (envX cn cs L a ccd cl :: outer) g → (KF w.params).In g → Top qq loose mean mg mb g →
    wpAny (model PySem.Challenge.rw_og0174_01.row.prog w) (ktrTop (dp + 1) (un + 3) gd qual ⟨sk, sn, sg, sc, sm⟩ L' f cdv [] (envX cn cs L a ccd cl :: outer)) (execs (s0 :: rest) (envOf qual ⟨sk, sn, sg, sc, sm⟩ L' f cdv))
      (fun fl s' => LeaveK h₀ L m g (fun r s' => match r with | .ok (.ret v) => Q v s' | _ => False) (match fl with | .ret v => v | _ => .none) s')
      (fun _ _ => False) { s with heap := h₁, toks := tk }) :
  wpAny (model PySem.Challenge.rw_og0174_01.row.prog w) (ktrTop dp un gd cn cs L a ccd cl outer) (call (.ref f) args) Q E s := by
  refine wpAny_call ?_
  refine code_def B F X N T rfl rfl hk ho hcd (by show dp < 1000; omega) hbind (locs hloc) ?_ hsc hsg hsk (fun x hx => of_decide_eq_true (List.all_eq_true.mp hcell x hx))
  intro g L' h₁ FG F' N' B' X' T'
  refine wpAny_mono (h g L' h₁ _ FG F' N' B' X' T') (fun fl s' hl => ?_) (fun _ _ x => x.elim)
  obtain ⟨L2, m2, news2, f2, n2, k2⟩ := hl
  exact ⟨L2, m2, news2, f2, n2, fun x y => by have := k2 x y; revert this; cases fl <;> exact id⟩
theorem enter1 {w : World} {dp un : Nat} {gd : Option (List Code)} {cn : Str} {cs : Scope} {a : Addr} {ccd : Value} {cl : List (Str × Addr)} {outer : List Env} {A₀ : Around} {base h₀ : Heap} {L : Addr} {m : Str → Option Value} {news : List (Addr × Obj)} {s : Shared}
  {Q E : Value → Shared → Prop} {qq : Program} {loose : List Str} {mean : ExcName → Option Value} {mg mb : Str → Option Value}
  {name qual : Str} {po as_ : List Arg} {va : Option Arg} {ko : List Arg} {kd : List (Option PySem.Expr)} {kw : Option Arg} {ds : List PySem.Expr} {s0 : Stmt} {rest : List Stmt} {sk : ScopeKind} {sn : List (Str × NameKind)} {sg sc : Bool} {sm : List (Str × Const)}
  {dV kV doc pm cdv ct oc : Value} {an od : Option Addr} {osl : Array (Option Value)} {f : Addr} {v1 : Value} (n1 : Str)
  (B : Below A₀ base outer h₀) (F : Fr h₀ L s.heap m) (X : (KF w.params).In h₀) (N : News h₀ L s.heap news) (T : Top qq loose mean mg mb h₀) (hk : cs.kind = .function)
  (ho : (KF w.params).lookup f = some ⟨oc, od, .func (fnOf name qual ⟨po, as_, va, ko, kd, kw, ds⟩ (s0 :: rest) ⟨sk, sn, sg, sc, sm⟩ dV kV doc pm an cdv ct), osl⟩)
  (hcd : codeIn (KF w.params) cdv qual = true) (hroom : dp < 999)
  (hbind : BindsTo s (fnOf name qual ⟨po, as_, va, ko, kd, kw, ds⟩ (s0 :: rest) ⟨sk, sn, sg, sc, sm⟩ dV kV doc pm an cdv ct) ⟨[v1], []⟩ [(n1, v1)])
  (hloc : ((([(n1, v1)] : List (Str × Value))).all fun x => decide ((⟨sk, sn, sg, sc, sm⟩ : Scope).names.lookup x.1 = some .local)) = true)
  (hsc : sc = false) (hsg : sg = false) (hsk : sk = .function) (hcell : (sn.all fun x => decide (x.2 ≠ .cell)) = true)
  (h : ∀ g L' h₁ tk, Fr h₀ L g m → Fr g L' h₁ (fun y => ([(n1, v1)] : List (Str × Value)).reverse.lookup y) → News g L' h₁ news → Below (ktrTop dp un gd cn cs L a ccd cl outer) base (envX cn cs L a ccd cl :: outer) g → (KF w.params).In g → Top qq loose mean mg mb g →
    wpAny (model PySem.Challenge.rw_og0174_01.row.prog w) (ktrTop (dp + 1) (un + 3) gd qual ⟨sk, sn, sg, sc, sm⟩ L' f cdv [] (envX cn cs L a ccd cl :: outer)) (execs (s0 :: rest) (envOf qual ⟨sk, sn, sg, sc, sm⟩ L' f cdv))
      (fun fl s' => LeaveK h₀ L m g (fun r s' => match r with | .ok (.ret v) => Q v s' | _ => False) (match fl with | .ret v => v | _ => .none) s')
      (fun _ _ => False) { s with heap := h₁, toks := tk }) :
  wpAny (model PySem.Challenge.rw_og0174_01.row.prog w) (ktrTop dp un gd cn cs L a ccd cl outer) (call (.ref f) [v1]) Q E s :=
  enter [(n1, v1)] B F X N T hk ho hcd hroom hbind hloc hsc hsg hsk hcell h
theorem enter2 {w : World} {dp un : Nat} {gd : Option (List Code)} {cn : Str} {cs : Scope} {a : Addr} {ccd : Value} {cl : List (Str × Addr)} {outer : List Env} {A₀ : Around} {base h₀ : Heap} {L : Addr} {m : Str → Option Value} {news : List (Addr × Obj)} {s : Shared}
  {Q E : Value → Shared → Prop} {qq : Program} {loose : List Str} {mean : ExcName → Option Value} {mg mb : Str → Option Value}
  {name qual : Str} {po as_ : List Arg} {va : Option Arg} {ko : List Arg} {kd : List (Option PySem.Expr)} {kw : Option Arg} {ds : List PySem.Expr} {s0 : Stmt} {rest : List Stmt} {sk : ScopeKind} {sn : List (Str × NameKind)} {sg sc : Bool} {sm : List (Str × Const)}
  {dV kV doc pm cdv ct oc : Value} {an od : Option Addr} {osl : Array (Option Value)} {f : Addr} {v1 : Value} {v2 : Value} (n1 : Str) (n2 : Str)
  (B : Below A₀ base outer h₀) (F : Fr h₀ L s.heap m) (X : (KF w.params).In h₀) (N : News h₀ L s.heap news) (T : Top qq loose mean mg mb h₀) (hk : cs.kind = .function)
  (ho : (KF w.params).lookup f = some ⟨oc, od, .func (fnOf name qual ⟨po, as_, va, ko, kd, kw, ds⟩ (s0 :: rest) ⟨sk, sn, sg, sc, sm⟩ dV kV doc pm an cdv ct), osl⟩)
  (hcd : codeIn (KF w.params) cdv qual = true) (hroom : dp < 999)
  (hbind : BindsTo s (fnOf name qual ⟨po, as_, va, ko, kd, kw, ds⟩ (s0 :: rest) ⟨sk, sn, sg, sc, sm⟩ dV kV doc pm an cdv ct) ⟨[v1, v2], []⟩ [(n1, v1), (n2, v2)])
  (hloc : ((([(n1, v1), (n2, v2)] : List (Str × Value))).all fun x => decide ((⟨sk, sn, sg, sc, sm⟩ : Scope).names.lookup x.1 = some .local)) = true)
  (hsc : sc = false) (hsg : sg = false) (hsk : sk = .function) (hcell : (sn.all fun x => decide (x.2 ≠ .cell)) = true)
  (h : ∀ g L' h₁ tk, Fr h₀ L g m → Fr g L' h₁ (fun y => ([(n1, v1), (n2, v2)] : List (Str × Value)).reverse.lookup y) → News g L' h₁ news → Below (ktrTop dp un gd cn cs L a ccd cl outer) base (envX cn cs L a ccd cl :: outer) g → (KF w.params).In g → Top qq loose mean mg mb g →
    wpAny (model PySem.Challenge.rw_og0174_01.row.prog w) (ktrTop (dp + 1) (un + 3) gd qual ⟨sk, sn, sg, sc, sm⟩ L' f cdv [] (envX cn cs L a ccd cl :: outer)) (execs (s0 :: rest) (envOf qual ⟨sk, sn, sg, sc, sm⟩ L' f cdv))
      (fun fl s' => LeaveK h₀ L m g (fun r s' => match r with | .ok (.ret v) => Q v s' | _ => False) (match fl with | .ret v => v | _ => .none) s')
      (fun _ _ => False) { s with heap := h₁, toks := tk }) :
  wpAny (model PySem.Challenge.rw_og0174_01.row.prog w) (ktrTop dp un gd cn cs L a ccd cl outer) (call (.ref f) [v1, v2]) Q E s :=
  enter [(n1, v1), (n2, v2)] B F X N T hk ho hcd hroom hbind hloc hsc hsg hsk hcell h
theorem enter3 {w : World} {dp un : Nat} {gd : Option (List Code)} {cn : Str} {cs : Scope} {a : Addr} {ccd : Value} {cl : List (Str × Addr)} {outer : List Env} {A₀ : Around} {base h₀ : Heap} {L : Addr} {m : Str → Option Value} {news : List (Addr × Obj)} {s : Shared}
  {Q E : Value → Shared → Prop} {qq : Program} {loose : List Str} {mean : ExcName → Option Value} {mg mb : Str → Option Value}
  {name qual : Str} {po as_ : List Arg} {va : Option Arg} {ko : List Arg} {kd : List (Option PySem.Expr)} {kw : Option Arg} {ds : List PySem.Expr} {s0 : Stmt} {rest : List Stmt} {sk : ScopeKind} {sn : List (Str × NameKind)} {sg sc : Bool} {sm : List (Str × Const)}
  {dV kV doc pm cdv ct oc : Value} {an od : Option Addr} {osl : Array (Option Value)} {f : Addr} {v1 : Value} {v2 : Value} {v3 : Value} (n1 : Str) (n2 : Str) (n3 : Str)
  (B : Below A₀ base outer h₀) (F : Fr h₀ L s.heap m) (X : (KF w.params).In h₀) (N : News h₀ L s.heap news) (T : Top qq loose mean mg mb h₀) (hk : cs.kind = .function)
  (ho : (KF w.params).lookup f = some ⟨oc, od, .func (fnOf name qual ⟨po, as_, va, ko, kd, kw, ds⟩ (s0 :: rest) ⟨sk, sn, sg, sc, sm⟩ dV kV doc pm an cdv ct), osl⟩)
  (hcd : codeIn (KF w.params) cdv qual = true) (hroom : dp < 999)
  (hbind : BindsTo s (fnOf name qual ⟨po, as_, va, ko, kd, kw, ds⟩ (s0 :: rest) ⟨sk, sn, sg, sc, sm⟩ dV kV doc pm an cdv ct) ⟨[v1, v2, v3], []⟩ [(n1, v1), (n2, v2), (n3, v3)])
  (hloc : ((([(n1, v1), (n2, v2), (n3, v3)] : List (Str × Value))).all fun x => decide ((⟨sk, sn, sg, sc, sm⟩ : Scope).names.lookup x.1 = some .local)) = true)
  (hsc : sc = false) (hsg : sg = false) (hsk : sk = .function) (hcell : (sn.all fun x => decide (x.2 ≠ .cell)) = true)
  (h : ∀ g L' h₁ tk, Fr h₀ L g m → Fr g L' h₁ (fun y => ([(n1, v1), (n2, v2), (n3, v3)] : List (Str × Value)).reverse.lookup y) → News g L' h₁ news → Below (ktrTop dp un gd cn cs L a ccd cl outer) base (envX cn cs L a ccd cl :: outer) g → (KF w.params).In g → Top qq loose mean mg mb g →
    wpAny (model PySem.Challenge.rw_og0174_01.row.prog w) (ktrTop (dp + 1) (un + 3) gd qual ⟨sk, sn, sg, sc, sm⟩ L' f cdv [] (envX cn cs L a ccd cl :: outer)) (execs (s0 :: rest) (envOf qual ⟨sk, sn, sg, sc, sm⟩ L' f cdv))
      (fun fl s' => LeaveK h₀ L m g (fun r s' => match r with | .ok (.ret v) => Q v s' | _ => False) (match fl with | .ret v => v | _ => .none) s')
      (fun _ _ => False) { s with heap := h₁, toks := tk }) :
  wpAny (model PySem.Challenge.rw_og0174_01.row.prog w) (ktrTop dp un gd cn cs L a ccd cl outer) (call (.ref f) [v1, v2, v3]) Q E s :=
  enter [(n1, v1), (n2, v2), (n3, v3)] B F X N T hk ho hcd hroom hbind hloc hsc hsg hsk hcell h
theorem qbool {Q : Value → Shared → Prop} {b b' : Bool} {s : Shared} (h : Q (.bool b') s) (e : b = b') : Q (.bool b) s := e ▸ h
theorem len_any {prog : Program} {w : World} {A : Around} {E : Value → Shared → Prop} {s : Shared} {l : Addr} {items : List Value} {Q : Value → Shared → Prop} (hl : s.heap.IsList l items.toArray) (hz : items.length ≤ 1000)
    (h : ∀ tk tk', Q (.int items.length tk) { s with toks := tk' }) : wpAny (model prog w) A (call (.builtin "len") [.ref l]) Q E s :=
  Calls.call_len_list hl (by simp only [List.size_toArray]; omega) (by simp only [List.size_toArray]; exact h _ _)
theorem item_any {prog : Program} {w : World} {A : Around} {E : Value → Shared → Prop} {s : Shared} {value slice : PySem.Expr} {l : Addr} {vs : List Value} {k : Int} {u : Tok} {Q : Value → Shared → Prop} (hl : s.heap.IsList l vs.toArray) (h0 : 0 ≤ k) (h1 : k < vs.length) (hz : vs.length ≤ 1000)
   (h : ∀ v, v ∈ vs → Q v s) (hs : subscripted slice false (.ref l) (.int k u) = operate [.ref l, .int k u] (getItem (.ref l) (.int k u)) := by with_unfolding_all rfl) :
    wpAny (model prog w) A (subscriptTail value slice (.ref l) (.int k u)) Q E s := by
  have hlt : k.toNat < vs.length := by omega
  exact item_litK hl h0 (by omega) (List.getElem?_eq_getElem hlt) (h _ (List.getElem_mem hlt)) hs
theorem unr_end {h₀ : Heap} {L I : Addr} {it : Obj} {rest : (Str → Option Value) → List (Addr × Obj) → Prop} {s₁ : Shared} {h' : Heap} {tk : Nat} {m' : Str → Option Value} {news' : List (Addr × Obj)} (F : Fr h₀ L h' m') (N : News h₀ L h' ((I, it) :: news'))
  (off : ∀ p ∈ news', p.1 ≠ I) (r : rest m' news') : UnrEnd h₀ L s₁ I it rest { s₁ with heap := h', toks := tk } := UnrEnd.intro F N news' (fun _ h => h) off r
theorem news_tail {h₀ h : Heap} {L : Addr} {q : Addr × Obj} {l : List (Addr × Obj)} (N : News h₀ L h (q :: l)) : News h₀ L h l := fun x hx => N x (.tail _ hx)
theorem news_drop3 {h₀ h : Heap} {L : Addr} {x y z : Addr × Obj} {l : List (Addr × Obj)} (N : News h₀ L h (x :: y :: z :: l)) : News h₀ L h (x :: y :: l) := fun q hq => N q (by
  rcases List.mem_cons.mp hq with rfl | hq
  · exact .head _
  · rcases List.mem_cons.mp hq with rfl | hq
    · exact .tail _ (.head _)
    · exact .tail _ (.tail _ (.tail _ hq)))
theorem news_sub {h₀ h : Heap} {L : Addr} {l l' : List (Addr × Obj)} (N : News h₀ L h l) (hs : ∀ q ∈ l', q ∈ l) : News h₀ L h l' := fun x hx => N x (hs x hx)
theorem dec_cons_nil {α : Type} [DecidableEq α] (a : α) (l : List α) : decide (a :: l = []) = false := by simp
theorem dec_nil_nil {α : Type} [DecidableEq α] : decide (([] : List α) = []) = true := by simp
theorem seqIndex0 (v : Value) (vs : List Value) : seqIndex? 0 (v :: vs).toArray.size = some 0 := by
  unfold seqIndex?
  simp
end
section
abbrev Led := List (Addr × Obj)
section
variable {prog : Program} {w : World} {A : Around} {E : Value → Shared → Prop} {s : Shared} {env : Env} {h₀ : Heap} {x : Str} {body : List Stmt} {Q : Flow → Shared → Prop} {m₀ : Str → Option Value} {news : Led}

theorem UnrPost.mono {L I : Addr} {s₁ : Shared} {it : Obj} {P P' : (Str → Option Value) → Led → Prop} (h : ∀ m n, P m n → P' m n) {f : Flow} {s₂ : Shared} (u : UnrPost h₀ L s₁ I it P Q f s₂) : UnrPost h₀ L s₁ I it P' Q f s₂ := by
  cases f with
  | ret v => exact u
  | brk => exact u
  | next => obtain ⟨h', tk, m', n', e, F, N, o, r⟩ := u; exact ⟨h', tk, m', n', e, F, N, o, h _ _ r⟩
  | cont => obtain ⟨h', tk, m', n', e, F, N, o, r⟩ := u; exact ⟨h', tk, m', n', e, F, N, o, h _ _ r⟩

theorem iter_strInv {tx : Str} {t : Tok} (P : List Nat → (Str → Option Value) → Led → Prop) (hh : A.handled = none) (F : Fr h₀ env.locals s.heap m₀) (N : News h₀ env.locals s.heap news) (hP : P tx.cps.toList m₀ news)
  (turn : ∀ c r m nw I it u h tk, P (c :: r) m nw → (∀ p ∈ nw, @Ne Nat p.1 I) → Fr h₀ env.locals h (fun y => if y = x then some (.str ⟨#[c]⟩ u) else m y) → News h₀ env.locals h ((I, it) :: nw) →
    wpAny (model prog w) A (execs body env) (UnrPost h₀ env.locals { s with heap := h, toks := tk } I it (P r) Q) E { s with heap := h, toks := tk })
  (done : ∀ m nw h tk, P [] m nw → Fr h₀ env.locals h m → News h₀ env.locals h nw → Q .next { s with heap := h, toks := tk }) :
  wpAny (model prog w) A (pyIter (.str tx t)) (fun it s₂ => LoopAtV prog w A h₀ env x body Q E it s₂) E s := by
  refine iter_strUnr hh F N rfl fun I hI => ?_
  have key : ∀ (l : List Nat) m nw, P l m nw → (∀ p ∈ nw, @Ne Nat p.1 I) → StrRest prog w A E h₀ env x body Q s I (l.map (fun c => (⟨#[c]⟩ : Str))) m nw := by
    intro l
    induction l with
    | nil => intro m nw h _; exact StrRest.zero fun g tk F' N' => done m nw g tk h F' N'
    | cons c r ih =>
      intro m nw h off
      refine StrRest.succ fun u it g tk F' N' => ?_
      refine wpAny_mono (turn c r m nw I it u g tk h off F' N') (fun f s₂ p => ?_) fun _ _ e => e
      cases f with
      | ret v => exact p
      | brk => exact p
      | next => obtain ⟨h', tk, m', n', e, F, N, o, r⟩ := p; exact ⟨h', tk, m', n', e, F, N, o, ih _ _ r o⟩
      | cont => obtain ⟨h', tk, m', n', e, F, N, o, r⟩ := p; exact ⟨h', tk, m', n', e, F, N, o, ih _ _ r o⟩
  exact key _ _ _ hP fun p hp => Nat.ne_of_lt (hI p hp)

theorem iter_rangeInv {r : Addr} {a₀ b₀ : Int} {t₀ u₀ v₀ : Tok} {n : Nat} (P : Nat → (Str → Option Value) → Led → Prop) (hh : A.handled = none) (hr : IsRange s.heap r a₀ b₀ 1 t₀ u₀ v₀) (hsmall : Builtin.Range.small a₀ b₀ 1 = true) (hn : Builtin.Range.rangeSize a₀ b₀ 1 = (n : Int))
  (F : Fr h₀ env.locals s.heap m₀) (N : News h₀ env.locals s.heap news) (hP : P 0 m₀ news)
  (turn : ∀ i m nw I it t h tk, i < n → P i m nw → (∀ p ∈ nw, @Ne Nat p.1 I) → Fr h₀ env.locals h (fun y => if y = x then some (.int (a₀ + (i : Int)) t) else m y) → News h₀ env.locals h ((I, it) :: nw) →
    wpAny (model prog w) A (execs body env) (UnrPost h₀ env.locals { s with heap := h, toks := tk } I it (P (i + 1)) Q) E { s with heap := h, toks := tk })
  (done : ∀ m nw h tk, P n m nw → Fr h₀ env.locals h m → News h₀ env.locals h nw → Q .next { s with heap := h, toks := tk }) :
  wpAny (model prog w) A (pyIter (.ref r)) (fun it s₂ => LoopAtV prog w A h₀ env x body Q E it s₂) E s := by
  refine iter_rangeUnr hh hr hsmall hn F N fun I hI => ?_
  have key : ∀ (k i : Nat) m nw, i + k = n → P i m nw → (∀ p ∈ nw, @Ne Nat p.1 I) → RangeRest prog w A E h₀ env x body Q s I a₀ n k i m nw := by
    intro k
    induction k with
    | zero => intro i m nw e h _; obtain rfl : i = n := by omega
              exact RangeRest.zero fun g tk F' N' => done m nw g tk h F' N'
    | succ k ih =>
      intro i m nw e h off
      refine RangeRest.succ fun t g tk F' N' => ?_
      refine wpAny_mono (turn i m nw I _ t g tk (by omega) h off F' N') (fun f s₂ p => ?_) fun _ _ e => e
      cases f with
      | ret v => exact p
      | brk => exact p
      | next => obtain ⟨h', tk, m', n', e', F, N, o, r⟩ := p; exact ⟨h', tk, m', n', e', F, N, o, ih _ _ _ (by omega) r o⟩
      | cont => obtain ⟨h', tk, m', n', e', F, N, o, r⟩ := p; exact ⟨h', tk, m', n', e', F, N, o, ih _ _ _ (by omega) r o⟩
  exact key n 0 _ _ (by omega) hP fun p hp => Nat.ne_of_lt (hI p hp)

theorem iter_listInv {ax : Addr} {its : List Value} {k : Nat} (P : List Value → (Str → Option Value) → Led → Prop) (hh : A.handled = none)
  (F : Fr h₀ env.locals s.heap m₀) (N : News h₀ env.locals s.heap news) (hP : P its m₀ news) (hkeep : ∀ l m nw, P l m nw → (ax, listOf its.toArray k) ∈ nw)
  (turn : ∀ v r m nw I it h tk, P (v :: r) m nw → (∀ p ∈ nw, @Ne Nat p.1 I) → Fr h₀ env.locals h (fun y => if y = x then some v else m y) → News h₀ env.locals h ((I, it) :: nw) →
    wpAny (model prog w) A (execs body env) (UnrPost h₀ env.locals { s with heap := h, toks := tk } I it (P r) Q) E { s with heap := h, toks := tk })
  (done : ∀ m nw h tk, P [] m nw → Fr h₀ env.locals h m → News h₀ env.locals h nw → Q .next { s with heap := h, toks := tk }) :
  wpAny (model prog w) A (pyIter (.ref ax)) (fun it s₂ => LoopAtV prog w A h₀ env x body Q E it s₂) E s := by
  have hmem := hkeep _ _ _ hP
  have hg := (N _ hmem).1
  have hl : s.heap.IsList ax its.toArray := ⟨_, hg, rfl, k, rfl⟩
  have hlt : ax < s.heap.objs.size := Heap.lt_size hg
  have hne : ax ≠ s.heap.objs.size := Nat.ne_of_lt hlt
  have hax0 : h₀.get? ax = none := (N _ hmem).2.2
  have haxL : ax ≠ env.locals := (N _ hmem).2.1
  have hnew := next_is_new F
  refine wpAny_pyIter_list hl ?_
  have W := Walks.list (prog := prog) (w := w) hh s.heap.objs.size ax hne its.toArray
  let J : Nat → (Str → Option Value) → Led → Prop := fun i m nw => P (its.drop i) m nw
  have hJ0 : J 0 m₀ news := by show P (its.drop 0) m₀ news; rw [List.drop_zero]; exact hP
  refine ⟨_, _, _, its.toArray.size, _, _, m₀, news, J, rfl, W, ?_, ?_, ?_, ⟨⟨_, Heap.get?_push_size _ rfl, rfl, rfl⟩, hl.push _⟩, F.push _, (fun p hp => ⟨Heap.get?_push_of_some _ (N p hp).1, (N p hp).2⟩), hJ0, ?_, ?_⟩
  · intro hm
    rcases List.mem_cons.mp hm with e | hm
    · exact absurd F.ns.lt (e ▸ Nat.lt_irrefl _)
    · exact haxL (List.mem_singleton.mp hm).symm
  · intro b hb
    rw [List.mem_singleton.mp hb]
    exact hnew
  · intro p hp hI
    exact absurd (Heap.lt_size (N p hp).1) ((List.mem_singleton.mp hI) ▸ Nat.lt_irrefl _)
  · rintro i v m₁ news₁ s₁ own ⟨hh', tk', rfl⟩ hin hPv hJ hoff hown hget hall hst F₁ N₁
    obtain ⟨⟨oi, hoi, _⟩, _⟩ := hst
    have hI : (s.heap.objs.size, oi) ∈ own := hall _ (.head _) hnew oi hoi
    have hlen : i < its.length := by simpa using hin
    have hv : its[i]? = some v := by simpa using hPv
    have hdrop : its.drop i = v :: its.drop (i + 1) := by
      rw [List.drop_eq_getElem_cons hlen]
      congr 1
      exact Option.some.inj ((List.getElem?_eq_getElem hlen).symm.trans hv)
    have hJ' : P (its.drop i) m₁ news₁ := hJ
    rw [hdrop] at hJ'
    have N₂ : News h₀ env.locals hh' ((s.heap.objs.size, oi) :: news₁) := fun p hp => by
      rcases List.mem_cons.mp hp with rfl | hp
      · exact N₁ _ (List.mem_append_left _ hI)
      · exact N₁ _ (List.mem_append_right _ hp)
    refine wpAny_mono (turn v _ m₁ news₁ _ oi hh' tk' hJ' (fun p hp e => hoff p hp (by rw [show p.1 = s.heap.objs.size from e]; exact .head _)) F₁ N₂) (fun f s₂ p => ?_) fun _ _ e => e
    have fin : UnrEnd h₀ env.locals { s with heap := hh', toks := tk' } s.heap.objs.size oi (P (its.drop (i + 1))) s₂ →
        LoopStepU h₀ env.locals [s.heap.objs.size] own (J (i + 1)) { s with heap := hh', toks := tk' } .next s₂ := by
      rintro ⟨h', tk, m', news', e, F', N', ho, r⟩
      refine ⟨rfl, h', tk, m', news', e, F', fun p hp => ?_, fun p hp hI => ho p hp (List.mem_singleton.mp hI), r⟩
      rcases List.mem_append.mp hp with hp | hp
      · have h2 : hh'.get? p.1 = some p.2 := hget p hp
        rcases List.mem_cons.mp (hown p hp) with e1 | e1
        · rw [e1, hoi] at h2
          have h3 : p = (s.heap.objs.size, oi) := Prod.ext e1 (Option.some.inj h2).symm
          rw [h3]; exact N' _ (List.mem_cons_self ..)
        · have e1 := List.mem_singleton.mp e1
          have h4 := (N₁ _ (List.mem_append_right _ (hkeep _ _ _ hJ'))).1
          rw [e1] at h2
          rw [show hh'.get? ax = some (listOf its.toArray k) from h4] at h2
          have h3 : p = (ax, listOf its.toArray k) := Prod.ext e1 (Option.some.inj h2).symm
          rw [h3]; exact N' _ (List.mem_cons_of_mem _ (hkeep _ _ _ r))
      · exact N' _ (List.mem_cons_of_mem _ hp)
    cases f with
    | ret v => exact .ret p
    | brk => exact .brk p
    | next => exact .next (fin p)
    | cont => exact .cont (fin p)
  · rintro h' tk m' news' F' N' _ hJ
    have q : P (its.drop its.toArray.size) m' news' := hJ
    have z : its.drop its.toArray.size = [] := List.drop_of_length_le (by simp)
    rw [z] at q
    exact done m' news' h' tk q F' N'
end
end
section
section
variable {prog : Program} {w : World} {A : Around} {E : Value → Shared → Prop} {s : Shared} {h₀ : Heap} {L : Addr} {m : Str → Option Value} {env : Env} {elt ct : PySem.Expr} {x : Str} {scope : Scope} {cl : List (Str × Addr)} {S : Led → Prop} {P : Nat → Value → Prop} {Fin : List Value → Led → Prop} {news : Led}
def CompTurn (prog : Program) (w : World) (A : Around) (h₀ : Heap) (L : Addr) (m : Str → Option Value) (env : Env) (elt : PySem.Expr) (x : Str) (scope : Scope) (cl : List (Str × Addr)) (s : Shared) (S : Led → Prop) (P : Nat → Value → Prop) (J : Nat → List Value → Led → Prop) (n : Nat) : Prop :=
  ∀ i v I oI C oC D m₂ ys nw h tk (E' : Value → Shared → Prop), i < n → P i v → J i ys nw → LCg.NsObj oC m₂ → m₂ x = some v → Fr h₀ L h m → News h₀ L h ((I, oI) :: (C, oC) :: (D, LCg.lst ys) :: nw) → (∀ p ∈ nw, p.1 ≠ I ∧ p.1 ≠ C ∧ p.1 ≠ D) → ((@Ne Nat I C) ∧ (@Ne Nat I D) ∧ (@Ne Nat C D)) →
      wpAny (model prog w) A (eval elt (compEnvC scope cl C env)) (LCg.CompEnd h₀ L m { s with heap := h, toks := tk } I oI C oC D (LCg.lst ys) S (fun y nw' => J (i + 1) (ys ++ [y]) nw')) E' { s with heap := h, toks := tk }
theorem compRest_inv (J : Nat → List Value → Led → Prop) {n : Nat} (h0 : J 0 [] news) (turn : CompTurn prog w A h₀ L m env elt x scope cl s S P J n) (fin : ∀ ys nw, J n ys nw → Fin ys nw) :
    LCg.CompRest prog w A h₀ L m env elt x scope cl s S P Fin n 0 [] news := by
  have key : ∀ (j i : Nat) ys nw, i + j = n → J i ys nw → LCg.CompRest prog w A h₀ L m env elt x scope cl s S P Fin j i ys nw := by
    intro j
    induction j with
    | zero => intro i ys nw e h; obtain rfl : i = n := by omega
              exact LCg.CompRest.zero (fin _ _ h)
    | succ j ih =>
      intro i ys nw e h
      refine LCg.CompRest.succ fun v I oI C oC D m₂ g tk E' hP hC hx F N off ne => ?_
      refine wpAny_mono (turn i v I oI C oC D m₂ ys nw g tk E' (by omega) hP h hC hx F N off.mem ne) (fun y s₂ hq => ?_) fun _ _ e => e
      obtain ⟨h', tk', nw', e', F', N', off', hS, hJ⟩ := hq
      exact ⟨h', tk', nw', e', F', N', off', hS, ih _ _ _ (by omega) hJ⟩
  exact key n 0 [] news (by omega) h0

def SrcS (prog : Program) (w : World) (A : Around) (h₀ : Heap) (L : Addr) (m : Str → Option Value) (env : Env) (elt : PySem.Expr) (x : Str) (scope : Scope) (cl : List (Str × Addr)) (Fin : Shared → List Value → Led → Prop) (xv : Value) (s₁ : Shared) : Prop :=
  ∃ tx t news, xv = .str tx t ∧ A.handled = none ∧ Fr h₀ L s₁.heap m ∧ News h₀ L s₁.heap news ∧ tx.cps.size ≤ sizeLine ∧
    ∀ s₂ : Shared, (∃ h, s₂ = { s₁ with heap := h }) → LCg.CompRest prog w A h₀ L m env elt x scope cl s₂ (fun _ => True) (SignAt tx) (Fin s₂) tx.cps.size 0 [] news

theorem str_st {I : Addr} {ty : String} {tx : Str} {t : Tok} : ∀ i (h h' : Heap) (o : Obj) (nw : Led), h.IsStrIter I ty tx t i → h.get? I = some o → h'.get? I = some o → (∀ b o, h₀.get? b = some o → h'.get? b = some o) → News h₀ L h' nw → True → h'.IsStrIter I ty tx t i :=
  fun i h h' o nw st e e' _ _ _ => by
    obtain ⟨o', q, r⟩ := st
    rw [e] at q; cases q; exact ⟨o, e', r⟩

theorem listcomp_str {iter : PySem.Expr} {px : Pos} {pos : Pos} {Q : Value → Shared → Prop} (F₀ : Fr h₀ L s.heap m)
    (hclos : closureFor scope env = pure cl) (hcell : ∀ y ∈ scope.names, y.2 ≠ .cell) (hkind : scope.kind = .function)
    (hnames : ∀ y ∈ scope.names, y.2 = .local → scope.names.lookup y.1 = some .local) (hx : scope.names.lookup x = some .local)
    (h : wpAny (model prog w) A (eval iter env) (SrcS prog w A h₀ L m env elt x scope cl (fun s₂ => LCg.FinE h₀ L m s₂ Q)) E s)
    (hs : ∀ x, foldedSetIterable iter env x = pure x := by intro _; rfl) :
    wpAny (model prog w) A (eval (.ListComp elt [⟨.Name x px, iter, [], 0⟩] scope pos) env) Q E s := by
  rw [eval_ListComp]
  refine wpAny_comprehension_free (use := none) rfl hs hclos hkind hnames (wpAny_mono h (fun xv s₁ h₁ => ?_) fun _ _ e => e)
  obtain ⟨tx, t, news, rfl, hh, F, N, hsz, R⟩ := h₁
  have goal : ∀ (ty : String) (W : Walks prog w A s₁.heap.objs.size [s₁.heap.objs.size] [s₁.heap.objs.size] tx.cps.size (SignAt tx) (fun i h => h.IsStrIter s₁.heap.objs.size ty tx t i)) (o : Obj)
      (hst : (s₁.heap.push o).IsStrIter s₁.heap.objs.size ty tx t 0),
      wpAny (model prog w) A (newList []) (fun acc s₃ => wpAny (model prog w) A (newFunctionEnv scope env.globals cl [] env.qual none .none (some env)) (fun cenv s₄ =>
      codeAny (model prog w) A (.compStart (.ListComp elt [⟨.Name x px, iter, [], 0⟩] scope pos) 0 (.ref s₁.heap.objs.size) acc { cenv with scope := relabel scope env }) (compPost (model prog w) A E none Q acc cenv.locals) s₄) E s₃) E { s₁ with heap := s₁.heap.push o } := by
    intro ty W o hst
    refine LCg.block_U W hsz (fun i h st => by obtain ⟨o, e, _⟩ := st; exact ⟨o, e⟩) str_st hcell hkind hx hst (fun b hb => ?_)
      (F.keeps fun _ _ e => Heap.get?_push_of_some _ e) (N.grown fun _ _ e => Heap.get?_push_of_some _ e) (Nat.ne_of_lt F.ns.lt) (next_is_new F) (fun p hp => Nat.ne_of_lt (Heap.lt_size (N p hp).1)) trivial (R _ ⟨_, rfl⟩) ?_
    · rw [List.mem_singleton.mp hb]
      show s₁.heap.objs.size < (s₁.heap.push _).objs.size
      rw [Heap.size_push]; exact Nat.lt_succ_self _
    · intro D C h tk m' ys news' F' N' o1 hn hC₀ hD₀ hCL hDL hCD offC fin
      refine ⟨m', hn, fun h'' hs'' => fin D h'' tk (F'.change hs'' hCL hC₀) (fun p hp => ?_) o1⟩
      refine ⟨hs''.extBut _ _ ?_ (N' p hp).1, (N' p hp).2⟩
      rcases List.mem_cons.mp hp with rfl | hp
      · exact Ne.symm hCD
      · exact offC p hp
  cases ha : tx.cps.all (· < 128)
  · exact wpAny_pyIter_wide ha (goal _ (Walks.strWide hh _ tx t) _ ⟨_, Heap.get?_push_size _ rfl, rfl, rfl⟩)
  · exact wpAny_pyIter_ascii ha (goal _ (Walks.strAscii hh _ tx t) _ ⟨_, Heap.get?_push_size _ rfl, rfl, rfl⟩)

theorem comp_end {s₁ : Shared} {I C D : Addr} {oI oC oD : Obj} {rest : Value → Led → Prop} {y : Value} {h' : Heap} {tk : Nat} {nw : Led} (F : Fr h₀ L h' m) (N : News h₀ L h' ((I, oI) :: (C, oC) :: (D, oD) :: nw))
    (off : ∀ p ∈ nw, p.1 ≠ I ∧ p.1 ≠ C ∧ p.1 ≠ D) (hS : S nw) (r : rest y nw) : LCg.CompEnd h₀ L m s₁ I oI C oC D oD S rest y { s₁ with heap := h', toks := tk } :=
  ⟨h', tk, nw, rfl, F, N, LCg.Off3.of off, hS, r⟩
end
end
local macro_rules | `(tactic| ktr_enter) => `(tactic| ((case ho => k_is); (case hcd => k_is); (case hb => exact BindsTo.of_eq rfl); (case hl => exact rfl); (case e1 => exact rfl); (case e2 => exact rfl); (case e3 => exact rfl); (case e4 => exact rfl); intro g' L' h' tk' FG' F' N' B' X' T'; k_fold))
local macro_rules | `(tactic| k_all) => `(tactic| assumption)
local macro_rules | `(tactic| k_all) => `(tactic| exact fun q hq => Nat.ne_of_lt (PySem.W.ktn_ltOf (And.right (by assumption)) q hq))
local macro_rules | `(tactic| k_all) => `(tactic| exact fun q hq => Nat.ne_of_lt (PySem.W.ktn_ltOf (And.right (And.right (by assumption))) q hq))
local macro_rules | `(tactic| k_all) => `(tactic| exact fun q hq => Nat.ne_of_lt (PySem.W.ktn_ltOf (And.right (And.right (And.right (by assumption)))) q hq))
local macro_rules | `(tactic| k_all) => `(tactic| exact fun q hq => Nat.ne_of_lt ((by assumption : ∀ p ∈ _, p.1 < _) q hq))
local macro_rules | `(tactic| k_all) => `(tactic| exact fun q hq => Nat.ne_of_lt ((by assumption : ∀ p ∈ _, p.1 < _) q hq))
local macro_rules | `(tactic| walk_at "UnrEnd") => `(tactic| (k_dflt (first
  | (refine' unr_end ?F ?N ?o ⟨?q, ?_⟩; (case F => k_asm); (case N => k_asm); (case o => k_all); (case q => k_mem); k_whole)
  | (refine' unr_end ?F ?N ?o ?_; (case F => k_asm); (case N => k_asm); (case o => k_all); k_whole)
  | (refine' unr_end ?F ?N ?o ?_; (case F => k_asm); (case N => exact news_tail (by k_asm)); (case o => k_all); k_whole))))
section
def regI (c : Int) : Bool := decide (c ≥ 0) && (!([0, 9, 10, 12, 13, 32] : List Int).any (· == c)) && (!([40, 41, 60, 62, 91, 93, 123, 125, 47, 37] : List Int).any (· == c))
local macro_rules | `(tactic| walk_at "compareOp NotIn int ref") => `(tactic| (k_here; k_dflt (refine' notin_tuple_ints (tupK ?X ?l) ?i ?_; (case X => k_in); (case l => k_is); (case i => (repeat constructor)); k_whole)))

section
variable {w : World} {dp un : Nat} {gd : Option (List Code)} {cn : Str} {cs : Scope} {a : Addr} {ccd : Value} {cl : List (Str × Addr)} {outer : List Env} {A₀ : Around} {base h₀ : Heap} {L : Addr} {m : Str → Option Value} {news : List (Addr × Obj)} {s : Shared}
  {Q E : Value → Shared → Prop} {qq : Program} {loose : List Str} {mean : ExcName → Option Value} {mg mb : Str → Option Value}

theorem regular_spec {c : Int} {tk : Tok} (B : Below A₀ base outer h₀) (F : Fr h₀ L s.heap m) (X : (KF w.params).In h₀) (N : News h₀ L s.heap news) (T : Top qq loose mean mg mb h₀) (hk : cs.kind = .function) (hd : dp < 950)
  (ret : ∀ h' tk', Fr h₀ L h' m → News h₀ L h' news → Q (.bool (regI c)) { s with heap := h', toks := tk' }) :
  wpAny (model PySem.Challenge.rw_og0174_01.row.prog w) (ktrTop dp un gd cn cs L a ccd cl outer) (call (.ref 30) [.int c tk]) Q E s := by
  revert X
  k_fill
  intro X
  refine' enter1 (Str.ofString "code") B F X N T hk ?ho ?hcd (by omega) ?hb ?hl ?e1 ?e2 ?e3 ?e4 ?_
  ktr_enter
  k_steps
  all_goals (try k_data)
  all_goals (refine qbool (ret _ _ (by assumption) (by assumption)) ?_; simp [regI, *])

end
end
section
def plainC (c : Nat) : Bool := decide (33 ≤ c) && decide (c ≤ 126) && decide (c ≠ 35) && regI c
def plainT (t : Str) : Bool := t.cps.toList.all plainC && decide (t.cps.size ≤ 50)
def nameL (t : Str) : List UInt8 := 47 :: t.cps.toList.map Nat.toUInt8
theorem plainC_is {c : Nat} (h : plainC c = true) : 33 ≤ c ∧ c ≤ 126 ∧ c ≠ 35 ∧ regI c = true := by
  simpa [plainC, and_assoc] using h
theorem ints_snoc {vs : List Value} {ns : List Int} (h : IntsAre vs ns) (n : Int) (t : Tok) : IntsAre (vs ++ [.int n t]) (ns ++ [n]) := by
  induction h with
  | nil => exact .cons _ _ .nil
  | cons n t _ ih => exact .cons _ _ ih
theorem push_list (vs : List Value) (v : Value) : vs.toArray.push v = (vs ++ [v]).toArray := by simp
theorem octs_name (t : Str) : ((47 :: t.cps.toList.map Int.ofNat : List Int).map fun n => n.toNat.toUInt8) = nameL t := by
  simp [nameL]
theorem octs_rng (t : Str) (h : ∀ c ∈ t.cps.toList, plainC c = true) : ∀ n ∈ (47 :: t.cps.toList.map Int.ofNat : List Int), 0 ≤ n ∧ n < 256 := by
  intro n hn
  rcases List.mem_cons.mp hn with rfl | hn
  · omega
  · obtain ⟨c, hc, rfl⟩ := List.mem_map.mp hn
    have := plainC_is (h c hc)
    simp only [Int.ofNat_eq_natCast]
    omega
local macro_rules | `(tactic| walk_at "exec For Name Name cons nil") => `(tactic| (k_here; (rename Fr _ _ _ _ => lF'); (with_unfolding_all refine' For_invVF lF' ?k1 ?k2 ?_; (case k1 => exact rfl); (case k2 => exact rfl); k_whole)))
local macro_rules | `(tactic| walk_at "eval Name") => `(tactic| (k_here; k_dflt (refine' ld ?k1 ?k2 ?_; (case k1 => k_asm); (case k2 => assumption); k_whole)))
local macro_rules | `(tactic| walk_at "call ref") => `(tactic| (k_here; k_dflt (refine' regular_spec ?B ?F ?X ?N ?T ?hk ?hd ?_; (case B => k_asm); (case F => k_asm); (case X => k_asm); (case N => k_asm); (case T => k_asm); (case hk => exact rfl); (case hd => omega)); intro h1 tk1 F1 N1))
local macro_rules | `(tactic| walk_at "call type:bytes") => `(tactic| k_extra "bytes")

section
variable {w : World} {dp un : Nat} {gd : Option (List Code)} {cn : Str} {cs : Scope} {a : Addr} {ccd : Value} {cl : List (Str × Addr)} {outer : List Env} {A₀ : Around} {base h₀ : Heap} {L : Addr} {m : Str → Option Value} {news : List (Addr × Obj)} {s : Shared}
  {Q E : Value → Shared → Prop} {qq : Program} {loose : List Str} {mean : ExcName → Option Value} {mg mb : Str → Option Value}

theorem name_spec {t : Str} {tk : Tok} (B : Below A₀ base outer h₀) (F : Fr h₀ L s.heap m) (X : (KF w.params).In h₀) (N : News h₀ L s.heap news) (T : Top qq loose mean mg mb h₀) (hk : cs.kind = .function) (ht : plainT t = true) (hd : dp < 850) (hu : un < 8000)
  (ret : ∀ t2 h' tk', Fr h₀ L h' m → News h₀ L h' news → Q (.bytes (nameL t).toArray t2) { s with heap := h', toks := tk' }) :
  wpAny (model PySem.Challenge.rw_og0174_01.row.prog w) (ktrTop dp un gd cn cs L a ccd cl outer) (call (.ref 281) [.str t tk]) Q E s := by
  revert X
  k_fill
  intro X
  simp only [plainT, Bool.and_eq_true, List.all_eq_true, decide_eq_true_eq] at ht
  obtain ⟨hp, hsz⟩ := ht
  refine' enter1 (Str.ofString "text") B F X N T hk ?ho ?hcd (by omega) ?hb ?hl ?e1 ?e2 ?e3 ?e4 ?_
  ktr_enter
  k_steps
  refine iter_strInv (fun l m nw => ∃ lf vs ns k, nw = (lf, listOf vs.toArray k) :: news ∧ (∀ p ∈ news, @Ne Nat p.1 lf) ∧ IntsAre vs ns ∧ vs.length + l.length ≤ 100 ∧ (∀ c ∈ l, plainC c = true) ∧ m (Str.ofString "found") = some (.ref lf) ∧ ns ++ l.map Int.ofNat = 47 :: t.cps.toList.map Int.ofNat) rfl (by assumption) (by assumption) ?a ?b ?c
  case a => exact ⟨_, _, _, _, rfl, fun q hq => Nat.ne_of_lt ((by assumption : ∀ p ∈ _, p.1 < _) q hq), by l_ints, by (simp only [List.length_cons, List.length_nil, Array.length_toList]; omega), hp, rfl, rfl⟩
  case b =>
    rintro c r m1 nw I it u h1 tk1 ⟨lf, vs, ns, k, rfl, hlf, hi, hl, hc, hm, he⟩ off F1 N1
    obtain ⟨c1, c2, c3, c4⟩ := plainC_is (hc c (.head _))
    have hofI := off _ (.head _)
    have d1 : (c : Int) ≠ 0 := by omega
    have d2 : (c : Int) ≠ 35 := by omega
    dsimp only [envOf] at F1 N1 hofI
    dsimp only
    k_steps
    all_goals (try k_data)
    all_goals (try (exfalso; first | exact d1 (by assumption) | exact d2 (by assumption)))
    rename_i F2 N2
    rw [push_list] at N2
    refine unr_end F2 N2 (fun p hp => ?_) ⟨lf, _, _, _, rfl, hlf, ints_snoc hi _ _, by (simp only [List.length_append, List.length_cons, List.length_nil] at *; omega), fun x hx => hc x (.tail _ hx), hm, by rw [← he]; simp⟩
    rcases List.mem_cons.mp hp with rfl | hp
    · exact hofI
    · exact off _ (.tail _ hp)
  case c =>
    rintro m1 nw h1 tk1 ⟨lf, vs, ns, k, rfl, hlf, hi, hl, hc, hm, he⟩ F1 N1
    dsimp only [envOf] at F1 N1
    dsimp only
    have he' : ns = 47 :: t.cps.toList.map Int.ofNat := by simpa using he
    subst he'
    k_with "bytes" => (
      refine bytes_K (by assumption) (by assumption) (by is_list) hi (octs_rng t hp) (by rw [sizeLine_eq]; omega) rfl ?_
      rw [octs_name t]
      intro h' t' k' F' N' hB')
    k_steps
    all_goals (try k_data)
    all_goals (refine ret _ _ _ (by assumption) (news_tail (by assumption)))

end
end
section
theorem enterC {w : World} {dp un : Nat} {gd : Option (List Code)} {cn : Str} {cs : Scope} {a : Addr} {ccd : Value} {cl : List (Str × Addr)} {outer : List Env} {A₀ : Around} {base h₀ : Heap} {L : Addr} {m : Str → Option Value} {news : List (Addr × Obj)} {s : Shared}
  {Q E : Value → Shared → Prop} {qq : Program} {loose : List Str} {mean : ExcName → Option Value} {mg mb : Str → Option Value}
  {name qual : Str} {po as_ : List Arg} {va : Option Arg} {ko : List Arg} {kd : List (Option PySem.Expr)} {kw : Option Arg} {ds : List PySem.Expr} {s0 : Stmt} {rest : List Stmt} {sk : ScopeKind} {sn : List (Str × NameKind)} {sg sc : Bool} {sm : List (Str × Const)}
  {dV kV doc pm cdv ct oc : Value} {an od : Option Addr} {osl : Array (Option Value)} {f : Addr} {args : List Value} (binds : List (Str × Value))
  (B : Below A₀ base outer h₀) (F : Fr h₀ L s.heap m) (X : (KF w.params).In h₀) (N : News h₀ L s.heap news) (T : Top qq loose mean mg mb h₀) (hk : cs.kind = .function)
  (ho : (KF w.params).lookup f = some ⟨oc, od, .func (fnOf name qual ⟨po, as_, va, ko, kd, kw, ds⟩ (s0 :: rest) ⟨sk, sn, sg, sc, sm⟩ dV kV doc pm an cdv ct), osl⟩)
  (hcd : codeIn (KF w.params) cdv qual = true) (hroom : dp < 999)
  (hbind : BindsTo s (fnOf name qual ⟨po, as_, va, ko, kd, kw, ds⟩ (s0 :: rest) ⟨sk, sn, sg, sc, sm⟩ dV kV doc pm an cdv ct) ⟨args, []⟩ binds)
  (hloc : (binds.all fun y => (⟨sk, sn, sg, sc, sm⟩ : Scope).names.lookup y.1 == some .local || (⟨sk, sn, sg, sc, sm⟩ : Scope).names.lookup y.1 == some .cell) = true)
  (hnd : ((cellsFrom 0 sn []).map (·.1)).Nodup)
  (hsc : sc = false) (hsg : sg = false) (hsk : sk = .function)
  (h : ∀ g L' h₁ tk cells, Fr h₀ L g m → Fr g L' h₁ (bindL (envOfC qual ⟨sk, sn, sg, sc, sm⟩ L' f cdv).kindOf binds fun _ => none) → News g L' h₁ (cells ++ news) →
      CellsAre (bindC (envOfC qual ⟨sk, sn, sg, sc, sm⟩ L' f cdv).kindOf binds fun _ => none) (cellsFrom (L' + 1) sn []) cells → Below (ktrTop dp un gd cn cs L a ccd cl outer) base (envX cn cs L a ccd cl :: outer) g → (KF w.params).In g → Top qq loose mean mg mb g → (∀ p ∈ news, p.1 < L') →
    wpAny (model PySem.Challenge.rw_og0174_01.row.prog w) (ktrTop (dp + 1) (un + 3) gd qual ⟨sk, sn, sg, sc, sm⟩ L' f cdv (cellsFrom (L' + 1) sn []) (envX cn cs L a ccd cl :: outer)) (execs (s0 :: rest) (envOfC qual ⟨sk, sn, sg, sc, sm⟩ L' f cdv))
      (fun fl s' => LeaveK h₀ L m g (fun r s' => match r with | .ok (.ret v) => Q v s' | _ => False) (match fl with | .ret v => v | _ => .none) s')
      (fun _ _ => False) { s with heap := h₁, toks := tk }) :
  wpAny (model PySem.Challenge.rw_og0174_01.row.prog w) (ktrTop dp un gd cn cs L a ccd cl outer) (call (.ref f) args) Q E s := by
  refine wpAny_call ?_
  refine code_defC B F X N T rfl rfl hk ho hcd (by show dp < 1000; omega) hbind hloc hnd ?_ hsc hsg hsk
  intro g L' h₁ tk cells FG F' N' Y' B' X' T' l1
  refine wpAny_mono (h g L' h₁ tk cells FG F' N' Y' B' X' T' l1) (fun fl s' hl => ?_) (fun _ _ x => x.elim)
  obtain ⟨L2, m2, news2, f2, n2, k2⟩ := hl
  exact ⟨L2, m2, news2, f2, n2, fun x y => by have := k2 x y; revert this; cases fl <;> exact id⟩
end
section
theorem tc_guard : guardIds.contains "type.__call__" = false := by decide +kernel
theorem tc_under (dp un : Nat) (gd : Option (List Code)) (cn : Str) (cs : Scope) (L a : Addr) (ccd : Value) (cl : List (Str × Addr)) (outer : List Env) (C : Addr) (args : List Value) :
   (ktrTop dp un gd cn cs L a ccd cl outer).under (Code.builtin "type.__call__" { pos := .ref C :: args }) = ktrTop (dp + 1) (un + 1) gd cn cs L a ccd cl outer := by
  have hfr : (Code.builtin "type.__call__" { pos := .ref C :: args }).isFrame = false := by with_unfolding_all rfl
  have hf : (Code.builtin "type.__call__" { pos := .ref C :: args }).frames = 0 := by simp [Code.frames, hfr]
  have hg : (Code.builtin "type.__call__" { pos := .ref C :: args }).isGuard = false := tc_guard
  have hc : (Code.builtin "type.__call__" { pos := .ref C :: args }).isCreation = true := rfl
  have hca : (Code.builtin "type.__call__" { pos := .ref C :: args }).isCaller = false := by simp [Code.isCaller]
  have he : (Code.builtin "type.__call__" { pos := .ref C :: args }).envs = [] := by unfold Code.envs; rw [hfr]; rfl
  simp [Around.under, Code.weight, Code.cUnits, Code.guards, hf, hg, hc, hca, he, pushEnvs, pushGuards]
theorem mkE {w : World} {dp un : Nat} {gd : Option (List Code)} {cn : Str} {cs : Scope} {a : Addr} {ccd : Value} {cl : List (Str × Addr)} {outer : List Env} {A₀ : Around} {base h₀ : Heap} {L : Addr} {m : Str → Option Value} {news : List (Addr × Obj)} {s : Shared}
  {Q E : Value → Shared → Prop} {qq : Program} {loose : List Str} {mean : ExcName → Option Value} {mg mb : Str → Option Value}
  {name qual : Str} {po as_ : List Arg} {va : Option Arg} {ko : List Arg} {kd : List (Option PySem.Expr)} {kw : Option Arg} {ds : List PySem.Expr} {s0 : Stmt} {rest : List Stmt} {sk : ScopeKind} {sn : List (Str × NameKind)} {sg sc : Bool} {sm : List (Str × Const)}
  {dV kV doc pm cdv ct oc : Value} {an od : Option Addr} {osl : Array (Option Value)} {C f : Addr} {args : List Value} (binds : Addr → List (Str × Value))
  (B : Below A₀ base outer h₀) (F : Fr h₀ L s.heap m) (X : (KF w.params).In h₀) (N : News h₀ L s.heap news) (T : Top qq loose mean mg mb h₀) (hk : cs.kind = .function)
  (hm : makesIn (KF w.params) C = true) (hi : findIn (KF w.params) (.ref C) "__init__" = some (some (.ref f))) (hf : isFn (KF w.params) (.ref f) = true)
  (ho : (KF w.params).lookup f = some ⟨oc, od, .func (fnOf name qual ⟨po, as_, va, ko, kd, kw, ds⟩ (s0 :: rest) ⟨sk, sn, sg, sc, sm⟩ dV kV doc pm an cdv ct), osl⟩)
  (hcd : codeIn (KF w.params) cdv qual = true) (hroom : dp < 990)
  (hbind : ∀ x (s : Shared), (KF w.params).In s.heap → BindsTo s (fnOf name qual ⟨po, as_, va, ko, kd, kw, ds⟩ (s0 :: rest) ⟨sk, sn, sg, sc, sm⟩ dV kV doc pm an cdv ct) ⟨.ref x :: args, []⟩ (binds x))
  (hloc : ∀ y, ((binds y).all fun x => decide ((⟨sk, sn, sg, sc, sm⟩ : Scope).names.lookup x.1 = some .local)) = true)
  (hsc : sc = false) (hsg : sg = false) (hsk : sk = .function) (hcell : (sn.all fun x => decide (x.2 ≠ .cell)) = true)
  (h : ∀ x dx h', Fr h₀ L h' m → News h₀ L h' ((x, instObj C dx) :: (dx, dictOf [] 0) :: news) → (∀ p ∈ news, p.1 < dx) → dx < x → ∀ g L' h₁ tk, Fr h₀ L g m → Fr g L' h₁ (fun y => (binds x).reverse.lookup y) → News g L' h₁ ((x, instObj C dx) :: (dx, dictOf [] 0) :: news) → Below (ktrTop (dp + 1) (un + 1) gd cn cs L a ccd cl outer) base (envX cn cs L a ccd cl :: outer) g → (KF w.params).In g → Top qq loose mean mg mb g →
    wpAny (model PySem.Challenge.rw_og0174_01.row.prog w) (ktrTop (dp + 2) (un + 4) gd qual ⟨sk, sn, sg, sc, sm⟩ L' f cdv [] (envX cn cs L a ccd cl :: outer)) (execs (s0 :: rest) (envOf qual ⟨sk, sn, sg, sc, sm⟩ L' f cdv))
      (fun fl s' => LeaveK h₀ L m g (InitBack x fun r s' => match r with | .ok (.ret v) => Q v s' | _ => False) (match fl with | .ret v => v | _ => .none) s')
      (fun _ _ => False) { s with heap := h₁, toks := tk }) :
  wpAny (model PySem.Challenge.rw_og0174_01.row.prog w) (ktrTop dp un gd cn cs L a ccd cl outer) (call (.ref C) args) Q E s := by
  refine call_cls F X N hm hi hf ?_
  intro x dx h' F1 N1 l1 l2
  rw [tc_under]
  refine code_def (s := { s with heap := h' }) B F1 X N1 T rfl rfl hk ho hcd (by show dp + 1 < 1000; omega) (hbind x _ (X.keeps F1.keep)) (locs (hloc x)) ?_ hsc hsg hsk (fun x hx => of_decide_eq_true (List.all_eq_true.mp hcell x hx))
  intro g L' h₁ FG F' N' B' X' T'
  refine wpAny_mono (h x dx h' F1 N1 l1 l2 g L' h₁ _ FG F' N' B' X' T') (fun fl s' hl => ?_) (fun _ _ x => x.elim)
  obtain ⟨L2, m2, news2, f2, n2, k2⟩ := hl
  refine ⟨L2, m2, news2, f2, n2, fun x y => ?_⟩
  have := k2 x y
  revert this
  cases fl <;> exact id
end
section
abbrev nameO (P : Params) (t : Str) (a b : Tok) : Obj := dictOf [⟨PyData.keyHash P (Str.ofString "text"), .str (Str.ofString "text") a, .str t b⟩] 1
abbrev refO (P : Params) (n g : Int) (a b c d : Tok) : Obj := dictOf [⟨PyData.keyHash P (Str.ofString "number"), .str (Str.ofString "number") a, .int n b⟩, ⟨PyData.keyHash P (Str.ofString "generation"), .str (Str.ofString "generation") c, .int g d⟩] 2
abbrev strO (P : Params) (o : List UInt8) (h : Bool) (a b c : Tok) : Obj := dictOf [⟨PyData.keyHash P (Str.ofString "octets"), .str (Str.ofString "octets") a, .bytes o.toArray b⟩, ⟨PyData.keyHash P (Str.ofString "is_hex"), .str (Str.ofString "is_hex") c, .bool h⟩] 2

section
variable {w : World} {dp un : Nat} {gd : Option (List Code)} {cn : Str} {cs : Scope} {a : Addr} {ccd : Value} {cl : List (Str × Addr)} {outer : List Env} {A₀ : Around} {base h₀ : Heap} {L : Addr} {m : Str → Option Value} {news : List (Addr × Obj)} {s : Shared}
  {Q E : Value → Shared → Prop} {qq : Program} {loose : List Str} {mean : ExcName → Option Value} {mg mb : Str → Option Value}

theorem mkname_spec {t : Str} {tk : Tok} (B : Below A₀ base outer h₀) (F : Fr h₀ L s.heap m) (X : (KF w.params).In h₀) (N : News h₀ L s.heap news) (T : Top qq loose mean mg mb h₀) (hk : cs.kind = .function) (hd : dp < 850) (hu : un < 8000)
  (ret : ∀ x dx a b h' tk', Fr h₀ L h' m → News h₀ L h' ((x, instObj 180 dx) :: (dx, nameO w.params t a b) :: news) → (∀ p ∈ news, @LT.lt Nat instLTNat p.1 dx) → @LT.lt Nat instLTNat dx x → Q (.ref x) { s with heap := h', toks := tk' }) :
  wpAny (model PySem.Challenge.rw_og0174_01.row.prog w) (ktrTop dp un gd cn cs L a ccd cl outer) (call (.ref 180) [.str t tk]) Q E s := by
  revert X
  k_fill
  intro X
  refine' mkE (fun x => [(Str.ofString "self", .ref x), (Str.ofString "text", .str t tk)]) B F X N T hk ?km ?ki ?kf ?ho ?hcd (by omega) ?hb ?hl ?e1 ?e2 ?e3 ?e4 ?_
  case km => k_is
  case ki => k_is
  case kf => k_is
  case ho => k_is
  case hcd => k_is
  case hb => exact fun x s X9 => BindsTo.of_eq rfl
  case hl => exact fun _ => rfl
  case e1 => exact rfl
  case e2 => exact rfl
  case e3 => exact rfl
  case e4 => exact rfl
  intro x' d' h9 F9 N9 l1 l2 g' L' h' tk' FG' F' N' B' X' T'
  clear F9 N9
  k_fold
  have l2n : @LT.lt Nat instLTNat d' x' := l2
  k_steps
  all_goals (try k_data)
  all_goals (exact ret _ _ _ _ _ _ (by assumption) (by assumption) (by assumption) l2n)

theorem mkref_spec {n1 n2 : Int} {tk tk2 : Tok} (B : Below A₀ base outer h₀) (F : Fr h₀ L s.heap m) (X : (KF w.params).In h₀) (N : News h₀ L s.heap news) (T : Top qq loose mean mg mb h₀) (hk : cs.kind = .function) (hd : dp < 850) (hu : un < 8000)
  (ret : ∀ x dx a b c d h' tk', Fr h₀ L h' m → News h₀ L h' ((x, instObj 251 dx) :: (dx, refO w.params n1 n2 a b c d) :: news) → (∀ p ∈ news, @LT.lt Nat instLTNat p.1 dx) → @LT.lt Nat instLTNat dx x → Q (.ref x) { s with heap := h', toks := tk' }) :
  wpAny (model PySem.Challenge.rw_og0174_01.row.prog w) (ktrTop dp un gd cn cs L a ccd cl outer) (call (.ref 251) [.int n1 tk, .int n2 tk2]) Q E s := by
  revert X
  k_fill
  intro X
  refine' mkE (fun x => [(Str.ofString "self", .ref x), (Str.ofString "number", .int n1 tk), (Str.ofString "generation", .int n2 tk2)]) B F X N T hk ?km ?ki ?kf ?ho ?hcd (by omega) ?hb ?hl ?e1 ?e2 ?e3 ?e4 ?_
  case km => k_is
  case ki => k_is
  case kf => k_is
  case ho => k_is
  case hcd => k_is
  case hb => exact fun x s X9 => BindsTo.of_eq rfl
  case hl => exact fun _ => rfl
  case e1 => exact rfl
  case e2 => exact rfl
  case e3 => exact rfl
  case e4 => exact rfl
  intro x' d' h9 F9 N9 l1 l2 g' L' h' tk' FG' F' N' B' X' T'
  clear F9 N9
  k_fold
  have l2n : @LT.lt Nat instLTNat d' x' := l2
  k_steps
  all_goals (try k_data)
  all_goals (exact ret _ _ _ _ _ _ _ _ (by assumption) (by assumption) (by assumption) l2n)

theorem mkstr_spec {o : List UInt8} {b : Bool} {tk : Tok} (B : Below A₀ base outer h₀) (F : Fr h₀ L s.heap m) (X : (KF w.params).In h₀) (N : News h₀ L s.heap news) (T : Top qq loose mean mg mb h₀) (hk : cs.kind = .function) (hd : dp < 850) (hu : un < 8000)
  (ret : ∀ x dx a b1 c h' tk', Fr h₀ L h' m → News h₀ L h' ((x, instObj 202 dx) :: (dx, strO w.params o b a b1 c) :: news) → (∀ p ∈ news, @LT.lt Nat instLTNat p.1 dx) → @LT.lt Nat instLTNat dx x → Q (.ref x) { s with heap := h', toks := tk' }) :
  wpAny (model PySem.Challenge.rw_og0174_01.row.prog w) (ktrTop dp un gd cn cs L a ccd cl outer) (call (.ref 202) [.bytes o.toArray tk, .bool b]) Q E s := by
  revert X
  k_fill
  intro X
  refine' mkE (fun x => [(Str.ofString "self", .ref x), (Str.ofString "octets", .bytes o.toArray tk), (Str.ofString "is_hex", .bool b)]) B F X N T hk ?km ?ki ?kf ?ho ?hcd (by omega) ?hb ?hl ?e1 ?e2 ?e3 ?e4 ?_
  case km => k_is
  case ki => k_is
  case kf => k_is
  case ho => k_is
  case hcd => k_is
  case hb => exact fun x s X9 => binds_K X9 rfl (by k_is) rfl rfl rfl
  case hl => exact fun _ => rfl
  case e1 => exact rfl
  case e2 => exact rfl
  case e3 => exact rfl
  case e4 => exact rfl
  intro x' d' h9 F9 N9 l1 l2 g' L' h' tk' FG' F' N' B' X' T'
  clear F9 N9
  k_fold
  have l2n : @LT.lt Nat instLTNat d' x' := l2
  k_steps
  all_goals (try k_data)
  all_goals (exact ret _ _ _ _ _ _ _ (by assumption) (by assumption) (by assumption) l2n)

end
end
section
theorem bytes_arr {prog : Program} {w : World} {A : Around} {E : Value → Shared → Prop} {s : Shared} {h₀ : Heap} {L : Addr} {m : Str → Option Value} {news : Led} {l : Addr} {arr : Array Value} {k : Nat} {ns : List Int} {Q : Value → Shared → Prop} (F : Fr h₀ L s.heap m) (N : News h₀ L s.heap news) (hl : (l, listOf arr k) ∈ news) (hi : IntsAre arr.toList ns) (hr : ∀ n ∈ ns, 0 ≤ n ∧ n < 256) (hz : arr.size ≤ 1000) (hh : A.handled = none)
    (h : ∀ h' t k, Fr h₀ L h' m → News h₀ L h' news → Q (.bytes (ns.map fun n => n.toNat.toUInt8).toArray t) { s with heap := h', toks := k }) : wpAny (model prog w) A (call (.type "bytes") [.ref l]) Q E s :=
  bytes_K F N (vs := arr.toList) ⟨_, (N _ hl).1, rfl, k, rfl⟩ hi hr (by rw [sizeLine_eq, Array.length_toList]; omega) hh fun h' t k F N _ => h h' t k F N
end
section
local macro_rules | `(tactic| walk_at "UnrEnd") => `(tactic| (k_dflt (first
  | (refine' unr_end ?F ?N ?o ?_; (case F => k_asm); (case N => k_asm); (case o => k_all); k_whole)
  | (refine' unr_end ?F ?N ?o ?_; (case F => k_asm); (case N => exact news_tail (by k_asm)); (case o => k_all); k_whole))))

def hexA : List UInt8 := [60, 54, 49, 50, 48, 54, 50, 62]
def hexB : List UInt8 := [60, 62]
def hexC : List UInt8 := [60, 50, 56, 55, 56, 62]
local macro_rules | `(tactic| walk_at "call ref") => `(tactic| (k_here; (with_reducible show wpAny _ _ (call (Value.ref 274) _) _ _ _); k_dflt (refine' enter1 (Str.ofString "code") ?B ?F ?X ?N ?T ?hk ?ho ?hcd (by omega) ?hb ?hl ?e1 ?e2 ?e3 ?e4 ?_; (case B => k_asm); (case F => k_asm); (case X => k_asm); (case N => k_asm); (case T => k_asm); (case hk => exact rfl); ktr_enter)))
local macro_rules | `(tactic| walk_at "call type:bytes") => `(tactic| (k_here; k_dflt (refine' bytes_arr ?F ?N ?l ?i ?r ?z ?h ?_; (case F => k_asm); (case N => k_asm); (case l => k_mem); (case i => (with_unfolding_all (repeat constructor))); (case r => decide +kernel); (case z => (with_unfolding_all exact Nat.le_of_ble_eq_true rfl)); (case h => with_unfolding_all rfl); k_whole); intro h' t' k' F' N'))

section
variable {w : World} {dp un : Nat} {gd : Option (List Code)} {cn : Str} {cs : Scope} {a : Addr} {ccd : Value} {cl : List (Str × Addr)} {outer : List Env} {A₀ : Around} {base h₀ : Heap} {L : Addr} {m : Str → Option Value} {news : List (Addr × Obj)} {s : Shared}
  {Q E : Value → Shared → Prop} {qq : Program} {loose : List Str} {mean : ExcName → Option Value} {mg mb : Str → Option Value}

theorem hexA_spec {tk : Tok} (B : Below A₀ base outer h₀) (F : Fr h₀ L s.heap m) (X : (KF w.params).In h₀) (N : News h₀ L s.heap news) (T : Top qq loose mean mg mb h₀) (hk : cs.kind = .function) (hd : dp < 850) (hu : un < 8000)
  (ret : ∀ t2 h' tk', Fr h₀ L h' m → News h₀ L h' news → Q (.bytes hexA.toArray t2) { s with heap := h', toks := tk' }) :
  wpAny (model PySem.Challenge.rw_og0174_01.row.prog w) (ktrTop dp un gd cn cs L a ccd cl outer) (call (.ref 314) [.bytes ([97,32,98] : List UInt8).toArray tk]) Q E s := by
  revert X
  k_fill
  intro X
  refine' enter1 (Str.ofString "octets") B F X N T hk ?ho ?hcd (by omega) ?hb ?hl ?e1 ?e2 ?e3 ?e4 ?_
  ktr_enter
  k_steps
  all_goals (try k_data)
  all_goals (exact ret _ _ _ (by assumption) (news_tail (by assumption)))


theorem hexB_spec {tk : Tok} (B : Below A₀ base outer h₀) (F : Fr h₀ L s.heap m) (X : (KF w.params).In h₀) (N : News h₀ L s.heap news) (T : Top qq loose mean mg mb h₀) (hk : cs.kind = .function) (hd : dp < 850) (hu : un < 8000)
  (ret : ∀ t2 h' tk', Fr h₀ L h' m → News h₀ L h' news → Q (.bytes hexB.toArray t2) { s with heap := h', toks := tk' }) :
  wpAny (model PySem.Challenge.rw_og0174_01.row.prog w) (ktrTop dp un gd cn cs L a ccd cl outer) (call (.ref 314) [.bytes ([] : List UInt8).toArray tk]) Q E s := by
  revert X
  k_fill
  intro X
  refine' enter1 (Str.ofString "octets") B F X N T hk ?ho ?hcd (by omega) ?hb ?hl ?e1 ?e2 ?e3 ?e4 ?_
  ktr_enter
  k_steps
  all_goals (try k_data)
  all_goals (exact ret _ _ _ (by assumption) (news_tail (by assumption)))


theorem hexC_spec {tk : Tok} (B : Below A₀ base outer h₀) (F : Fr h₀ L s.heap m) (X : (KF w.params).In h₀) (N : News h₀ L s.heap news) (T : Top qq loose mean mg mb h₀) (hk : cs.kind = .function) (hd : dp < 850) (hu : un < 8000)
  (ret : ∀ t2 h' tk', Fr h₀ L h' m → News h₀ L h' news → Q (.bytes hexC.toArray t2) { s with heap := h', toks := tk' }) :
  wpAny (model PySem.Challenge.rw_og0174_01.row.prog w) (ktrTop dp un gd cn cs L a ccd cl outer) (call (.ref 314) [.bytes ([40,120] : List UInt8).toArray tk]) Q E s := by
  revert X
  k_fill
  intro X
  refine' enter1 (Str.ofString "octets") B F X N T hk ?ho ?hcd (by omega) ?hb ?hl ?e1 ?e2 ?e3 ?e4 ?_
  ktr_enter
  k_steps
  all_goals (try k_data)
  all_goals (exact ret _ _ _ (by assumption) (news_tail (by assumption)))

end
end
section
def litA : List UInt8 := [40, 97, 32, 98, 41]
def litB : List UInt8 := [40, 41]
def litC : List UInt8 := [40, 92, 40, 120, 41]

local macro_rules | `(tactic| walk_at "exec For Name Name cons nil") => `(tactic| (k_here; (rename Fr _ _ _ _ => lF'); (with_unfolding_all refine' For_invVF lF' ?k1 ?k2 ?_; (case k1 => exact rfl); (case k2 => exact rfl); k_whole)))

local macro_rules | `(tactic| walk_at "pyIter ref") => `(tactic| ((with_reducible show wpAny _ _ (pyIter (Value.ref _)) (fun it s₂ => LoopAtV _ _ _ _ _ _ _ _ _ it s₂) _ _); (rename Fr _ _ _ _ => lF'); (rename News _ _ _ _ => lN'); (with_unfolding_all refine iter_listUnr (by rfl) lF' lN' (by k_mem) (by rfl) (by rfl) ?_); clear lF'; intro i' l1; (try k_lt l1)))
local macro_rules | `(tactic| walk_at "call ref") => `(tactic| (k_here; (with_reducible show wpAny _ _ (call (Value.ref 300) _) _ _ _); k_dflt (refine' enter1 (Str.ofString "octets") ?B ?F ?X ?N ?T ?hk ?ho ?hcd (by omega) ?hb ?hl ?e1 ?e2 ?e3 ?e4 ?_; (case B => k_asm); (case F => k_asm); (case X => k_asm); (case N => k_asm); (case T => k_asm); (case hk => exact rfl); ktr_enter)))
local macro_rules | `(tactic| walk_at "call type:bytes") => `(tactic| (k_here; k_dflt (refine' bytes_arr ?F ?N ?l ?i ?r ?z ?h ?_; (case F => k_asm); (case N => k_asm); (case l => k_mem); (case i => (with_unfolding_all (repeat constructor))); (case r => decide +kernel); (case z => (with_unfolding_all exact Nat.le_of_ble_eq_true rfl)); (case h => with_unfolding_all rfl); k_whole); intro h' t' k' F' N'))

section
variable {w : World} {dp un : Nat} {gd : Option (List Code)} {cn : Str} {cs : Scope} {a : Addr} {ccd : Value} {cl : List (Str × Addr)} {outer : List Env} {A₀ : Around} {base h₀ : Heap} {L : Addr} {m : Str → Option Value} {news : List (Addr × Obj)} {s : Shared}
  {Q E : Value → Shared → Prop} {qq : Program} {loose : List Str} {mean : ExcName → Option Value} {mg mb : Str → Option Value}

theorem litA_spec {tk : Tok} (B : Below A₀ base outer h₀) (F : Fr h₀ L s.heap m) (X : (KF w.params).In h₀) (N : News h₀ L s.heap news) (T : Top qq loose mean mg mb h₀) (hk : cs.kind = .function) (hd : dp < 850) (hu : un < 8000)
  (ret : ∀ t2 h' tk', Fr h₀ L h' m → News h₀ L h' news → Q (.bytes litA.toArray t2) { s with heap := h', toks := tk' }) :
  wpAny (model PySem.Challenge.rw_og0174_01.row.prog w) (ktrTop dp un gd cn cs L a ccd cl outer) (call (.ref 307) [.bytes ([97,32,98] : List UInt8).toArray tk]) Q E s := by
  revert X
  k_fill
  intro X
  refine' enter1 (Str.ofString "octets") B F X N T hk ?ho ?hcd (by omega) ?hb ?hl ?e1 ?e2 ?e3 ?e4 ?_
  ktr_enter
  k_steps
  all_goals (try k_data)
  all_goals (exact ret _ _ _ (by assumption) (news_tail (news_tail (news_tail (by assumption)))))


theorem litB_spec {tk : Tok} (B : Below A₀ base outer h₀) (F : Fr h₀ L s.heap m) (X : (KF w.params).In h₀) (N : News h₀ L s.heap news) (T : Top qq loose mean mg mb h₀) (hk : cs.kind = .function) (hd : dp < 850) (hu : un < 8000)
  (ret : ∀ t2 h' tk', Fr h₀ L h' m → News h₀ L h' news → Q (.bytes litB.toArray t2) { s with heap := h', toks := tk' }) :
  wpAny (model PySem.Challenge.rw_og0174_01.row.prog w) (ktrTop dp un gd cn cs L a ccd cl outer) (call (.ref 307) [.bytes ([] : List UInt8).toArray tk]) Q E s := by
  revert X
  k_fill
  intro X
  refine' enter1 (Str.ofString "octets") B F X N T hk ?ho ?hcd (by omega) ?hb ?hl ?e1 ?e2 ?e3 ?e4 ?_
  ktr_enter
  k_steps
  all_goals (try k_data)
  all_goals (exact ret _ _ _ (by assumption) (news_tail (news_tail (news_tail (by assumption)))))


theorem litC_spec {tk : Tok} (B : Below A₀ base outer h₀) (F : Fr h₀ L s.heap m) (X : (KF w.params).In h₀) (N : News h₀ L s.heap news) (T : Top qq loose mean mg mb h₀) (hk : cs.kind = .function) (hd : dp < 850) (hu : un < 8000)
  (ret : ∀ t2 h' tk', Fr h₀ L h' m → News h₀ L h' news → Q (.bytes litC.toArray t2) { s with heap := h', toks := tk' }) :
  wpAny (model PySem.Challenge.rw_og0174_01.row.prog w) (ktrTop dp un gd cn cs L a ccd cl outer) (call (.ref 307) [.bytes ([40,120] : List UInt8).toArray tk]) Q E s := by
  revert X
  k_fill
  intro X
  refine' enter1 (Str.ofString "octets") B F X N T hk ?ho ?hcd (by omega) ?hb ?hl ?e1 ?e2 ?e3 ?e4 ?_
  ktr_enter
  k_steps
  all_goals (try k_data)
  all_goals (exact ret _ _ _ (by assumption) (news_tail (news_tail (news_tail (by assumption)))))

end
end
section
def octs3 : List (List UInt8) := [[97, 32, 98], [], [40, 120]]
def litL (o : List UInt8) : List UInt8 := if o = [97, 32, 98] then litA else if o = [] then litB else litC
def hexL (o : List UInt8) : List UInt8 := if o = [97, 32, 98] then hexA else if o = [] then hexB else hexC
def strL (o : List UInt8) (b least : Bool) : List UInt8 := if least then litL o else if b then hexL o else litL o
theorem octs3_len : ∀ o ∈ octs3, ((litL o).toArray.size : Int) ≤ ((hexL o).toArray.size : Int) ∧ (litL o).toArray.size ≤ 10 ∧ (hexL o).toArray.size ≤ 10 := by decide +kernel

section
variable {w : World} {dp un : Nat} {gd : Option (List Code)} {cn : Str} {cs : Scope} {a : Addr} {ccd : Value} {cl : List (Str × Addr)} {outer : List Env} {A₀ : Around} {base h₀ : Heap} {L : Addr} {m : Str → Option Value} {news : List (Addr × Obj)} {s : Shared}
  {Q E : Value → Shared → Prop} {qq : Program} {loose : List Str} {mean : ExcName → Option Value} {mg mb : Str → Option Value}

theorem lit_spec {o : List UInt8} {tk : Tok} (B : Below A₀ base outer h₀) (F : Fr h₀ L s.heap m) (X : (KF w.params).In h₀) (N : News h₀ L s.heap news) (T : Top qq loose mean mg mb h₀) (hk : cs.kind = .function) (ho : o ∈ octs3) (hd : dp < 850) (hu : un < 8000)
  (ret : ∀ t2 h' tk', Fr h₀ L h' m → News h₀ L h' news → Q (.bytes (litL o).toArray t2) { s with heap := h', toks := tk' }) :
  wpAny (model PySem.Challenge.rw_og0174_01.row.prog w) (ktrTop dp un gd cn cs L a ccd cl outer) (call (.ref 307) [.bytes o.toArray tk]) Q E s := by
  simp only [octs3, List.mem_cons, List.not_mem_nil, or_false] at ho
  rcases ho with rfl | rfl | rfl
  · exact litA_spec B F X N T hk hd hu ret
  · exact litB_spec B F X N T hk hd hu ret
  · exact litC_spec B F X N T hk hd hu ret

theorem hex_spec {o : List UInt8} {tk : Tok} (B : Below A₀ base outer h₀) (F : Fr h₀ L s.heap m) (X : (KF w.params).In h₀) (N : News h₀ L s.heap news) (T : Top qq loose mean mg mb h₀) (hk : cs.kind = .function) (ho : o ∈ octs3) (hd : dp < 850) (hu : un < 8000)
  (ret : ∀ t2 h' tk', Fr h₀ L h' m → News h₀ L h' news → Q (.bytes (hexL o).toArray t2) { s with heap := h', toks := tk' }) :
  wpAny (model PySem.Challenge.rw_og0174_01.row.prog w) (ktrTop dp un gd cn cs L a ccd cl outer) (call (.ref 314) [.bytes o.toArray tk]) Q E s := by
  simp only [octs3, List.mem_cons, List.not_mem_nil, or_false] at ho
  rcases ho with rfl | rfl | rfl
  · exact hexA_spec B F X N T hk hd hu ret
  · exact hexB_spec B F X N T hk hd hu ret
  · exact hexC_spec B F X N T hk hd hu ret

end
local macro_rules | `(tactic| walk_at "call ref") => `(tactic| (k_here; (with_reducible show wpAny _ _ (call (Value.ref 307) _) _ _ _); k_dflt (refine' lit_spec ?B ?F ?X ?N ?T ?hk ?ho ?hd ?hu ?_; (case B => k_asm); (case F => k_asm); (case X => k_asm); (case N => k_asm); (case T => k_asm); (case hk => exact rfl); (case ho => k_asm); (case hd => omega); (case hu => omega)); intro t1 h1 tk1 F1 N1))
local macro_rules | `(tactic| walk_at "call ref") => `(tactic| (k_here; (with_reducible show wpAny _ _ (call (Value.ref 314) _) _ _ _); k_dflt (refine' hex_spec ?B ?F ?X ?N ?T ?hk ?ho ?hd ?hu ?_; (case B => k_asm); (case F => k_asm); (case X => k_asm); (case N => k_asm); (case T => k_asm); (case hk => exact rfl); (case ho => k_asm); (case hd => omega); (case hu => omega)); intro t1 h1 tk1 F1 N1))
section
variable {w : World} {dp un : Nat} {gd : Option (List Code)} {cn : Str} {cs : Scope} {a : Addr} {ccd : Value} {cl : List (Str × Addr)} {outer : List Env} {A₀ : Around} {base h₀ : Heap} {L : Addr} {m : Str → Option Value} {news : List (Addr × Obj)} {s : Shared}
  {Q E : Value → Shared → Prop} {qq : Program} {loose : List Str} {mean : ExcName → Option Value} {mg mb : Str → Option Value}
theorem string_spec {o : List UInt8} {b least : Bool} {x dx : Addr} {a1 b1 c1 : Tok} (B : Below A₀ base outer h₀) (F : Fr h₀ L s.heap m) (X : (KF w.params).In h₀) (N : News h₀ L s.heap news) (T : Top qq loose mean mg mb h₀) (hk : cs.kind = .function) (ho : o ∈ octs3) (hm1 : (x, instObj 202 dx) ∈ news) (hm2 : (dx, strO w.params o b a1 b1 c1) ∈ news) (hd : dp < 800) (hu : un < 7000)
  (ret : ∀ t2 h' tk', Fr h₀ L h' m → News h₀ L h' news → Q (.bytes (strL o b least).toArray t2) { s with heap := h', toks := tk' }) :
  wpAny (model PySem.Challenge.rw_og0174_01.row.prog w) (ktrTop dp un gd cn cs L a ccd cl outer) (call (.ref 321) [.ref x, .bool least]) Q E s := by
  revert X
  k_fill
  intro X
  obtain ⟨hl, hl1, hl2⟩ := octs3_len o ho
  have hl' : ¬ ((litL o).toArray.size : Int) > ((hexL o).toArray.size : Int) := by omega
  cases least
  case' false => cases b
  all_goals (
    refine' enter2 (Str.ofString "value") (Str.ofString "is_least") B F X N T hk ?ho ?hcd (by omega) ?hb ?hl ?e1 ?e2 ?e3 ?e4 ?_
    ktr_enter
    k_steps)
  all_goals (try k_data)
  all_goals (exact ret _ _ _ (by assumption) (by assumption))
end
end
section
local macro_rules | `(tactic| walk_at "eval ListComp") => `(tactic| (k_here; k_dflt (refine listcomp_str (F₀ := by k_asm) (by rfl) (by decide) (by rfl) (by decide) (by rfl) ?_)))
local macro_rules | `(tactic| walk_at "call type:bytes") => `(tactic| k_extra "bytes")
theorem take_ints (t : Str) {i c : Nat} (h : t.cps[i]? = some c) : ((t.cps.toList.take (i + 1)).map Int.ofNat) = (t.cps.toList.take i).map Int.ofNat ++ [(c : Int)] := by
  rw [List.take_add_one]
  simp [h]

section
variable {w : World} {dp un : Nat} {gd : Option (List Code)} {cn : Str} {cs : Scope} {a : Addr} {ccd : Value} {cl : List (Str × Addr)} {outer : List Env} {A₀ : Around} {base h₀ : Heap} {L : Addr} {m : Str → Option Value} {news : List (Addr × Obj)} {s : Shared}
  {Q E : Value → Shared → Prop} {qq : Program} {loose : List Str} {mean : ExcName → Option Value} {mg mb : Str → Option Value}

theorem text_spec {t : Str} {tk : Tok} (B : Below A₀ base outer h₀) (F : Fr h₀ L s.heap m) (X : (KF w.params).In h₀) (N : News h₀ L s.heap news) (T : Top qq loose mean mg mb h₀) (hk : cs.kind = .function) (ht : ∀ c ∈ t.cps.toList, c < 128) (hz : t.cps.size ≤ 50) (hd : dp < 850) (hu : un < 8000)
  (ret : ∀ t2 h' tk', Fr h₀ L h' m → News h₀ L h' news → Q (.bytes (t.cps.toList.map Nat.toUInt8).toArray t2) { s with heap := h', toks := tk' }) :
  wpAny (model PySem.Challenge.rw_og0174_01.row.prog w) (ktrTop dp un gd cn cs L a ccd cl outer) (call (.ref 267) [.str t tk]) Q E s := by
  revert X
  k_fill
  intro X
  refine' enter1 (Str.ofString "text") B F X N T hk ?ho ?hcd (by omega) ?hb ?hl ?e1 ?e2 ?e3 ?e4 ?_
  ktr_enter
  k_steps
  refine ⟨_, _, _, rfl, rfl, by assumption, by assumption, by rw [sizeLine_eq]; omega, ?_⟩
  rintro s₂ ⟨g, rfl⟩
  refine compRest_inv (fun i ys nw => nw = news ∧ IntsAre ys ((t.cps.toList.take i).map Int.ofNat)) ⟨rfl, .nil⟩ ?_ ?_
  · intro i v I oI C oC D m₂ ys nw h tk E' hi hP hJ hC hx F1 N1 off ne
    obtain ⟨rfl, hys⟩ := hJ
    obtain ⟨c, u, hc, rfl⟩ := hP
    k_steps
    all_goals (try k_data)
    refine comp_end F1 N1 off trivial ⟨rfl, ?_⟩
    rw [take_ints t hc]
    exact ints_snoc hys _ _
  · rintro ys nw ⟨rfl, hys⟩
    rw [List.take_of_length_le (by simp)] at hys
    intro D h1 tk1 F1 N1 o1
    have hln := hys.length
    k_with "bytes" => (
      refine bytes_K (by assumption) (by assumption) (by is_list) hys (fun n hn => by obtain ⟨c, hc, rfl⟩ := List.mem_map.mp hn; have := ht c hc; simp only [Int.ofNat_eq_natCast]; omega) (by rw [sizeLine_eq]; simp at hln; omega) rfl ?_
      simp only [List.map_map]
      intro h' t' k' F' N' hB')
    k_steps
    all_goals (try k_data)
    exact ret _ _ _ (by assumption) (news_tail (by assumption))

end
end
section
def smalls : List Int := [0, 12, -7, 1, 2, 3, 4, 5, 6, 7, 8, 9]
def numL (n : Int) : List UInt8 := (Str.ofString (toString n)).cps.toList.map Nat.toUInt8
theorem smalls_txt : ∀ n ∈ smalls, (∀ c ∈ (Str.ofString (toString n)).cps.toList, c < 128) ∧ (Str.ofString (toString n)).cps.size ≤ 50 := by decide +kernel
theorem smalls_rng : ∀ n ∈ smalls, -1000 < n ∧ n < 1000 := by decide +kernel
local macro_rules | `(tactic| walk_at "call ref") => `(tactic| (k_here; k_dflt (refine' text_spec ?B ?F ?X ?N ?T ?hk ?ht ?hz ?hd ?hu ?_; (case B => k_asm); (case F => k_asm); (case X => k_asm); (case N => k_asm); (case T => k_asm); (case hk => exact rfl); (case ht => k_asm); (case hz => k_asm); (case hd => omega); (case hu => omega)); intro t1 h1 tk1 F1 N1))

section
variable {w : World} {dp un : Nat} {gd : Option (List Code)} {cn : Str} {cs : Scope} {a : Addr} {ccd : Value} {cl : List (Str × Addr)} {outer : List Env} {A₀ : Around} {base h₀ : Heap} {L : Addr} {m : Str → Option Value} {news : List (Addr × Obj)} {s : Shared}
  {Q E : Value → Shared → Prop} {qq : Program} {loose : List Str} {mean : ExcName → Option Value} {mg mb : Str → Option Value}

theorem whole_spec {n : Int} {tk : Tok} (B : Below A₀ base outer h₀) (F : Fr h₀ L s.heap m) (X : (KF w.params).In h₀) (N : News h₀ L s.heap news) (T : Top qq loose mean mg mb h₀) (hk : cs.kind = .function) (hn : n ∈ smalls) (hd : dp < 800) (hu : un < 7000)
  (ret : ∀ t2 h' tk', Fr h₀ L h' m → News h₀ L h' news → Q (.bytes (numL n).toArray t2) { s with heap := h', toks := tk' }) :
  wpAny (model PySem.Challenge.rw_og0174_01.row.prog w) (ktrTop dp un gd cn cs L a ccd cl outer) (call (.ref 288) [.int n tk]) Q E s := by
  revert X
  k_fill
  intro X
  have hx := smalls_txt n hn
  obtain ⟨hx1, hx2⟩ := hx
  obtain ⟨h0, h1⟩ := smalls_rng n hn
  have hbig : ¬ ((10 : Int) ^ Int.toNat 40 ≤ if n < 0 then -n else n) := by
    have e : (10 : Int) ^ Int.toNat 40 = 10000000000000000000000000000000000000000 := by decide +kernel
    rw [e]
    split <;> omega
  refine' enter1 (Str.ofString "number") B F X N T hk ?ho ?hcd (by omega) ?hb ?hl ?e1 ?e2 ?e3 ?e4 ?_
  ktr_enter
  k_steps
  all_goals (try k_data)
  all_goals (try (exact absurd (by assumption) hbig))
  all_goals (exact ret _ _ _ (by assumption) (by assumption))

end
end
section
def nullL : List UInt8 := [110, 117, 108, 108]
def trueL : List UInt8 := [116, 114, 117, 101]
def falseL : List UInt8 := [102, 97, 108, 115, 101]
inductive Plain (P : Params) (news : List (Addr × Obj)) : Value → String → (Bool → List UInt8) → Prop
  | null : Plain P news .none "null" (fun _ => nullL)
  | truth (b : Bool) : Plain P news (.bool b) "truth" (fun _ => if b then trueL else falseL)
  | int (n : Int) (tk : Tok) (h : n ∈ smalls) : Plain P news (.int n tk) "int" (fun _ => numL n)
  | name (x dx : Addr) (t : Str) (a b : Tok) (h1 : (x, instObj 180 dx) ∈ news) (h2 : (dx, nameO P t a b) ∈ news) (ht : plainT t = true) : Plain P news (.ref x) "name" (fun _ => nameL t)
  | str (x dx : Addr) (o : List UInt8) (h : Bool) (a b c : Tok) (h1 : (x, instObj 202 dx) ∈ news) (h2 : (dx, strO P o h a b c) ∈ news) (ho : o ∈ octs3) : Plain P news (.ref x) "string" (fun least => strL o h least)
local macro_rules | `(tactic| walk_at "call ref") => `(tactic| (k_here; (with_reducible show wpAny _ _ (call (Value.ref 288) _) _ _ _); k_dflt (refine' whole_spec ?B ?F ?X ?N ?T ?hk ?hn ?hd ?hu ?_; (case B => k_asm); (case F => k_asm); (case X => k_asm); (case N => k_asm); (case T => k_asm); (case hk => exact rfl); (case hn => k_asm); (case hd => omega); (case hu => omega)); intro t1 h1 tk1 F1 N1))
local macro_rules | `(tactic| walk_at "call ref") => `(tactic| (k_here; (with_reducible show wpAny _ _ (call (Value.ref 281) _) _ _ _); k_dflt (refine' name_spec ?B ?F ?X ?N ?T ?hk ?ht ?hd ?hu ?_; (case B => k_asm); (case F => k_asm); (case X => k_asm); (case N => k_asm); (case T => k_asm); (case hk => exact rfl); (case ht => k_asm); (case hd => omega); (case hu => omega)); intro t1 h1 tk1 F1 N1))
local macro_rules | `(tactic| walk_at "call ref") => `(tactic| (k_here; (with_reducible show wpAny _ _ (call (Value.ref 321) _) _ _ _); k_dflt (refine' string_spec ?B ?F ?X ?N ?T ?hk ?ho ?hm1 ?hm2 ?hd ?hu ?_; (case B => k_asm); (case F => k_asm); (case X => k_asm); (case N => k_asm); (case T => k_asm); (case hk => exact rfl); (case ho => k_asm); (case hm1 => k_asm); (case hm2 => k_asm); (case hd => omega); (case hu => omega)); intro t1 h1 tk1 F1 N1))
section
variable {w : World} {dp un : Nat} {gd : Option (List Code)} {cn : Str} {cs : Scope} {a : Addr} {ccd : Value} {cl : List (Str × Addr)} {outer : List Env} {A₀ : Around} {base h₀ : Heap} {L : Addr} {m : Str → Option Value} {news : List (Addr × Obj)} {s : Shared}
  {Q E : Value → Shared → Prop} {qq : Program} {loose : List Str} {mean : ExcName → Option Value} {mg mb : Str → Option Value}

theorem plain_spec {v : Value} {k : String} {e : Bool → List UInt8} {least : Bool} {tk : Tok} (B : Below A₀ base outer h₀) (F : Fr h₀ L s.heap m) (X : (KF w.params).In h₀) (N : News h₀ L s.heap news) (T : Top qq loose mean mg mb h₀) (hk : cs.kind = .function) (hp : Plain w.params news v k e) (hd : dp < 750) (hu : un < 6000)
  (ret : ∀ t2 h' tk', Fr h₀ L h' m → News h₀ L h' news → Q (.bytes (e least).toArray t2) { s with heap := h', toks := tk' }) :
  wpAny (model PySem.Challenge.rw_og0174_01.row.prog w) (ktrTop dp un gd cn cs L a ccd cl outer) (call (.ref 328) [.str (Str.ofString k) tk, v, .bool least]) Q E s := by
  revert X
  k_fill
  intro X
  cases hp
  case' truth b => cases b
  all_goals (
    refine' enter3 (Str.ofString "kind") (Str.ofString "value") (Str.ofString "is_least") B F X N T hk ?ho ?hcd (by omega) ?hb ?hl ?e1 ?e2 ?e3 ?e4 ?_
    ktr_enter
    k_steps)
  all_goals (try k_data)
  all_goals (exact ret _ _ _ (by assumption) (by assumption))

end
end
section
def Isi (w : World) (news : List (Addr × Obj)) (v : Value) (f : Value → Bool) : Prop :=
  ∀ (A : Around) (E Q : Value → Shared → Prop) (s : Shared) (g : Heap) (L : Addr) (m : Str → Option Value), A.handled = none → Fr g L s.heap m → News g L s.heap news → (KF w.params).In g →
    ∀ c ∈ ([.type "bool", .type "int", .ref 152, .ref 180, .ref 202, .type "list", .type "dict", .ref 223, .ref 251] : List Value), (∀ tk, Q (.bool (f c)) { s with toks := tk }) → wpAny (model PySem.Challenge.rw_og0174_01.row.prog w) A (call (.builtin "isinstance") [v, c]) Q E s
def kindOf (f : Value → Bool) : String := if f (.type "bool") then "truth" else if f (.type "int") then "int" else if f (.ref 152) then "real" else if f (.ref 180) then "name" else if f (.ref 202) then "string" else if f (.type "list") then "array" else if f (.type "dict") then "dict" else if f (.ref 223) then "stream" else if f (.ref 251) then "ref" else ""
theorem qstr {Q : Value → Shared → Prop} {k k' : String} {t : Tok} {s : Shared} (h : Q (.str (Str.ofString k') t) s) (e : k' = k) : Q (.str (Str.ofString k) t) s := e ▸ h
local macro_rules | `(tactic| walk_at "compareOp Is") => `(tactic| (k_here; (with_reducible show wpAny _ _ (compareOp CmpOp.Is _ Value.none) _ _ _); refine is_none_ne (by assumption) ?_))
local macro_rules | `(tactic| walk_at "call builtin:isinstance") => `(tactic| k_extra "isi")

section
variable {w : World} {dp un : Nat} {gd : Option (List Code)} {cn : Str} {cs : Scope} {a : Addr} {ccd : Value} {cl : List (Str × Addr)} {outer : List Env} {A₀ : Around} {base h₀ : Heap} {L : Addr} {m : Str → Option Value} {news : List (Addr × Obj)} {s : Shared}
  {Q E : Value → Shared → Prop} {qq : Program} {loose : List Str} {mean : ExcName → Option Value} {mg mb : Str → Option Value}

theorem kind_spec {v : Value} {f : Value → Bool} (B : Below A₀ base outer h₀) (F : Fr h₀ L s.heap m) (X : (KF w.params).In h₀) (N : News h₀ L s.heap news) (T : Top qq loose mean mg mb h₀) (hk : cs.kind = .function) (hI : Isi w news v f) (hv : v ≠ .none) (hne : kindOf f ≠ "") (hd : dp < 850) (hu : un < 8000)
  (ret : ∀ t2 h' tk', Fr h₀ L h' m → News h₀ L h' news → Q (.str (Str.ofString (kindOf f)) t2) { s with heap := h', toks := tk' }) :
  wpAny (model PySem.Challenge.rw_og0174_01.row.prog w) (ktrTop dp un gd cn cs L a ccd cl outer) (call (.ref 262) [v]) Q E s := by
  revert X
  k_fill
  intro X
  refine' enter1 (Str.ofString "value") B F X N T hk ?ho ?hcd (by omega) ?hb ?hl ?e1 ?e2 ?e3 ?e4 ?_
  ktr_enter
  k_with "isi" => (
    refine hI _ _ _ _ _ _ _ (by with_unfolding_all rfl) (by assumption) (by assumption) (by assumption) _ (by decide) ?_
    intro tki)
  k_steps
  all_goals (try k_data)
  all_goals (first
    | (refine qstr (ret _ _ _ (by assumption) (by assumption)) ?_; simp only [kindOf, *]; rfl)
    | (exfalso; apply hne; simp only [kindOf, *]; rfl))

end
end
section
local macro_rules | `(tactic| walk_at "call builtin:isinstance") => `(tactic| (k_here; k_dflt (refine' kia_one kitx_dict ?X ?c ?ee ?nb ?_; (case c => (refine' kitAt_N ?N ?m ?c; (case N => k_asm); (case m => k_mem); (case c => assumption))); (case X => k_in); (case ee => kit_is); (case nb => kit_nb); k_whole; intro _)))

section
variable {w : World} {dp un : Nat} {gd : Option (List Code)} {cn : Str} {cs : Scope} {a : Addr} {ccd : Value} {cl : List (Str × Addr)} {outer : List Env} {A₀ : Around} {base h₀ : Heap} {L : Addr} {m : Str → Option Value} {news : List (Addr × Obj)} {s : Shared}
  {Q E : Value → Shared → Prop} {qq : Program} {loose : List Str} {mean : ExcName → Option Value} {mg mb : Str → Option Value}

theorem isi_int {w : World} {news : List (Addr × Obj)} {n : Int} {tk : Tok}  : Isi w news (.int n tk) (fun c => match c with | .type "int" => true | _ => false) := by
  intro A E Q s g L m hh F N X c hc h
  revert X
  k_fill
  intro X
  simp only [List.mem_cons, List.not_mem_nil, or_false] at hc
  rcases hc with rfl | rfl | rfl | rfl | rfl | rfl | rfl | rfl | rfl
  all_goals k_steps
  all_goals (try exact h _)

theorem isi_bool {w : World} {news : List (Addr × Obj)} {b : Bool}  : Isi w news (.bool b) (fun c => match c with | .type "bool" => true | .type "int" => true | _ => false) := by
  intro A E Q s g L m hh F N X c hc h
  revert X
  k_fill
  intro X
  simp only [List.mem_cons, List.not_mem_nil, or_false] at hc
  rcases hc with rfl | rfl | rfl | rfl | rfl | rfl | rfl | rfl | rfl
  all_goals k_steps
  all_goals (try exact h _)

theorem isi_name {w : World} {news : List (Addr × Obj)} {x dx : Addr} {o : Obj} (h1 : (x, instObj 180 dx) ∈ news) (h2 : (dx, o) ∈ news) : Isi w news (.ref x) (fun c => match c with | .ref 180 => true | _ => false) := by
  intro A E Q s g L m hh F N X c hc h
  revert X
  k_fill
  intro X
  simp only [List.mem_cons, List.not_mem_nil, or_false] at hc
  rcases hc with rfl | rfl | rfl | rfl | rfl | rfl | rfl | rfl | rfl
  all_goals k_steps
  all_goals (try exact h _)

theorem isi_str {w : World} {news : List (Addr × Obj)} {x dx : Addr} {o : Obj} (h1 : (x, instObj 202 dx) ∈ news) (h2 : (dx, o) ∈ news) : Isi w news (.ref x) (fun c => match c with | .ref 202 => true | _ => false) := by
  intro A E Q s g L m hh F N X c hc h
  revert X
  k_fill
  intro X
  simp only [List.mem_cons, List.not_mem_nil, or_false] at hc
  rcases hc with rfl | rfl | rfl | rfl | rfl | rfl | rfl | rfl | rfl
  all_goals k_steps
  all_goals (try exact h _)

theorem isi_ref {w : World} {news : List (Addr × Obj)} {x dx : Addr} {o : Obj} (h1 : (x, instObj 251 dx) ∈ news) (h2 : (dx, o) ∈ news) : Isi w news (.ref x) (fun c => match c with | .ref 251 => true | _ => false) := by
  intro A E Q s g L m hh F N X c hc h
  revert X
  k_fill
  intro X
  simp only [List.mem_cons, List.not_mem_nil, or_false] at hc
  rcases hc with rfl | rfl | rfl | rfl | rfl | rfl | rfl | rfl | rfl
  all_goals k_steps
  all_goals (try exact h _)

theorem isi_list {w : World} {news : List (Addr × Obj)} {x : Addr} {vs : List Value} {k : Nat} (h1 : (x, listOf vs.toArray k) ∈ news) : Isi w news (.ref x) (fun c => match c with | .type "list" => true | _ => false) := by
  intro A E Q s g L m hh F N X c hc h
  revert X
  k_fill
  intro X
  simp only [List.mem_cons, List.not_mem_nil, or_false] at hc
  rcases hc with rfl | rfl | rfl | rfl | rfl | rfl | rfl | rfl | rfl
  all_goals k_steps
  all_goals (try exact h _)

theorem isi_dict {w : World} {news : List (Addr × Obj)} {x : Addr} {o : Obj} (h1 : (x, o) ∈ news) (h2 : o.cls = .type "dict") : Isi w news (.ref x) (fun c => match c with | .type "dict" => true | _ => false) := by
  intro A E Q s g L m hh F N X c hc h
  revert X
  k_fill
  intro X
  simp only [List.mem_cons, List.not_mem_nil, or_false] at hc
  rcases hc with rfl | rfl | rfl | rfl | rfl | rfl | rfl | rfl | rfl
  all_goals k_steps
  all_goals (try exact h _)

end
end
section
abbrev Parts := Bool → List (List UInt8)
inductive Leaf (P : Params) (news : List (Addr × Obj)) : Value → Parts → Prop
  | plain (v : Value) (k : String) (e : Bool → List UInt8) (h : Plain P news v k e) : Leaf P news v (fun b => [e b])
  | ref (x dx : Addr) (n : Int) (a b c d : Tok) (h1 : (x, instObj 251 dx) ∈ news) (h2 : (dx, refO P n 0 a b c d) ∈ news) (hn : n ∈ ([1, 2, 3, 4, 5, 6, 7, 8, 9] : List Int)) : Leaf P news (.ref x) (fun _ => [numL n, numL 0, [82]])
inductive Octs : List Value → List (List UInt8) → Prop
  | nil : Octs [] []
  | cons (b : List UInt8) (t : Tok) {vs bs} : Octs vs bs → Octs (.bytes b.toArray t :: vs) (b :: bs)
theorem Octs.snoc {vs bs} (h : Octs vs bs) (b : List UInt8) (t : Tok) : Octs (vs ++ [.bytes b.toArray t]) (bs ++ [b]) := by
  induction h with
  | nil => exact .cons _ _ .nil
  | cons b t _ ih => exact .cons _ _ ih
theorem Octs.append {vs bs vs' bs'} (h : Octs vs bs) (h' : Octs vs' bs') : Octs (vs ++ vs') (bs ++ bs') := by
  induction h with
  | nil => exact h'
  | cons b t _ ih => exact .cons _ _ ih
theorem Octs.length {vs bs} (h : Octs vs bs) : vs.length = bs.length := by
  induction h with
  | nil => rfl
  | cons b t _ ih => simp [ih]
inductive All2 (R : Value → Parts → Prop) : List Value → List Parts → Prop
  | nil : All2 R [] []
  | cons {v e vs es} : R v e → All2 R vs es → All2 R (v :: vs) (e :: es)
theorem All2.imp {R R' : Value → Parts → Prop} (h : ∀ v e, R v e → R' v e) {vs es} (a : All2 R vs es) : All2 R' vs es := by
  induction a with
  | nil => exact .nil
  | cons x _ ih => exact .cons (h _ _ x) ih
theorem All2.snoc {R : Value → Parts → Prop} {vs es v e} (a : All2 R vs es) (h : R v e) : All2 R (vs ++ [v]) (es ++ [e]) := by
  induction a with
  | nil => exact .cons h .nil
  | cons x _ ih => exact .cons x ih
theorem All2.length {R : Value → Parts → Prop} {vs es} (a : All2 R vs es) : vs.length = es.length := by
  induction a with
  | nil => rfl
  | cons _ _ ih => simp [ih]
def dkeys : List Str := [Str.ofString "Z", Str.ofString "A", Str.ofString "", Str.ofString "M"]
def skeys : Nat → List Str
  | 0 => []
  | 1 => [Str.ofString "Z"]
  | 2 => [Str.ofString "A", Str.ofString "Z"]
  | 3 => [Str.ofString "", Str.ofString "A", Str.ofString "Z"]
  | _ => [Str.ofString "", Str.ofString "A", Str.ofString "M", Str.ofString "Z"]
def dorder (n : Nat) (least : Bool) : List Str := if least then skeys n else dkeys.take n
def arrE (es : List Parts) : Parts := fun b => [91] :: (es.flatMap (· b) ++ [[93]])
def dictE (n : Nat) (g : Str → Parts) : Parts := fun b => [60, 60] :: ((dorder n b).flatMap (fun k => g k b) ++ [[62, 62]])
def Is (w : World) (news : List (Addr × Obj)) : Nat → Value → Parts → Prop
  | 0 => fun v e => Leaf w.params news v e
  | d + 1 => fun v e => Leaf w.params news v e
      ∨ (∃ x vs k es, v = .ref x ∧ (x, listOf vs.toArray k) ∈ news ∧ vs.length ≤ 4 ∧ All2 (Is w news d) vs es ∧ e = arrE es)
      ∨ (∃ x o kvs n g, v = .ref x ∧ (x, o) ∈ news ∧ o.IsDictOf (strKind PySem.Challenge.rw_og0174_01.row.prog w) kvs ∧ (x == sysModules) = false ∧ n ≤ 4 ∧ kvs.map (·.1) = dkeys.take n ∧
          (∀ k ∈ dkeys.take n, ∃ u, valueAt kvs k = some u ∧ ((u = .none ∧ g k = fun _ => []) ∨ (u ≠ .none ∧ ∃ f, Is w news d u f ∧ g k = fun b => nameL k :: f b))) ∧ e = dictE n g)
end
section
theorem plain_isi {w : World} {news : List (Addr × Obj)} {v : Value} {k : String} {e : Bool → List UInt8} (h : Plain w.params news v k e) : v = .none ∨ ∃ f, v ≠ .none ∧ Isi w news v f ∧ kindOf f = k ∧ k ≠ "" := by
  cases h with
  | null => exact .inl rfl
  | truth b => exact .inr ⟨_, by simp, isi_bool, rfl, by decide⟩
  | int n tk h => exact .inr ⟨_, by simp, isi_int, rfl, by decide⟩
  | name x dx t a b h1 h2 ht => exact .inr ⟨_, by simp, isi_name h1 h2, rfl, by decide⟩
  | str x dx o h a b c h1 h2 ho => exact .inr ⟨_, by simp, isi_str h1 h2, rfl, by decide⟩
theorem isi_cons {w : World} {news : List (Addr × Obj)} {v : Value} {f : Value → Bool} {q : Addr × Obj} (h : Isi w news v f) : Isi w (q :: news) v f :=
  fun A E Q s g L m hh F N X c hc r => h A E Q s g L m hh F (news_tail N) X c hc r
theorem plain_kinds {P : Params} {news : List (Addr × Obj)} {v : Value} {k : String} {e : Bool → List UInt8} (h : Plain P news v k e) : (Str.ofString k == Str.ofString "array") = false ∧ (Str.ofString k == Str.ofString "dict") = false ∧ (Str.ofString k == Str.ofString "ref") = false := by
  cases h <;> decide +kernel
theorem plain_mono {P : Params} {news news' : List (Addr × Obj)} {v : Value} {k : String} {e : Bool → List UInt8} (h : Plain P news v k e) (hs : ∀ q ∈ news, q ∈ news') : Plain P news' v k e := by
  cases h with
  | null => exact .null
  | truth b => exact .truth b
  | int n tk h => exact .int n tk h
  | name x dx t a b h1 h2 ht => exact .name x dx t a b (hs _ h1) (hs _ h2) ht
  | str x dx o h a b c h1 h2 ho => exact .str x dx o h a b c (hs _ h1) (hs _ h2) ho

section
variable {w : World} {dp un : Nat} {gd : Option (List Code)} {cn : Str} {cs : Scope} {a : Addr} {ccd : Value} {cl : List (Str × Addr)} {outer : List Env} {A₀ : Around} {base h₀ : Heap} {L : Addr} {m : Str → Option Value} {news : List (Addr × Obj)} {s : Shared}
  {Q E : Value → Shared → Prop} {qq : Program} {loose : List Str} {mean : ExcName → Option Value} {mg mb : Str → Option Value}

theorem kindnone_spec (B : Below A₀ base outer h₀) (F : Fr h₀ L s.heap m) (X : (KF w.params).In h₀) (N : News h₀ L s.heap news) (T : Top qq loose mean mg mb h₀) (hk : cs.kind = .function) (hd : dp < 850) (hu : un < 8000)
  (ret : ∀ t2 h' tk', Fr h₀ L h' m → News h₀ L h' news → Q (.str (Str.ofString "null") t2) { s with heap := h', toks := tk' }) :
  wpAny (model PySem.Challenge.rw_og0174_01.row.prog w) (ktrTop dp un gd cn cs L a ccd cl outer) (call (.ref 262) [.none]) Q E s := by
  revert X
  k_fill
  intro X
  refine' enter1 (Str.ofString "value") B F X N T hk ?ho ?hcd (by omega) ?hb ?hl ?e1 ?e2 ?e3 ?e4 ?_
  ktr_enter
  k_steps
  all_goals (try k_data)
  all_goals (exact ret _ _ _ (by assumption) (by assumption))
theorem kindP_spec {v : Value} {k : String} {e : Bool → List UInt8} {q : Addr × Obj} (B : Below A₀ base outer h₀) (F : Fr h₀ L s.heap m) (X : (KF w.params).In h₀) (N : News h₀ L s.heap (q :: news)) (T : Top qq loose mean mg mb h₀) (hk : cs.kind = .function) (hp : Plain w.params news v k e) (hd : dp < 850) (hu : un < 8000)
  (ret : ∀ t2 h' tk', Fr h₀ L h' m → News h₀ L h' (q :: news) → Q (.str (Str.ofString k) t2) { s with heap := h', toks := tk' }) :
  wpAny (model PySem.Challenge.rw_og0174_01.row.prog w) (ktrTop dp un gd cn cs L a ccd cl outer) (call (.ref 262) [v]) Q E s := by
  rcases plain_isi hp with rfl | ⟨f, hv, hi, hk2, hne⟩
  · cases hp
    exact kindnone_spec B F X N T hk hd hu ret
  · subst hk2
    exact kind_spec B F X N T hk (isi_cons hi) hv hne hd hu ret

end
local macro_rules | `(tactic| walk_at "call ref") => `(tactic| (k_here; (with_reducible show wpAny _ _ (call (Value.ref 262) _) _ _ _); k_dflt (refine' kindP_spec ?B ?F ?X ?N ?T ?hk ?hp ?hd ?hu ?_; (case B => k_asm); (case F => k_asm); (case X => k_asm); (case N => k_asm); (case T => k_asm); (case hk => exact rfl); (case hp => k_asm); (case hd => omega); (case hu => omega)); intro t1 h1 tk1 F1 N1))
local macro_rules | `(tactic| walk_at "call ref") => `(tactic| (k_here; (with_reducible show wpAny _ _ (call (Value.ref 328) _) _ _ _); k_dflt (refine' plain_spec ?B ?F ?X ?N ?T ?hk ?hp ?hd ?hu ?_; (case B => k_asm); (case F => k_asm); (case X => k_asm); (case N => k_asm); (case T => k_asm); (case hk => exact rfl); (case hp => k_asm); (case hd => omega); (case hu => omega)); intro t1 h1 tk1 F1 N1))
section
variable {w : World} {dp un : Nat} {gd : Option (List Code)} {cn : Str} {cs : Scope} {a : Addr} {ccd : Value} {cl : List (Str × Addr)} {outer : List Env} {A₀ : Around} {base h₀ : Heap} {L : Addr} {m : Str → Option Value} {news : List (Addr × Obj)} {s : Shared}
  {Q E : Value → Shared → Prop} {qq : Program} {loose : List Str} {mean : ExcName → Option Value} {mg mb : Str → Option Value}
theorem laypl_spec {p : Addr} {vs : List Value} {bs : List (List UInt8)} {kp : Nat} {v : Value} {k : String} {e : Bool → List UInt8} {least : Bool} (B : Below A₀ base outer h₀) (F : Fr h₀ L s.heap m) (X : (KF w.params).In h₀) (N : News h₀ L s.heap ((p, listOf vs.toArray kp) :: news)) (T : Top qq loose mean mg mb h₀) (hk : cs.kind = .function) (hpn : ∀ q ∈ news, @Ne Nat q.1 p) (ho : Octs vs bs) (hz : vs.length ≤ 3000) (hp : Plain w.params news v k e) (hd : dp < 700) (hu : un < 5000)
  (ret : ∀ vs' kp' h' tk', Octs vs' (bs ++ [e least]) → Fr h₀ L h' m → News h₀ L h' ((p, listOf vs'.toArray kp') :: news) → Q .none { s with heap := h', toks := tk' }) :
  wpAny (model PySem.Challenge.rw_og0174_01.row.prog w) (ktrTop dp un gd cn cs L a ccd cl outer) (call (.ref 349) [.ref p, v, .bool least]) Q E s := by
  revert X
  k_fill
  intro X
  obtain ⟨hk1, hk2, hk3⟩ := plain_kinds hp
  have hp' : Plain w.params ((p, listOf vs.toArray kp) :: news) v k e := plain_mono hp fun q hq => .tail _ hq
  refine' enter3 (Str.ofString "parts") (Str.ofString "value") (Str.ofString "is_least") B F X N T hk ?ho ?hcd (by omega) ?hb ?hl ?e1 ?e2 ?e3 ?e4 ?_
  ktr_enter
  k_steps
  all_goals (try k_data)
  all_goals (
    rename_i kF kN _ _
    rw [push_list] at kN
    exact ret _ _ _ _ (ho.snoc _ _) kF kN)
end
end
section
theorem refnum : ∀ n ∈ ([1, 2, 3, 4, 5, 6, 7, 8, 9] : List Int), n ∈ smalls ∧ 0 ≤ n ∧ (Str.ofString "ref" == Str.ofString "array") = false ∧ (Str.ofString "ref" == Str.ofString "dict") = false ∧ (0 : Int) ∈ smalls := by decide +kernel

local macro_rules | `(tactic| k_mem) => `(tactic| exact List.Mem.tail _ (List.Mem.tail _ (List.Mem.tail _ (by assumption))))
local macro_rules | `(tactic| k_mem) => `(tactic| exact List.Mem.tail _ (List.Mem.tail _ (by assumption)))
local macro_rules | `(tactic| k_mem) => `(tactic| exact List.Mem.tail _ (by assumption))
local macro_rules | `(tactic| walk_at "call ref") => `(tactic| (k_here; (with_reducible show wpAny _ _ (call (Value.ref 288) _) _ _ _); k_dflt (refine' whole_spec ?B ?F ?X ?N ?T ?hk ?hn ?hd ?hu ?_; (case B => k_asm); (case F => k_asm); (case X => k_asm); (case N => k_asm); (case T => k_asm); (case hk => exact rfl); (case hn => k_asm); (case hd => omega); (case hu => omega)); intro t1 h1 tk1 F1 N1))
section
variable {w : World} {dp un : Nat} {gd : Option (List Code)} {cn : Str} {cs : Scope} {a : Addr} {ccd : Value} {cl : List (Str × Addr)} {outer : List Env} {A₀ : Around} {base h₀ : Heap} {L : Addr} {m : Str → Option Value} {news : List (Addr × Obj)} {s : Shared}
  {Q E : Value → Shared → Prop} {qq : Program} {loose : List Str} {mean : ExcName → Option Value} {mg mb : Str → Option Value}

theorem layref_spec {p : Addr} {vs : List Value} {bs : List (List UInt8)} {kp : Nat} {x dx : Addr} {n : Int} {a1 b1 c1 d1 : Tok} (B : Below A₀ base outer h₀) (F : Fr h₀ L s.heap m) (X : (KF w.params).In h₀) (N : News h₀ L s.heap ((p, listOf vs.toArray kp) :: news)) (T : Top qq loose mean mg mb h₀) (hk : cs.kind = .function) (hpn : ∀ q ∈ news, @Ne Nat q.1 p) (ho : Octs vs bs) (hz : vs.length ≤ 3000) (h1 : (x, instObj 251 dx) ∈ news) (h2 : (dx, refO w.params n 0 a1 b1 c1 d1) ∈ news) (hn : n ∈ ([1, 2, 3, 4, 5, 6, 7, 8, 9] : List Int)) (hd : dp < 750) (hu : un < 6000)
  (ret : ∀ vs' kp' h' tk', Octs vs' (bs ++ [numL n, numL 0, [82]]) → Fr h₀ L h' m → News h₀ L h' ((p, listOf vs'.toArray kp') :: news) → Q .none { s with heap := h', toks := tk' }) :
  wpAny (model PySem.Challenge.rw_og0174_01.row.prog w) (ktrTop dp un gd cn cs L a ccd cl outer) (call (.ref 335) [.ref p, .ref x]) Q E s := by
  revert X
  k_fill
  intro X
  obtain ⟨hn1, hn0, _, _, hn2⟩ := refnum n hn
  refine' enter2 (Str.ofString "parts") (Str.ofString "value") B F X N T hk ?ho ?hcd (by omega) ?hb ?hl ?e1 ?e2 ?e3 ?e4 ?_
  ktr_enter
  k_steps
  all_goals (try k_data)
  all_goals (
    rename_i kF kN _ _
    rw [push_list, push_list, push_list] at kN
    refine ret _ _ _ _ ?_ kF kN
    rw [show bs ++ [numL n, numL 0, [82]] = ((bs ++ [numL n]) ++ [numL 0]) ++ [[82]] by simp]
    exact ((ho.snoc _ _).snoc _ _).snoc [82] _)

end
local macro_rules | `(tactic| walk_at "call ref") => `(tactic| (k_here; (with_reducible show wpAny _ _ (call (Value.ref 262) _) _ _ _); k_dflt (refine' kind_spec ?B ?F ?X ?N ?T ?hk ?hI ?hv ?hne ?hd ?hu ?_; (case B => k_asm); (case F => k_asm); (case X => k_asm); (case N => k_asm); (case T => k_asm); (case hk => exact rfl); (case hI => k_asm); (case hv => simp); (case hne => decide); (case hd => omega); (case hu => omega)); intro t1 h1 tk1 F1 N1))
local macro_rules | `(tactic| walk_at "call ref") => `(tactic| (k_here; (with_reducible show wpAny _ _ (call (Value.ref 335) _) _ _ _); k_dflt (refine' layref_spec ?B ?F ?X ?N ?T ?hk ?hpn ?ho ?hz ?h1 ?h2 ?hn ?hd ?hu ?_; (case B => k_asm); (case F => k_asm); (case X => k_asm); (case N => k_asm); (case T => k_asm); (case hk => exact rfl); (case hpn => k_asm); (case ho => k_asm); (case hz => k_asm); (case h1 => k_asm); (case h2 => k_asm); (case hn => k_asm); (case hd => omega); (case hu => omega)); intro vs1 kp1 h1 tk1 O1 F1 N1))
section
variable {w : World} {dp un : Nat} {gd : Option (List Code)} {cn : Str} {cs : Scope} {a : Addr} {ccd : Value} {cl : List (Str × Addr)} {outer : List Env} {A₀ : Around} {base h₀ : Heap} {L : Addr} {m : Str → Option Value} {news : List (Addr × Obj)} {s : Shared}
  {Q E : Value → Shared → Prop} {qq : Program} {loose : List Str} {mean : ExcName → Option Value} {mg mb : Str → Option Value}
theorem layrf_spec {p : Addr} {vs : List Value} {bs : List (List UInt8)} {kp : Nat} {x dx : Addr} {n : Int} {a1 b1 c1 d1 : Tok} {least : Bool} (B : Below A₀ base outer h₀) (F : Fr h₀ L s.heap m) (X : (KF w.params).In h₀) (N : News h₀ L s.heap ((p, listOf vs.toArray kp) :: news)) (T : Top qq loose mean mg mb h₀) (hk : cs.kind = .function) (hpn : ∀ q ∈ news, @Ne Nat q.1 p) (ho : Octs vs bs) (hz : vs.length ≤ 3000) (h1 : (x, instObj 251 dx) ∈ news) (h2 : (dx, refO w.params n 0 a1 b1 c1 d1) ∈ news) (hn : n ∈ ([1, 2, 3, 4, 5, 6, 7, 8, 9] : List Int)) (hd : dp < 700) (hu : un < 5000)
  (ret : ∀ vs' kp' h' tk', Octs vs' (bs ++ [numL n, numL 0, [82]]) → Fr h₀ L h' m → News h₀ L h' ((p, listOf vs'.toArray kp') :: news) → Q .none { s with heap := h', toks := tk' }) :
  wpAny (model PySem.Challenge.rw_og0174_01.row.prog w) (ktrTop dp un gd cn cs L a ccd cl outer) (call (.ref 349) [.ref p, .ref x, .bool least]) Q E s := by
  revert X
  k_fill
  intro X
  obtain ⟨_, _, hk1, hk2, _⟩ := refnum n hn
  have hI := isi_cons (q := (p, listOf vs.toArray kp)) (isi_ref (w := w) h1 h2)
  refine' enter3 (Str.ofString "parts") (Str.ofString "value") (Str.ofString "is_least") B F X N T hk ?ho ?hcd (by omega) ?hb ?hl ?e1 ?e2 ?e3 ?e4 ?_
  ktr_enter
  k_steps
  all_goals (try k_data)
  all_goals (exact ret _ _ _ _ (by assumption) (by assumption) (by assumption))
end
end
section
theorem Leaf.mono {P : Params} {news news' : List (Addr × Obj)} {v : Value} {e : Parts} (h : Leaf P news v e) (hs : ∀ q ∈ news, q ∈ news') : Leaf P news' v e := by
  cases h with
  | plain v k e h => exact .plain v k e (plain_mono h hs)
  | ref x dx n a b c d h1 h2 hn => exact .ref x dx n a b c d (hs _ h1) (hs _ h2) hn
theorem Is.mono {w : World} {news news' : List (Addr × Obj)} (hs : ∀ q ∈ news, q ∈ news') : ∀ (d : Nat) (v : Value) (e : Parts), Is w news d v e → Is w news' d v e := by
  intro d
  induction d with
  | zero => intro v e h; exact Leaf.mono h hs
  | succ d ih =>
    intro v e h
    rcases h with h | ⟨x, vs, k, es, rfl, hm, hl, ha, rfl⟩ | ⟨x, o, kvs, n, g, rfl, hm, ho, lo, hn, hk, hg, rfl⟩
    · exact .inl (Leaf.mono h hs)
    · exact .inr (.inl ⟨x, vs, k, es, rfl, hs _ hm, hl, ha.imp ih, rfl⟩)
    · refine .inr (.inr ⟨x, o, kvs, n, g, rfl, hs _ hm, ho, lo, hn, hk, fun k hk => ?_, rfl⟩)
      obtain ⟨u, hu, h⟩ := hg k hk
      refine ⟨u, hu, ?_⟩
      rcases h with ⟨h1, h2⟩ | ⟨h1, f, h2, h3⟩
      · exact .inl ⟨h1, h2⟩
      · exact .inr ⟨h1, f, ih _ _ h2, h3⟩
theorem Is.leaf {w : World} {news : List (Addr × Obj)} {v : Value} {e : Parts} (d : Nat) (h : Leaf w.params news v e) : Is w news d v e := by
  cases d with
  | zero => exact h
  | succ d => exact .inl h
def LaySpec (w : World) (d : Nat) : Prop :=
  ∀ {dp un : Nat} {gd : Option (List Code)} {cn : Str} {cs : Scope} {a : Addr} {ccd : Value} {cl : List (Str × Addr)} {outer : List Env} {A₀ : Around} {base h₀ : Heap} {L : Addr} {m : Str → Option Value} {news : List (Addr × Obj)} {s : Shared}
  {Q E : Value → Shared → Prop} {qq : Program} {loose : List Str} {mean : ExcName → Option Value} {mg mb : Str → Option Value}
  {p : Addr} {vs : List Value} {bs : List (List UInt8)} {kp : Nat} {v : Value} {e : Parts} {least : Bool} (uB : Below A₀ base outer h₀) (uF : Fr h₀ L s.heap m) (uX : (KF w.params).In h₀) (uN : News h₀ L s.heap ((p, listOf vs.toArray kp) :: news)) (uT : Top qq loose mean mg mb h₀) (uhk : cs.kind = .function)
  (uhpn : ∀ q ∈ news, @Ne Nat q.1 p) (uho : Octs vs bs) (uhI : Is w news d v e) (uhz : vs.length + (e least).length ≤ 3000) (uhd : dp + 20 * d < 650) (uhu : un + 40 * d < 4000)
  (uret : ∀ vs' kp' h' tk', Octs vs' (bs ++ e least) → Fr h₀ L h' m → News h₀ L h' ((p, listOf vs'.toArray kp') :: news) → Q .none { s with heap := h', toks := tk' }),
  wpAny (model PySem.Challenge.rw_og0174_01.row.prog w) (ktrTop dp un gd cn cs L a ccd cl outer) (call (.ref 349) [.ref p, v, .bool least]) Q E s
theorem lay_leaf {w : World} (d : Nat) {dp un : Nat} {gd : Option (List Code)} {cn : Str} {cs : Scope} {a : Addr} {ccd : Value} {cl : List (Str × Addr)} {outer : List Env} {A₀ : Around} {base h₀ : Heap} {L : Addr} {m : Str → Option Value} {news : List (Addr × Obj)} {s : Shared}
  {Q E : Value → Shared → Prop} {qq : Program} {loose : List Str} {mean : ExcName → Option Value} {mg mb : Str → Option Value}
  {p : Addr} {vs : List Value} {bs : List (List UInt8)} {kp : Nat} {v : Value} {e : Parts} {least : Bool} (B : Below A₀ base outer h₀) (F : Fr h₀ L s.heap m) (X : (KF w.params).In h₀) (N : News h₀ L s.heap ((p, listOf vs.toArray kp) :: news)) (T : Top qq loose mean mg mb h₀) (hk : cs.kind = .function)
  (hpn : ∀ q ∈ news, @Ne Nat q.1 p) (ho : Octs vs bs) (hI : Leaf w.params news v e) (hz : vs.length + (e least).length ≤ 3000) (hd : dp + 20 * d < 650) (hu : un + 40 * d < 4000)
  (ret : ∀ vs' kp' h' tk', Octs vs' (bs ++ e least) → Fr h₀ L h' m → News h₀ L h' ((p, listOf vs'.toArray kp') :: news) → Q .none { s with heap := h', toks := tk' }) :
  wpAny (model PySem.Challenge.rw_og0174_01.row.prog w) (ktrTop dp un gd cn cs L a ccd cl outer) (call (.ref 349) [.ref p, v, .bool least]) Q E s := by
  cases hI with
  | plain v k e h => exact laypl_spec B F X N T hk hpn ho (by omega) h (by omega) (by omega) ret
  | ref x dx n a b c d h1 h2 hn => exact layrf_spec B F X N T hk hpn ho (by omega) h1 h2 hn (by omega) (by omega) ret
end
section
local macro_rules | `(tactic| walk_at "compareOp NotEq ref ref") => `(tactic| (k_here; (with_reducible show wpAny _ _ (compareOp CmpOp.NotEq (Value.ref _) (Value.ref _)) _ _ _); k_dflt (refine ke_ne_ints (by is_list) (by is_list) (by l_ints) (by l_ints) (by ke_room) ?_); (try simp only [dec_cons_nil, dec_nil_nil, Bool.not_true, Bool.not_false])))
local macro_rules | `(tactic| walk_at "call builtin:list.pop") => `(tactic| (k_here; k_dflt (refine' kl_popAt ?F ?N ?f ?k ?e ?U ?z ?_; (case F => k_asm); (case N => k_asm); (case U => k_upd); (case f => rfl); (case k => exact seqIndex0 _ _); (case e => rfl); (case z => (rw [sizeLine_eq]; simp only [List.length_cons] at *; omega))); (intro h' F' N'; (try dsimp only [List.nil_append, List.cons_append] at N'))))
section
variable {w : World} {dp un : Nat} {gd : Option (List Code)} {cn : Str} {cs : Scope} {a : Addr} {ccd : Value} {cl : List (Str × Addr)} {outer : List Env} {A₀ : Around} {base h₀ : Heap} {L : Addr} {m : Str → Option Value} {news : List (Addr × Obj)} {s : Shared}
  {Q E : Value → Shared → Prop} {qq : Program} {loose : List Str} {mean : ExcName → Option Value} {mg mb : Str → Option Value}

theorem draw_spec {p c : Addr} {n r k : Int} {tn tr tk : Tok} {kp kc : Nat} {vs : List Value} {ns : List Int}
   (B : Below A₀ base outer h₀) (F : Fr h₀ L s.heap m) (X : (KF w.params).In h₀)
   (N : News h₀ L s.heap ((p, listOf #[.ref c, .int n tn, .int r tr] kp) :: (c, listOf vs.toArray kc) :: news))
   (T : Top qq loose mean mg mb h₀) (hk : cs.kind = .function)
   (hpc : @Ne Nat p c) (hpn : ∀ q ∈ news, @Ne Nat q.1 p) (hcn : ∀ q ∈ news, @Ne Nat q.1 c)
   (hi : IntsAre vs ns) (hlen : vs.length ≤ 1000) (k0 : 0 < k) (k1 : k < 1000) (hd : dp < 950) (hu : un < 9000)
   (ret : ∀ i t n' r' tn' tr' kp' kc' vs' ns' h' tk', Fr h₀ L h' m → News h₀ L h' ((p, listOf #[.ref c, .int n' tn', .int r' tr'] kp') :: (c, listOf vs'.toArray kc') :: news) →
       IntsAre vs' ns' → vs'.length ≤ 1000 → 0 ≤ i → i < k → Q (.int i t) { s with heap := h', toks := tk' }) :
   wpAny (model PySem.Challenge.rw_og0174_01.row.prog w) (ktrTop dp un gd cn cs L a ccd cl outer) (call (.ref 375) [.ref p, .int k tk]) Q E s := by
  revert X
  k_fill
  intro X
  cases hi
  all_goals (
    refine' enter [(Str.ofString "pen", .ref p), (Str.ofString "many", .int k tk)] B F X N T hk ?ho ?hcd (by omega) ?hb ?hl ?e1 ?e2 ?e3 ?e4 ?_
    (case ho => k_is)
    (case hcd => k_is)
    (case hb => exact BindsTo.of_eq rfl)
    (case hl => exact rfl)
    (case e1 => exact rfl)
    (case e2 => exact rfl)
    (case e3 => exact rfl)
    (case e4 => exact rfl)
    intro g' L' h' tk' FG' F' N' B' X' T'
    k_fold
    k_steps)
  all_goals (try k_data)
  all_goals (refine ret _ _ _ _ _ _ _ _ _ _ _ _ (by assumption) (by first | assumption | exact news_tail (by assumption)) (by l_ints) (by first | assumption | (simp only [List.length_cons] at hlen; omega)) (fmod_lo _ k0) (fmod_hi _ k0))

end
end
section
local macro_rules | `(tactic| walk_at "subscriptTail") => `(tactic| (k_here; (with_reducible show wpAny _ _ (subscriptTail _ _ (Value.ref _) (Value.int _ _)) _ _ _); (with_unfolding_all refine' item_any ?k1 ?k2 ?k3 ?k4 ?_ ?k6; (case k1 => is_list); (case k2 => assumption); (case k3 => assumption); (case k4 => assumption); (case k6 => with_unfolding_all rfl); k_whole); intro v' hv'))
local macro_rules | `(tactic| walk_at "call builtin:len") => `(tactic| (k_here; (with_reducible show wpAny _ _ (call (Value.builtin "len") [Value.ref _]) _ _ _); k_dflt (refine' len_any ?k1 ?k2 ?_; (case k1 => is_list); (case k2 => assumption); k_whole); intro t1 t2))
local macro_rules | `(tactic| walk_at "call ref") => `(tactic| (k_here; k_dflt (refine' draw_spec ?B ?F ?X ?N ?T ?hk ?hpc ?hpn ?hcn ?hi ?hlen ?k0 ?k1 ?hd ?hu ?_; (case B => k_asm); (case F => k_asm); (case X => k_asm); (case N => k_asm); (case T => k_asm); (case hk => exact rfl); (case hpc => k_asm); (case hpn => k_all); (case hcn => k_all); (case hi => k_asm); (case hlen => k_asm); (case k0 => omega); (case k1 => omega); (case hd => omega); (case hu => omega)); intro i1 t1 n1 r1 tn1 tr1 kp1 kc1 vs1 ns1 h1 tk1 F1 N1 I1 L1 lo1 hi1))

section
variable {w : World} {dp un : Nat} {gd : Option (List Code)} {cn : Str} {cs : Scope} {a : Addr} {ccd : Value} {cl : List (Str × Addr)} {outer : List Env} {A₀ : Around} {base h₀ : Heap} {L : Addr} {m : Str → Option Value} {news : List (Addr × Obj)} {s : Shared}
  {Q E : Value → Shared → Prop} {qq : Program} {loose : List Str} {mean : ExcName → Option Value} {mg mb : Str → Option Value}

theorem pick_spec {p c q : Addr} {n r : Int} {tn tr : Tok} {kp kc kq : Nat} {vs items : List Value} {ns : List Int}
  (B : Below A₀ base outer h₀) (F : Fr h₀ L s.heap m) (X : (KF w.params).In h₀) (N : News h₀ L s.heap ((p, listOf #[.ref c, .int n tn, .int r tr] kp) :: (c, listOf vs.toArray kc) :: (q, listOf items.toArray kq) :: news)) (T : Top qq loose mean mg mb h₀) (hk : cs.kind = .function) (hpc : @Ne Nat p c) (hpn : ∀ x ∈ (q, listOf items.toArray kq) :: news, @Ne Nat x.1 p) (hcn : ∀ x ∈ (q, listOf items.toArray kq) :: news, @Ne Nat x.1 c)
   (hi : IntsAre vs ns) (hlen : vs.length ≤ 1000) (k0 : 0 < items.length) (k1 : items.length ≤ 100) (hd : dp < 850) (hu : un < 8000)
   (ret : ∀ v n' r' tn' tr' kp' kc' vs' ns' h' tk', v ∈ items → Fr h₀ L h' m → News h₀ L h' ((p, listOf #[.ref c, .int n' tn', .int r' tr'] kp') :: (c, listOf vs'.toArray kc') :: news) →
       IntsAre vs' ns' → vs'.length ≤ 1000 → Q v { s with heap := h', toks := tk' }) :
  wpAny (model PySem.Challenge.rw_og0174_01.row.prog w) (ktrTop dp un gd cn cs L a ccd cl outer) (call (.ref 382) [.ref p, .ref q]) Q E s := by
  revert X
  k_fill
  intro X
  have hz : items.length ≤ 1000 := by omega
  refine' enter2 (Str.ofString "pen") (Str.ofString "some") B F X N T hk ?ho ?hcd (by omega) ?hb ?hl ?e1 ?e2 ?e3 ?e4 ?_
  ktr_enter
  k_steps
  all_goals (try k_data)
  all_goals (refine ret _ _ _ _ _ _ _ _ _ _ _ (by assumption) (by assumption) (news_drop3 (by assumption)) (by assumption) (by assumption))

end
end
section
section
variable {w : World} {dp un : Nat} {gd : Option (List Code)} {cn : Str} {cs : Scope} {a : Addr} {ccd : Value} {cl : List (Str × Addr)} {outer : List Env} {A₀ : Around} {base h₀ : Heap} {L : Addr} {m : Str → Option Value} {news : List (Addr × Obj)} {s : Shared}
  {Q E : Value → Shared → Prop} {qq : Program} {loose : List Str} {mean : ExcName → Option Value} {mg mb : Str → Option Value}

theorem pickI_spec {p c q : Addr} {n r : Int} {tn tr : Tok} {kp kc kq : Nat} {vs : List Value} {ns : List Int} {k1 k2 k3 : Tok}
  (B : Below A₀ base outer h₀) (F : Fr h₀ L s.heap m) (X : (KF w.params).In h₀) (N : News h₀ L s.heap ((p, listOf #[.ref c, .int n tn, .int r tr] kp) :: (c, listOf vs.toArray kc) :: (q, listOf #[.int 0 k1, .int 12 k2, .int (-7) k3] kq) :: news)) (T : Top qq loose mean mg mb h₀) (hk : cs.kind = .function) (hpc : @Ne Nat p c) (hpn : ∀ x ∈ news, @Ne Nat x.1 p) (hcn : ∀ x ∈ news, @Ne Nat x.1 c) (hqp : @Ne Nat q p) (hqc : @Ne Nat q c)
   (hi : IntsAre vs ns) (hlen : vs.length ≤ 1000) (hd : dp < 850) (hu : un < 8000)
   (ret : ∀ i u n' r' tn' tr' kp' kc' vs' ns' h' tk', i ∈ smalls → Fr h₀ L h' m → News h₀ L h' ((p, listOf #[.ref c, .int n' tn', .int r' tr'] kp') :: (c, listOf vs'.toArray kc') :: news) →
       IntsAre vs' ns' → vs'.length ≤ 1000 → Q (.int i u) { s with heap := h', toks := tk' }) :
  wpAny (model PySem.Challenge.rw_og0174_01.row.prog w) (ktrTop dp un gd cn cs L a ccd cl outer) (call (.ref 382) [.ref p, .ref q]) Q E s := by
  refine pick_spec (items := [.int 0 k1, .int 12 k2, .int (-7) k3]) B F X N T hk hpc (List.forall_mem_cons.mpr ⟨hqp, hpn⟩) (List.forall_mem_cons.mpr ⟨hqc, hcn⟩) hi hlen (by simp) (by simp) hd hu fun v n' r' tn' tr' kp' kc' vs' ns' h' tk' hv F' N' hi' hl' => ?_
  simp only [List.mem_cons, List.not_mem_nil, or_false] at hv
  rcases hv with rfl | rfl | rfl
  all_goals exact ret _ _ _ _ _ _ _ _ _ _ _ _ (by decide +kernel) F' N' hi' hl'

theorem pickS_spec {p c q : Addr} {n r : Int} {tn tr : Tok} {kp kc kq : Nat} {vs : List Value} {ns : List Int} {k1 k2 k3 : Tok}
  (B : Below A₀ base outer h₀) (F : Fr h₀ L s.heap m) (X : (KF w.params).In h₀) (N : News h₀ L s.heap ((p, listOf #[.ref c, .int n tn, .int r tr] kp) :: (c, listOf vs.toArray kc) :: (q, listOf #[.str (Str.ofString "A") k1, .str (Str.ofString "") k2, .str (Str.ofString "Size") k3] kq) :: news)) (T : Top qq loose mean mg mb h₀) (hk : cs.kind = .function) (hpc : @Ne Nat p c) (hpn : ∀ x ∈ news, @Ne Nat x.1 p) (hcn : ∀ x ∈ news, @Ne Nat x.1 c) (hqp : @Ne Nat q p) (hqc : @Ne Nat q c)
   (hi : IntsAre vs ns) (hlen : vs.length ≤ 1000) (hd : dp < 850) (hu : un < 8000)
   (ret : ∀ t u n' r' tn' tr' kp' kc' vs' ns' h' tk', plainT t = true → Fr h₀ L h' m → News h₀ L h' ((p, listOf #[.ref c, .int n' tn', .int r' tr'] kp') :: (c, listOf vs'.toArray kc') :: news) →
       IntsAre vs' ns' → vs'.length ≤ 1000 → Q (.str t u) { s with heap := h', toks := tk' }) :
  wpAny (model PySem.Challenge.rw_og0174_01.row.prog w) (ktrTop dp un gd cn cs L a ccd cl outer) (call (.ref 382) [.ref p, .ref q]) Q E s := by
  refine pick_spec (items := [.str (Str.ofString "A") k1, .str (Str.ofString "") k2, .str (Str.ofString "Size") k3]) B F X N T hk hpc (List.forall_mem_cons.mpr ⟨hqp, hpn⟩) (List.forall_mem_cons.mpr ⟨hqc, hcn⟩) hi hlen (by simp) (by simp) hd hu fun v n' r' tn' tr' kp' kc' vs' ns' h' tk' hv F' N' hi' hl' => ?_
  simp only [List.mem_cons, List.not_mem_nil, or_false] at hv
  rcases hv with rfl | rfl | rfl
  all_goals exact ret _ _ _ _ _ _ _ _ _ _ _ _ (by decide +kernel) F' N' hi' hl'

theorem pickO_spec {p c q : Addr} {n r : Int} {tn tr : Tok} {kp kc kq : Nat} {vs : List Value} {ns : List Int} {k1 k2 k3 : Tok}
  (B : Below A₀ base outer h₀) (F : Fr h₀ L s.heap m) (X : (KF w.params).In h₀) (N : News h₀ L s.heap ((p, listOf #[.ref c, .int n tn, .int r tr] kp) :: (c, listOf vs.toArray kc) :: (q, listOf #[.bytes ([97, 32, 98] : List UInt8).toArray k1, .bytes ([] : List UInt8).toArray k2, .bytes ([40, 120] : List UInt8).toArray k3] kq) :: news)) (T : Top qq loose mean mg mb h₀) (hk : cs.kind = .function) (hpc : @Ne Nat p c) (hpn : ∀ x ∈ news, @Ne Nat x.1 p) (hcn : ∀ x ∈ news, @Ne Nat x.1 c) (hqp : @Ne Nat q p) (hqc : @Ne Nat q c)
   (hi : IntsAre vs ns) (hlen : vs.length ≤ 1000) (hd : dp < 850) (hu : un < 8000)
   (ret : ∀ o u n' r' tn' tr' kp' kc' vs' ns' h' tk', o ∈ octs3 → Fr h₀ L h' m → News h₀ L h' ((p, listOf #[.ref c, .int n' tn', .int r' tr'] kp') :: (c, listOf vs'.toArray kc') :: news) →
       IntsAre vs' ns' → vs'.length ≤ 1000 → Q (.bytes (List.toArray o) u) { s with heap := h', toks := tk' }) :
  wpAny (model PySem.Challenge.rw_og0174_01.row.prog w) (ktrTop dp un gd cn cs L a ccd cl outer) (call (.ref 382) [.ref p, .ref q]) Q E s := by
  refine pick_spec (items := [.bytes ([97, 32, 98] : List UInt8).toArray k1, .bytes ([] : List UInt8).toArray k2, .bytes ([40, 120] : List UInt8).toArray k3]) B F X N T hk hpc (List.forall_mem_cons.mpr ⟨hqp, hpn⟩) (List.forall_mem_cons.mpr ⟨hqc, hcn⟩) hi hlen (by simp) (by simp) hd hu fun v n' r' tn' tr' kp' kc' vs' ns' h' tk' hv F' N' hi' hl' => ?_
  simp only [List.mem_cons, List.not_mem_nil, or_false] at hv
  rcases hv with rfl | rfl | rfl
  all_goals exact ret _ _ _ _ _ _ _ _ _ _ _ _ (by decide +kernel) F' N' hi' hl'

theorem pickB_spec {p c q : Addr} {n r : Int} {tn tr : Tok} {kp kc kq : Nat} {vs : List Value} {ns : List Int} 
  (B : Below A₀ base outer h₀) (F : Fr h₀ L s.heap m) (X : (KF w.params).In h₀) (N : News h₀ L s.heap ((p, listOf #[.ref c, .int n tn, .int r tr] kp) :: (c, listOf vs.toArray kc) :: (q, listOf #[.bool true, .bool false] kq) :: news)) (T : Top qq loose mean mg mb h₀) (hk : cs.kind = .function) (hpc : @Ne Nat p c) (hpn : ∀ x ∈ news, @Ne Nat x.1 p) (hcn : ∀ x ∈ news, @Ne Nat x.1 c) (hqp : @Ne Nat q p) (hqc : @Ne Nat q c)
   (hi : IntsAre vs ns) (hlen : vs.length ≤ 1000) (hd : dp < 850) (hu : un < 8000)
   (ret : ∀ b n' r' tn' tr' kp' kc' vs' ns' h' tk', True → Fr h₀ L h' m → News h₀ L h' ((p, listOf #[.ref c, .int n' tn', .int r' tr'] kp') :: (c, listOf vs'.toArray kc') :: news) →
       IntsAre vs' ns' → vs'.length ≤ 1000 → Q (.bool b) { s with heap := h', toks := tk' }) :
  wpAny (model PySem.Challenge.rw_og0174_01.row.prog w) (ktrTop dp un gd cn cs L a ccd cl outer) (call (.ref 382) [.ref p, .ref q]) Q E s := by
  refine pick_spec (items := [.bool true, .bool false]) B F X N T hk hpc (List.forall_mem_cons.mpr ⟨hqp, hpn⟩) (List.forall_mem_cons.mpr ⟨hqc, hcn⟩) hi hlen (by simp) (by simp) hd hu fun v n' r' tn' tr' kp' kc' vs' ns' h' tk' hv F' N' hi' hl' => ?_
  simp only [List.mem_cons, List.not_mem_nil, or_false] at hv
  rcases hv with rfl | rfl
  all_goals exact ret _ _ _ _ _ _ _ _ _ _ _ (by decide +kernel) F' N' hi' hl'

end
end
section
section
variable {prog : Program} {w : World} {A : Around} {E : Value → Shared → Prop} {s : Shared}
theorem list_keys_none : typeLookup (.type "list") "keys" = pure none := am_miss_of_fast (by kernel_rfl)
theorem list_no_keys {a : Addr} {xs : Array Value} {k : Nat} {sl : Array (Option Value)} {Q : Option Value → Shared → Prop} (hx : s.heap.get? a = some { cls := .type "list", dict := none, data := .seq xs k, slots := sl }) (hA : A.handled = none)
    (h : ∀ h' tk, (∀ b o, s.heap.get? b = some o → h'.get? b = some o) → Q none { s with heap := h', toks := tk }) : wpAny (model prog w) A (getAttr? (.ref a) "keys") Q E s := by
  obtain ⟨hp, g, d, tk, os⟩ := s
  have hT : ∀ tk', (⟨hp, g, d, tk', os⟩ : Shared).TypeIs (.ref a) "list" := fun _ => ⟨_, hx, rfl⟩
  have f1 := sub_AttributeError
  have f3 := F.slot_list_getattribute.lookup
  have f4 := F.slot_list_getattribute.bind (.ref a)
  have f5 := am_list_getattr_none
  unfold getAttr? getAttrBy? getAttrBy
  repeat (any_goals (first | assumption | exact hT _ | ((with_reducible show wpAny _ _ (call (Value.builtin "list.__getattribute__") _ _) _ _ _); refine call_meets F.slot_list_getattribute (hT _) am_entry_list_getattribute (F.args_list_getattribute_2 _ _) (meets_getattribute_miss_list a xs k sl _ _ list_keys_none (by decide +kernel)) ⟨hx, hA, fun h' tk' e hx' => ?_⟩) | wp_step))
  obtain ⟨t', u', he⟩ := hx'.there
  show wpAny _ _ (getattributeRaised _ _ _ _ _ _ _) _ _ _
  unfold getattributeRaised
  repeat (any_goals (first | assumption | wp_step))
  exact h _ _ hx'.keeps
inductive TupsAt (h : Heap) : List Value → List (Str × Value) → Prop
  | nil : TupsAt h [] []
  | cons (t : Addr) (k : Str) (u : Tok) (v : Value) (c : Nat) {ys ps} : h.get? t = some { cls := .type "tuple", data := .seq #[.str k u, v] c } → TupsAt h ys ps → TupsAt h (.ref t :: ys) ((k, v) :: ps)
theorem TupsAt.keeps {h h' : Heap} {ys : List Value} {ps : List (Str × Value)} (hk : ∀ t o, .ref t ∈ ys → h.get? t = some o → h'.get? t = some o) (x : TupsAt h ys ps) : TupsAt h' ys ps := by
  induction x with
  | nil => exact .nil
  | cons t k u v c e _ ih => exact .cons t k u v c (hk t _ (.head _) e) (ih fun t o hm => hk t o (.tail _ hm))
theorem stored_new {kvs : List (Str × Value)} {k : Str} {v : Value} (h : k ∉ kvs.map (·.1)) : stored kvs k v = kvs ++ [(k, v)] := by
  unfold stored
  rw [if_neg]
  simp only [List.any_eq_true, decide_eq_true_eq, not_exists, not_and]
  intro x hx e
  exact h (List.mem_map.mpr ⟨x, hx, e⟩)
theorem dictOf_at {knd : KeyKind prog w Str} {h h' : Heap} {d : Addr} {kvs : List (Str × Value)} (x : h.DictOf knd d kvs) (k : ∀ o, h.get? d = some o → h'.get? d = some o) : h'.DictOf knd d kvs := by
  obtain ⟨o, ho, hd⟩ := Heap.dictOf_iff.mp x
  exact Heap.dictOf_iff.mpr ⟨o, k o ho, hd⟩
theorem entry_dul : entryFor table "dict.update.loop" = some Builtin.«dict.update.loop» := entryFor_of_tree (by kernel_rfl)
theorem plain_dul : plainId "dict.update.loop" = true := by decide +kernel
theorem loop_pairs {l d I : Addr} {ys : List Value} {R : Result → Shared → Prop} (hA : A.handled = none) (hlI : l ≠ I) (hld : l ≠ d) (hdI : d ≠ I) :
    ∀ (ps : List (Str × Value)) (i : Nat) (n : Int) (u : Tok) (kvs : List (Str × Value)) (s : Shared), TupsAt s.heap (ys.drop i) ps → (∀ t, .ref t ∈ ys → t ≠ d ∧ t ≠ I) →
      s.heap.IsListIter I l i → s.heap.IsList l ys.toArray → s.heap.DictOf (strKind prog w) d kvs → (kvs.map (·.1) ++ ps.map (·.1)).Nodup → i + ps.length = ys.length → kvs.length + ps.length ≤ 1000 →
      (∀ h' tk, h'.DictOf (strKind prog w) d (kvs ++ ps) → (∀ b o, b ≠ d → b ≠ I → s.heap.get? b = some o → h'.get? b = some o) → R (.ok (.ret .none)) { s with heap := h', toks := tk }) →
      codeAny (model prog w) A (.builtin "dict.update.loop" ⟨[.ref d, .ref I, .int n u, .none], []⟩) R s := by
  intro ps
  induction ps with
  | nil =>
    intro i n u kvs s hT hne hit hl hd hn hlen hsz hR
    refine codeAny_builtin entry_dul ?_
    rw [Around.under_plainId plain_dul _]
    unfold Builtin.«dict.update.loop»
    have W := Walks.list (prog := prog) (w := w) (A := A.in1) hA I l hlI ys.toArray
    have hi : i = ys.toArray.size := by simpa using hlen
    subst hi
    show wpAny _ _ (pyNext (.ref I) >>= _) _ _ _
    refine wpAny_bind (W.done _ _ _ ⟨hit, hl⟩ fun h₂ tk₂ hk₂ => ?_)
    show wpAny _ _ (Builtin.Dict.addKeywords d [] >>= _) _ _ _
    refine wpAny_bind (wpAny_pure (wpAny_pure ?_))
    refine hR h₂ tk₂ (by rw [List.append_nil]; exact dictOf_at hd fun o e => hk₂ d o (fun h => hdI (List.mem_singleton.mp h)) e) fun b o _ hb e => hk₂ b o (fun h => hb (List.mem_singleton.mp h)) e
  | cons q ps ih =>
    intro i n u kvs s hT hne hit hl hd hn hlen hsz hR
    refine codeAny_builtin entry_dul ?_
    rw [Around.under_plainId plain_dul _]
    unfold Builtin.«dict.update.loop»
    have W := Walks.list (prog := prog) (w := w) (A := A.in1) hA I l hlI ys.toArray
    have hi : i < ys.length := by simp at hlen; omega
    have hdr : ys.drop i = ys[i] :: ys.drop (i + 1) := List.drop_eq_getElem_cons hi
    rw [hdr] at hT
    generalize hy : ys[i] = y at hT
    cases hT with
    | cons t k uk v c et hT' =>
      have hmem : Value.ref t ∈ ys := hy ▸ List.getElem_mem hi
      show wpAny _ _ (pyNext (.ref I) >>= _) _ _ _
      refine wpAny_bind (W.item i _ _ _ (by simpa using hi) ⟨hit, hl⟩ fun v' h₂ tk₂ hPv hst₂ hk₂ => ?_)
      have hv' : v' = .ref t := by
        have h3 : ys[i]? = some v' := by simpa using hPv
        rw [List.getElem?_eq_getElem hi, hy] at h3
        exact (Option.some.inj h3).symm
      subst hv'
      have keep2 : ∀ b o, b ≠ I → s.heap.get? b = some o → h₂.get? b = some o := fun b o hb e => hk₂ b o (fun h => hb (List.mem_singleton.mp h)) e
      have et2 := keep2 t _ (hne t hmem).2 et
      have hd2 : h₂.DictOf (strKind prog w) d kvs := dictOf_at hd fun o e => keep2 d o hdI e
      have hk1 : k ∉ kvs.map (·.1) := fun hm => by
        have := List.nodup_append.mp hn
        exact this.2.2 _ hm _ (.head _) rfl
      dsimp only
      refine wpAny_bind (wpAny_holding (wpAny_bind ?_))
      refine wpAny_tryCatch ?_
      unfold Builtin.Dict.pairItems
      refine wpAny_bind (wpAny_typeOf (T := "tuple") ⟨_, et2, rfl⟩ ?_)
      rw [if_pos (by decide)]
      refine wpAny_bind ?_
      unfold seqItems?
      refine wpAny_bind (wpAny_load et2 ?_)
      refine wpAny_pure (wpAny_pure ?_)
      show wpAny _ _ (holding [.str k uk, v] (dictSet d (.str k uk) v)) _ _ _
      refine wpAny_holding ?_
      unfold dictSet
      refine wpAny_holding (wpAny_bind ((strKind prog w).pyHash (k := k) (strKind_is _ _ _ _) (wpAny_dictSetHashed_pairs (knd := strKind prog w) (strKind_is _ _ _ _) hd2 (fun h₃ hd₃ hs₃ => ?_) (by rw [sizeLine_eq]; omega))))
      rw [stored_new hk1] at hd₃
      have keep3 : ∀ b o, b ≠ d → b ≠ I → s.heap.get? b = some o → h₃.get? b = some o := fun b o hbd hbI e => hs₃.extBut b o hbd (keep2 b o hbI e)
      refine wpAny_pure ⟨plainId_quiet plain_dul _, ?_⟩
      refine ih (i + 1) _ _ (kvs ++ [(k, v)]) _ (hT'.keeps fun t' o hm e => keep3 t' o (hne t' (List.mem_of_mem_drop hm)).1 (hne t' (List.mem_of_mem_drop hm)).2 e) hne ?_ ?_ hd₃ (by simpa using hn) (by simp at hlen; omega) (by simp at hsz ⊢; omega) ?_
      · obtain ⟨o, e, r⟩ := hst₂.1
        exact ⟨o, hs₃.extBut _ _ (Ne.symm hdI) e, r⟩
      · obtain ⟨o, e, r⟩ := hst₂.2
        exact ⟨o, hs₃.extBut _ _ hld e, r⟩
      · intro h' tk hD hk
        exact hR h' tk (by simpa using hD) fun b o hbd hbI e => hk b o hbd hbI (keep3 b o hbd hbI e)
theorem call_dict_pairs {h₀ : Heap} {L l : Addr} {m : Str → Option Value} {news : Led} {ys : List Value} {kl : Nat} {ps : List (Str × Value)} {Q : Value → Shared → Prop} (hA : A.handled = none) (hb : h₀.NoLimit) (F0 : Fr h₀ L s.heap m) (N : News h₀ L s.heap news) (hm : (l, listOf ys.toArray kl) ∈ news)
    (ht : TupsAt s.heap ys ps) (hn : (ps.map (·.1)).Nodup) (hlen : ps.length = ys.length) (hsz : ps.length ≤ 1000)
    (h : ∀ x o h' tk, Fr h₀ L h' m → News h₀ L h' ((x, o) :: news) → (x == sysModules) = false → o.IsDictOf (strKind prog w) ps → (∀ q ∈ news, @LT.lt Nat instLTNat q.1 x) → Q (.ref x) { s with heap := h', toks := tk }) :
    wpAny (model prog w) A (call (.type "dict") [.ref l]) Q E s := by
  refine callType_codes (Q₁ := fun obj s₁ => obj = .ref s.heap.objs.size ∧ s₁ = { s with heap := s.heap.push { cls := .type "dict", data := .dict #[] } }) PySem.F.kt_called_dict (PySem.F.kt_typeCall_dict_1 _) PySem.F.entry_dict_init (kt_code_dict_new _ ⟨rfl, rfl⟩) ?_
  rintro obj s₁ ⟨rfl, rfl⟩
  have hnew : (s.heap.push { cls := .type "dict", data := .dict #[] }).DictOf (strKind prog w) s.heap.objs.size [] := Heap.DictOf.new s.heap
  have up : ∀ b o, s.heap.get? b = some o → (s.heap.push { cls := .type "dict", data := .dict #[] }).get? b = some o := fun b o e => Heap.get?_push_of_some _ e
  have el := (N _ hm).1
  refine ⟨hnew.typeIs, PySem.F.args_dict_init_2 _ _, ?_⟩
  unfold Builtin.«dict.__init__»
  refine wpAny_bind ?_
  unfold Builtin.Dict.selfAndRest
  refine wpAny_bind (wpAny_notOrdered_dict hnew.typeIs ?_)
  show wpAny _ _ (pure (s.heap.objs.size, [Value.ref l])) _ _ _
  refine wpAny_pure ?_
  show wpAny _ _ (Builtin.Dict.updateFrom "dict.__init__" s.heap.objs.size (.ref l) [] .none) _ _ _
  unfold Builtin.Dict.updateFrom
  refine wpAny_bind (wpAny_typeOf (T := "list") ⟨_, up _ _ el, rfl⟩ ?_)
  rw [if_pos (by decide)]
  refine wpAny_bind (list_no_keys (up _ _ el) (by first | exact hA | rfl) fun h1 tk1 k1 => ?_)
  rw [if_pos (by rfl)]
  refine wpAny_bind (wpAny_rule ?_)
  have el1 := k1 _ _ (up _ _ el)
  have hd1 : h1.DictOf (strKind prog w) s.heap.objs.size [] := dictOf_at hnew fun o e => k1 _ _ e
  have hdlt : @LT.lt Nat instLTNat s.heap.objs.size h1.objs.size := by obtain ⟨o, ho, _⟩ := Heap.dictOf_iff.mp hd1; exact Heap.lt_size ho
  have lt0 : ∀ b o, s.heap.get? b = some o → @LT.lt Nat instLTNat b s.heap.objs.size := fun b o e => Heap.lt_size e
  have up2 : ∀ b o, h1.get? b = some o → (h1.push { cls := .type "list_iterator", data := .fields #[.ref l, .int 0 0] }).get? b = some o := fun b o e => Heap.get?_push_of_some _ e
  refine wpAny_bind (wpAny_pyIter_list (items := ys.toArray) ⟨_, el1, rfl, kl, rfl⟩ ?_)
  have hti : ∀ t, Value.ref t ∈ ys → @LT.lt Nat instLTNat t s.heap.objs.size := by
    intro t hmt
    have : ∀ {zs : List Value} {qs : List (Str × Value)}, TupsAt s.heap zs qs → ∀ t, Value.ref t ∈ zs → @LT.lt Nat instLTNat t s.heap.objs.size := by
      intro zs qs x
      induction x with
      | nil => intro t h; cases h
      | cons t' k u v c e _ ih =>
        intro t h
        rcases List.mem_cons.mp h with h | h
        · cases h; exact lt0 _ _ e
        · exact ih t h
    exact this ht t hmt
  refine wpAny_pure ⟨plainId_quiet plain_dul _, loop_pairs (l := l) (d := s.heap.objs.size) (I := h1.objs.size) (ys := ys) (by exact hA) (Nat.ne_of_lt (Nat.lt_trans (lt0 _ _ el) hdlt)) (Nat.ne_of_lt (lt0 _ _ el)) (Nat.ne_of_lt hdlt) ps 0 _ _ [] _
    (by rw [List.drop_zero]; exact ht.keeps fun t o _ e => up2 _ _ (k1 _ _ (up _ _ e))) (fun t hmt => ⟨Nat.ne_of_lt (hti t hmt), Nat.ne_of_lt (Nat.lt_trans (hti t hmt) hdlt)⟩)
    ⟨_, Heap.get?_push_size _ rfl, rfl, rfl⟩ ⟨_, up2 _ _ el1, rfl, kl, rfl⟩ (dictOf_at hd1 fun o e => up2 _ _ e) (by simpa using hn) (by omega) (by simpa using hsz) fun h' tk' hD hk => ⟨rfl, ?_⟩⟩
  have keepAll : ∀ b o, s.heap.get? b = some o → h'.get? b = some o := fun b o e => hk b o (Nat.ne_of_lt (lt0 _ _ e)) (Nat.ne_of_lt (Nat.lt_trans (lt0 _ _ e) hdlt)) (up2 _ _ (k1 _ _ (up _ _ e)))
  obtain ⟨o', ho', hd'⟩ := Heap.dictOf_iff.mp hD
  have N1 := News.push F0 N { cls := .type "dict", data := .dict #[] }
  refine h _ o' h' _ (F0.keeps keepAll) (fun p hp => ?_) (F0.notModules (modules_low hb)) (by simpa using hd') fun q hq => lt0 _ _ (N q hq).1
  rcases List.mem_cons.mp hp with rfl | hp
  · exact ⟨ho', (N1 _ (.head _)).2⟩
  · exact ⟨keepAll _ _ (N p hp).1, (N p hp).2⟩
end
end
section
theorem All2.get {R : Value → Parts → Prop} {vs es} (a : All2 R vs es) : ∀ (i : Nat) (v : Value), vs[i]? = some v → ∃ e, es[i]? = some e ∧ R v e := by
  induction a with
  | nil => intro i v h; simp at h
  | cons x _ ih =>
    intro i v h
    cases i with
    | zero => simp at h; subst h; exact ⟨_, rfl, x⟩
    | succ i => exact ih i v (by simpa using h)
theorem drop_get {α : Type} {l : List α} {i : Nat} {x : α} (h : l[i]? = some x) : l.drop i = x :: l.drop (i + 1) := by
  have hl : i < l.length := by
    rcases Nat.lt_or_ge i l.length with h1 | h1
    · exact h1
    · rw [List.getElem?_eq_none h1] at h; cases h
  rw [List.drop_eq_getElem_cons hl]
  congr 1
  exact Option.some.inj ((List.getElem?_eq_getElem hl).symm.trans h)
end
section
abbrev tupO (a v : Value) (c : Nat) : Obj := { cls := .type "tuple", data := .seq #[a, v] c }
inductive Trip (w : World) (nw : List (Addr × Obj)) (d : Nat) : List Value → List (Str × Value) → List Parts → Prop
  | nil : Trip w nw d [] [] []
  | cons (t : Addr) (k : Str) (u : Tok) (v : Value) (c : Nat) (e : Parts) {ys ps es} : (t, tupO (.str k u) v c) ∈ nw → Is w nw d v e → Trip w nw d ys ps es → Trip w nw d (.ref t :: ys) ((k, v) :: ps) (e :: es)
theorem Trip.mono {w : World} {nw nw' : List (Addr × Obj)} {d : Nat} {ys ps es} (hs : ∀ q ∈ nw, q ∈ nw') (x : Trip w nw d ys ps es) : Trip w nw' d ys ps es := by
  induction x with
  | nil => exact .nil
  | cons t k u v c e h1 h2 _ ih => exact .cons t k u v c e (hs _ h1) (Is.mono hs _ _ _ h2) ih
theorem Trip.snoc {w : World} {nw : List (Addr × Obj)} {d : Nat} {ys ps es} (x : Trip w nw d ys ps es) {t : Addr} {k : Str} {u : Tok} {v : Value} {c : Nat} {e : Parts} (h1 : (t, tupO (.str k u) v c) ∈ nw) (h2 : Is w nw d v e) : Trip w nw d (ys ++ [.ref t]) (ps ++ [(k, v)]) (es ++ [e]) := by
  induction x with
  | nil => exact .cons t k u v c e h1 h2 .nil
  | cons t k u v c e h1 h2 _ ih => exact .cons t k u v c e h1 h2 ih
theorem Trip.length {w : World} {nw : List (Addr × Obj)} {d : Nat} {ys ps es} (x : Trip w nw d ys ps es) : ps.length = ys.length := by
  induction x with
  | nil => rfl
  | cons t k u v c e h1 h2 _ ih => simp [ih]
theorem Trip.tups {w : World} {nw : List (Addr × Obj)} {d : Nat} {ys ps es} {h : Heap} (hN : ∀ q ∈ nw, h.get? q.1 = some q.2) (x : Trip w nw d ys ps es) : TupsAt h ys ps := by
  induction x with
  | nil => exact .nil
  | cons t k u v c e h1 h2 _ ih => exact .cons t k u v c (hN _ h1) ih
def gOne (k : Str) (v : Value) (e : Parts) : Parts := match v with | .none => fun _ => [] | _ => fun b => nameL k :: e b
def gOf : List (Str × Value) → List Parts → Str → Parts
  | (k, v) :: ps, e :: es, q => if k = q then gOne k v e else gOf ps es q
  | _, _, _ => fun _ => []
theorem Trip.g {w : World} {nw : List (Addr × Obj)} {d : Nat} {ys ps es} (x : Trip w nw d ys ps es) : ∀ k ∈ ps.map (·.1), ∃ u, valueAt ps k = some u ∧ ((u = .none ∧ gOf ps es k = fun _ => []) ∨ (u ≠ .none ∧ ∃ f, Is w nw d u f ∧ gOf ps es k = fun b => nameL k :: f b)) := by
  induction x with
  | nil => intro k h; cases h
  | cons t k u v c e h1 h2 _ ih =>
    intro q hq
    by_cases hk : k = q
    · subst hk
      refine ⟨v, by simp [valueAt], ?_⟩
      cases v
      case none => exact .inl ⟨rfl, by simp [gOf, gOne]⟩
      all_goals exact .inr ⟨by simp, e, h2, by simp [gOf, gOne]⟩
    · obtain ⟨u', h3, h4⟩ := ih q (by simpa [Ne.symm hk, hk] using (List.mem_cons.mp hq).resolve_left (fun e => hk e.symm))
      refine ⟨u', by simpa [valueAt, hk] using h3, ?_⟩
      simp only [gOf, if_neg hk]
      exact h4
theorem item4 (a b c d : Tok) (k5 i : Nat) (v : Value) (h : ([.str (Str.ofString "Z") a, .str (Str.ofString "A") b, .str (Str.ofString "") c, .str (Str.ofString "M") d].take k5).toArray[i]? = some v) : ∃ k u, v = .str k u ∧ dkeys.take (i + 1) = dkeys.take i ++ [k] := by
  have h2 : ([.str (Str.ofString "Z") a, .str (Str.ofString "A") b, .str (Str.ofString "") c, .str (Str.ofString "M") d] : List Value)[i]? = some v := by
    simp only [List.getElem?_toArray, List.getElem?_take] at h
    split at h
    · exact h
    · cases h
  match i, h2 with
  | 0, h2 => cases h2; exact ⟨_, _, rfl, rfl⟩
  | 1, h2 => cases h2; exact ⟨_, _, rfl, rfl⟩
  | 2, h2 => cases h2; exact ⟨_, _, rfl, rfl⟩
  | 3, h2 => cases h2; exact ⟨_, _, rfl, rfl⟩
  | n + 4, h2 => simp at h2
theorem dkeys_nodup (n : Nat) : (dkeys.take n).Nodup := List.Sublist.nodup (List.take_sublist _ _) (by decide +kernel)
end
section
local macro_rules | `(tactic| k_mem) => `(tactic| exact List.Mem.tail _ (List.Mem.tail _ (List.Mem.tail _ (by assumption))))
local macro_rules | `(tactic| k_mem) => `(tactic| exact List.Mem.tail _ (List.Mem.tail _ (by assumption)))
local macro_rules | `(tactic| k_mem) => `(tactic| exact List.Mem.tail _ (by assumption))

def ObjSpec (w : World) (d : Nat) : Prop :=
  ∀ {dp un : Nat} {gd : Option (List Code)} {cn : Str} {cs : Scope} {a : Addr} {ccd : Value} {cl : List (Str × Addr)} {outer : List Env} {A₀ : Around} {base h₀ : Heap} {L : Addr} {m : Str → Option Value} {news : List (Addr × Obj)} {s : Shared}
  {Q E : Value → Shared → Prop} {qq : Program} {loose : List Str} {mean : ExcName → Option Value} {mg mb : Str → Option Value}
  {p c : Addr} {n r : Int} {tn tr td : Tok} {kp kc : Nat} {vs : List Value} {ns : List Int} (uB : Below A₀ base outer h₀) (uF : Fr h₀ L s.heap m) (uX : (KF w.params).In h₀)
  (uN : News h₀ L s.heap ((p, listOf #[.ref c, .int n tn, .int r tr] kp) :: (c, listOf vs.toArray kc) :: news)) (uT : Top qq loose mean mg mb h₀) (uhk : cs.kind = .function)
  (uhpc : @Ne Nat p c) (uhpn : ∀ q ∈ news, @Ne Nat q.1 p) (uhcn : ∀ q ∈ news, @Ne Nat q.1 c) (uhi : IntsAre vs ns) (uhlen : vs.length ≤ 1000) (uhd : dp + 20 * d < 600) (uhu : un + 40 * d < 3000)
  (uret : ∀ v e nw n' r' tn' tr' kp' kc' vs' ns' h' tk', Is w nw d v e → Fr h₀ L h' m → News h₀ L h' ((p, listOf #[.ref c, .int n' tn', .int r' tr'] kp') :: (c, listOf vs'.toArray kc') :: (nw ++ news)) → (∀ q ∈ nw, @Ne Nat q.1 p ∧ @Ne Nat q.1 c ∧ ∀ r ∈ news, @Ne Nat r.1 q.1) →
       IntsAre vs' ns' → vs'.length ≤ 1000 → Q v { s with heap := h', toks := tk' }),
  wpAny (model PySem.Challenge.rw_og0174_01.row.prog w) (ktrTop dp un gd cn cs L a ccd cl outer) (call (.ref 387) [.ref p, .int d td]) Q E s
theorem rot3 {α : Type} {x y z : α} {l : List α} : ∀ q ∈ y :: z :: x :: l, q ∈ x :: y :: z :: l := by
  intro q hq
  simp only [List.mem_cons] at *
  rcases hq with h | h | h | h
  · exact .inr (.inl h)
  · exact .inr (.inr (.inl h))
  · exact .inl h
  · exact .inr (.inr (.inr h))
def IfMark : Prop := True
theorem ifjoin {M : Model} {A : Around} {E : Value → Shared → Prop} {s : Shared} {env : Env} {ex : PySem.Expr} {R : Value → Shared → Prop} {d : Nat}
  (h : IfMark → wpAny M A (eval ex env) (fun xv s₁ => ∃ k : Int, ∃ u tk, xv = .int k u ∧ s₁ = { s with toks := tk } ∧ 0 < k ∧ k ≤ 10 ∧ (d = 0 → k = 7)) E s)
  (k : ∀ (k : Int) u tk, 0 < k → k ≤ 10 → (d = 0 → k = 7) → R (.int k u) { s with toks := tk }) : wpAny M A (eval ex env) R E s :=
  wpAny_mono (h trivial) (fun _ _ ⟨_, _, _, e1, e2, h1, h2, h3⟩ => e1 ▸ e2 ▸ k _ _ _ h1 h2 h3) fun _ _ e => e
local macro_rules | `(tactic| walk_at "eval IfExp") => `(tactic| k_extra "ifexp")
local macro_rules | `(tactic| walk_at "call ref") => `(tactic| k_extra "obj")
def Stop (P : Prop) : Prop := P
theorem stop_intro {P : Prop} (h : Stop P) : P := h
local macro_rules | `(tactic| walk_at "call type:dict") => `(tactic| k_extra "dict")
local macro_rules | `(tactic| walk_at "CompSrc") => `(tactic| refine stop_intro ?_)
local macro_rules | `(tactic| walk_at "eval ListComp") => `(tactic| (k_here; k_dflt (refine LCg.ListComp_U (F₀ := by k_asm) (by rfl) (by decide) (by rfl) (by decide) (by rfl) ?_)))
theorem sub_fin {α : Type} {P C : α} {nw T news : List α} (h : ∀ q ∈ news, q ∈ T) : ∀ q ∈ P :: C :: (nw ++ news), q ∈ nw ++ (P :: C :: T) := by
  intro q hq
  simp only [List.mem_cons, List.mem_append] at *
  rcases hq with e | e | e | e
  · exact .inr (.inl e)
  · exact .inr (.inr (.inl e))
  · exact .inl e
  · exact .inr (.inr (.inr (h q e)))
theorem offs2 {p c x dx : Addr} {oP oC a b : Obj} {T news : List (Addr × Obj)} (hs : ∀ q ∈ news, q ∈ T) (h : ∀ q ∈ (p, oP) :: (c, oC) :: T, @LT.lt Nat instLTNat q.1 dx) (l : @LT.lt Nat instLTNat dx x) : ∀ q ∈ [(x, a), (dx, b)], @Ne Nat q.1 p ∧ @Ne Nat q.1 c ∧ ∀ r ∈ news, @Ne Nat r.1 q.1 := by
  have h1 : @LT.lt Nat instLTNat p dx := h _ (.head _)
  have h2 : @LT.lt Nat instLTNat c dx := h _ (.tail _ (.head _))
  have h3 : ∀ r ∈ news, @LT.lt Nat instLTNat r.1 dx := fun r hr => h r (.tail _ (.tail _ (hs r hr)))
  refine List.forall_mem_cons.mpr ⟨⟨Nat.ne_of_gt (Nat.lt_trans h1 l), Nat.ne_of_gt (Nat.lt_trans h2 l), fun r hr => Nat.ne_of_lt (Nat.lt_trans (h3 r hr) l)⟩, List.forall_mem_cons.mpr ⟨⟨Nat.ne_of_gt h1, Nat.ne_of_gt h2, fun r hr => Nat.ne_of_lt (h3 r hr)⟩, fun _ h => nomatch h⟩⟩
theorem rng5 : ∀ k : Nat, k < 5 → Builtin.Range.small 0 (k : Int) 1 = true ∧ Builtin.Range.rangeSize 0 (k : Int) 1 = (k : Int) := by decide +kernel
theorem perm5 {α : Type} {a b c d e : α} {l : List α} : ∀ q ∈ d :: e :: a :: b :: c :: l, q ∈ a :: b :: c :: d :: e :: l := by
  intro q hq
  simp only [List.mem_cons] at *
  rcases hq with h | h | h | h | h | h
  · exact .inr (.inr (.inr (.inl h)))
  · exact .inr (.inr (.inr (.inr (.inl h))))
  · exact .inl h
  · exact .inr (.inl h)
  · exact .inr (.inr (.inl h))
  · exact .inr (.inr (.inr (.inr (.inr h))))
theorem perm6 {α : Type} {a b c d e : α} {u v t : List α} : ∀ q ∈ a :: b :: c :: d :: e :: ((u ++ v) ++ t), q ∈ d :: e :: (u ++ a :: b :: c :: (v ++ t)) := by
  intro q hq
  simp only [List.mem_cons, List.mem_append] at *
  rcases hq with h | h | h | h | h | (h | h) | h
  · exact .inr (.inr (.inr (.inl h)))
  · exact .inr (.inr (.inr (.inr (.inl h))))
  · exact .inr (.inr (.inr (.inr (.inr (.inl h)))))
  · exact .inl h
  · exact .inr (.inl h)
  · exact .inr (.inr (.inl h))
  · exact .inr (.inr (.inr (.inr (.inr (.inr (.inl h))))))
  · exact .inr (.inr (.inr (.inr (.inr (.inr (.inr h))))))
theorem off1_mem {D : Addr} : ∀ {l : List (Addr × Obj)}, LCg.Off1 D l → ∀ q ∈ l, @Ne Nat q.1 D
  | [], _, _, h => nomatch h
  | _ :: _, x, q, h => by
    rcases List.mem_cons.mp h with rfl | h
    · exact x.1
    · exact off1_mem x.2 q h
theorem sub_fin2 {α : Type} {X P C : α} {nw T news : List α} (h : ∀ q ∈ news, q ∈ T) : ∀ q ∈ P :: C :: ((X :: nw) ++ news), q ∈ X :: P :: C :: (nw ++ T) := by
  intro q hq
  simp only [List.mem_cons, List.mem_append] at *
  rcases hq with e | e | (e | e) | e
  · exact .inr (.inl e)
  · exact .inr (.inr (.inl e))
  · exact .inl e
  · exact .inr (.inr (.inr (.inl e)))
  · exact .inr (.inr (.inr (.inr (h q e))))
theorem slice4 (a b c d : Value) (k : Nat) (hk : k < 5) : slicePick #[a, b, c, d] none (some (k : Int)) none = ([a, b, c, d].take k).toArray := by
  obtain rfl | rfl | rfl | rfl | rfl : k = 0 ∨ k = 1 ∨ k = 2 ∨ k = 3 ∨ k = 4 := by omega
  all_goals rfl
theorem perm7 {α : Type} {a p c l : α} {t : List α} : ∀ q ∈ p :: c :: ([] ++ a :: l :: t), q ∈ a :: p :: c :: l :: t := by
  intro q hq
  simp only [List.mem_cons, List.nil_append] at *
  rcases hq with h | h | h | h | h
  · exact .inr (.inl h)
  · exact .inr (.inr (.inl h))
  · exact .inl h
  · exact .inr (.inr (.inr (.inl h)))
  · exact .inr (.inr (.inr (.inr h)))
theorem comp_led {g h : Heap} {L p c SL l : Addr} {q1 q2 : Addr × Obj} {oS oL : Obj} {T : List (Addr × Obj)} (N : News g L h (q1 :: q2 :: ([] ++ (SL, oS) :: (l, oL) :: T))) (a1 : @Ne Nat SL p) (a2 : @Ne Nat l p) (a3 : ∀ q ∈ T, @Ne Nat q.1 p) (b1 : @Ne Nat SL c) (b2 : @Ne Nat l c) (b3 : ∀ q ∈ T, @Ne Nat q.1 c) :
    ∃ T2, (∀ q ∈ T, q ∈ T2) ∧ (SL, oS) ∈ T2 ∧ (∀ q ∈ T2, @Ne Nat q.1 p) ∧ (∀ q ∈ T2, @Ne Nat q.1 c) ∧ News g L h (q1 :: q2 :: ([] ++ T2)) :=
  ⟨(SL, oS) :: (l, oL) :: T, fun q hq => .tail _ (.tail _ hq), .head _, List.forall_mem_cons.mpr ⟨a1, List.forall_mem_cons.mpr ⟨a2, a3⟩⟩, List.forall_mem_cons.mpr ⟨b1, List.forall_mem_cons.mpr ⟨b2, b3⟩⟩, N⟩
theorem perm8 {α : Type} {a b c d e t : α} {u v T : List α} : ∀ q ∈ a :: b :: c :: d :: e :: ((t :: (u ++ v)) ++ T), q ∈ t :: d :: e :: (u ++ a :: b :: c :: (v ++ T)) := by
  intro q hq
  simp only [List.mem_cons, List.mem_append] at *
  rcases hq with h | h | h | h | h | (h | h | h) | h
  · exact .inr (.inr (.inr (.inr (.inl h))))
  · exact .inr (.inr (.inr (.inr (.inr (.inl h)))))
  · exact .inr (.inr (.inr (.inr (.inr (.inr (.inl h))))))
  · exact .inr (.inl h)
  · exact .inr (.inr (.inl h))
  · exact .inl h
  · exact .inr (.inr (.inr (.inl h)))
  · exact .inr (.inr (.inr (.inr (.inr (.inr (.inr (.inl h)))))))
  · exact .inr (.inr (.inr (.inr (.inr (.inr (.inr (.inr h)))))))
theorem news_dropB {h₀ h : Heap} {L : Addr} {x y : Addr × Obj} {l : List (Addr × Obj)} (N : News h₀ L h (x :: y :: l)) : News h₀ L h (x :: l) := fun q hq => N q (by
  rcases List.mem_cons.mp hq with rfl | hq
  · exact .head _
  · exact .tail _ (.tail _ hq))
theorem small9 {i : Int} (h0 : 0 ≤ i) (h1 : i < 9) : 1 + i ∈ ([1, 2, 3, 4, 5, 6, 7, 8, 9] : List Int) := by
  simp only [List.mem_cons, List.not_mem_nil, or_false]
  omega
theorem plainB : plainT (Str.ofString "B") = true := by decide +kernel

section
variable {w : World} {dp un : Nat} {gd : Option (List Code)} {cn : Str} {cs : Scope} {a : Addr} {ccd : Value} {cl : List (Str × Addr)} {outer : List Env} {A₀ : Around} {base h₀ : Heap} {L : Addr} {m : Str → Option Value} {news : List (Addr × Obj)} {s : Shared}
  {Q E : Value → Shared → Prop} {qq : Program} {loose : List Str} {mean : ExcName → Option Value} {mg mb : Str → Option Value}

theorem obj_spec (d : Nat) (IH : ∀ d2, d = d2 + 1 → ObjSpec w d2) {p c : Addr} {n r : Int} {tn tr td : Tok} {kp kc : Nat} {vs : List Value} {ns : List Int} (B : Below A₀ base outer h₀) (F : Fr h₀ L s.heap m) (X : (KF w.params).In h₀) (N : News h₀ L s.heap ((p, listOf #[.ref c, .int n tn, .int r tr] kp) :: (c, listOf vs.toArray kc) :: news)) (T : Top qq loose mean mg mb h₀) (hk : cs.kind = .function)
  (hpc : @Ne Nat p c) (hpn : ∀ q ∈ news, @Ne Nat q.1 p) (hcn : ∀ q ∈ news, @Ne Nat q.1 c) (hi : IntsAre vs ns) (hlen : vs.length ≤ 1000) (hd : dp + 20 * d < 600) (hu : un + 40 * d < 3000)
  (ret : ∀ v e nw n' r' tn' tr' kp' kc' vs' ns' h' tk', Is w nw d v e → Fr h₀ L h' m → News h₀ L h' ((p, listOf #[.ref c, .int n' tn', .int r' tr'] kp') :: (c, listOf vs'.toArray kc') :: (nw ++ news)) → (∀ q ∈ nw, @Ne Nat q.1 p ∧ @Ne Nat q.1 c ∧ ∀ r ∈ news, @Ne Nat r.1 q.1) →
       IntsAre vs' ns' → vs'.length ≤ 1000 → Q v { s with heap := h', toks := tk' }) :
  wpAny (model PySem.Challenge.rw_og0174_01.row.prog w) (ktrTop dp un gd cn cs L a ccd cl outer) (call (.ref 387) [.ref p, .int d td]) Q E s := by
  revert X
  k_fill
  intro X
  refine' enterC [(Str.ofString "pen", .ref p), (Str.ofString "deep", .int d td)] B F X N T hk ?ho ?hcd (by omega) ?hb ?hl ?hnd ?e1 ?e2 ?e3 ?_
  (case ho => k_is)
  (case hcd => k_is)
  (case hb => exact BindsTo.of_eq rfl)
  (case hl => exact rfl)
  (case hnd => decide +kernel)
  (case e1 => exact rfl)
  (case e2 => exact rfl)
  (case e3 => exact rfl)
  intro g' L' h' tk' cells' FG' F' N' Y' B' X' T' l1
  k_fold
  k_cells Y'
  (try simp only [List.cons_append, List.nil_append] at N')
  have hpL := l1 _ (.head _)
  have hcL := l1 _ (.tail _ (.head _))
  rename_i oA oB dA dB
  have cA : oA.data = .cell (some (.int d td)) := dA
  have cB : oB.data = .cell (some (.ref p)) := dB
  clear dA dB
  have hpL2 : @LT.lt Nat instLTNat p L' := hpL
  have hcL2 : @LT.lt Nat instLTNat c L' := hcL
  obtain ⟨T, hT⟩ : ∃ T, T = (L' + 1 + 1, oA) :: (L' + 1, oB) :: news := ⟨_, rfl⟩
  have mA : (L' + 1 + 1, oA) ∈ T := by rw [hT]; exact .head _
  have mB : (L' + 1, oB) ∈ T := by rw [hT]; exact .tail _ (.head _)
  have hTn : ∀ q ∈ news, q ∈ T := fun q hq => by rw [hT]; exact .tail _ (.tail _ hq)
  have hpT : ∀ q ∈ T, @Ne Nat q.1 p := by
    rw [hT]
    refine List.forall_mem_cons.mpr ⟨?_, List.forall_mem_cons.mpr ⟨?_, hpn⟩⟩
    · exact Nat.ne_of_gt (Nat.lt_succ_of_lt (Nat.lt_succ_of_lt hpL2))
    · exact Nat.ne_of_gt (Nat.lt_succ_of_lt hpL2)
  have hcT : ∀ q ∈ T, @Ne Nat q.1 c := by
    rw [hT]
    refine List.forall_mem_cons.mpr ⟨?_, List.forall_mem_cons.mpr ⟨?_, hcn⟩⟩
    · exact Nat.ne_of_gt (Nat.lt_succ_of_lt (Nat.lt_succ_of_lt hcL2))
    · exact Nat.ne_of_gt (Nat.lt_succ_of_lt hcL2)
  replace N' : News g' L' h' ((p, listOf #[.ref c, .int n tn, .int r tr] kp) :: (c, listOf vs.toArray kc) :: T) := news_sub N' (by
    rw [hT]
    intro q hq
    simp only [List.mem_cons] at *
    rcases hq with h | h | h | h | h
    · exact .inr (.inr (.inl h))
    · exact .inr (.inr (.inr (.inl h)))
    · exact .inl h
    · exact .inr (.inl h)
    · exact .inr (.inr (.inr (.inr h))))
  have hDpT := hpT
  have hDcT := hcT
  k_with "ifexp" => (
    (fail_if_success (rename IfMark => zz))
    k_dflt (refine ifjoin (d := d) (fun hmark => ?_) (fun kk ku ktk hk0 hk1 hk7 => ?_)))
  k_with "obj" => (
    k_dflt (refine draw_spec (by assumption) (by assumption) (by assumption) (by first | assumption | exact news_sub (by assumption) rot3) (by assumption) rfl hpc (by first | assumption | k_all) (by first | assumption | k_all) (by assumption) (by assumption) (by omega) (by omega) (by omega) (by omega) ?_)
    intro i1 t1 n1 r1 tn1 tr1 kp1 kc1 vs1 ns1 h1 tk1 F1 N1 I1 L1 lo1 hi1)
  k_with "obj" => (
    k_dflt (refine pickI_spec (by assumption) (by assumption) (by assumption) (news_sub (by assumption) rot3) (by assumption) rfl hpc hpT hcT (by k_ne) (by k_ne) (by assumption) (by assumption) (by omega) (by omega) ?_)
    intro ii iu n1 r1 tn1 tr1 kp1 kc1 vs1 ns1 h1 tk1 hv F1 N1 I1 L1)
  k_with "obj" => (
    k_dflt (refine pickS_spec (by assumption) (by assumption) (by assumption) (news_sub (by assumption) rot3) (by assumption) rfl hpc hpT hcT (by k_ne) (by k_ne) (by assumption) (by assumption) (by omega) (by omega) ?_)
    intro tt tu n1 r1 tn1 tr1 kp1 kc1 vs1 ns1 h1 tk1 hv F1 N1 I1 L1)
  k_with "obj" => (
    k_dflt (refine pickO_spec (by assumption) (by assumption) (by assumption) (news_sub (by assumption) rot3) (by assumption) rfl hpc hpT hcT (by k_ne) (by k_ne) (by assumption) (by assumption) (by omega) (by omega) ?_)
    intro oo ou n1 r1 tn1 tr1 kp1 kc1 vs1 ns1 h1 tk1 hv F1 N1 I1 L1)
  k_with "obj" => (
    k_dflt (refine pickB_spec (by assumption) (by assumption) (by assumption) (news_sub (by assumption) rot3) (by assumption) rfl hpc hpT hcT (by k_ne) (by k_ne) (by assumption) (by assumption) (by omega) (by omega) ?_)
    intro bb n1 r1 tn1 tr1 kp1 kc1 vs1 ns1 h1 tk1 hv F1 N1 I1 L1)
  k_with "obj" => (
    k_dflt (refine mkname_spec (by assumption) (by assumption) (by assumption) (by assumption) (by assumption) rfl (by omega) (by omega) ?_)
    intro x1 dx1 ta tb h2 tk2 F2 N2 lt1 lt2)
  k_with "obj" => (
    k_dflt (refine mkref_spec (by assumption) (by assumption) (by assumption) (by assumption) (by assumption) rfl (by omega) (by omega) ?_)
    intro x1 dx1 ta tb ta2 tb2 h2 tk2 F2 N2 lt1 lt2)
  k_with "obj" => (
    k_dflt (refine mkstr_spec (by assumption) (by assumption) (by assumption) (by assumption) (by assumption) rfl (by omega) (by omega) ?_)
    intro x1 dx1 ta tb ta2 h2 tk2 F2 N2 lt1 lt2)
  k_steps
  all_goals (try k_data)
  all_goals (try (exfalso; omega))
  · rename_i kF kN _ _
    exact ret _ _ [] _ _ _ _ _ _ _ _ _ _ (Is.leaf d (.plain _ _ _ (.int _ _ hv))) kF (news_sub kN (sub_fin (nw := []) hTn)) (fun _ h => nomatch h) I1 L1
  · rename_i kF kN _ _
    exact ret _ _ [_, _] _ _ _ _ _ _ _ _ _ _ (Is.leaf d (.plain _ _ _ (.name x1 dx1 _ ta tb (.head _) (.tail _ (.head _)) hv))) kF (news_sub kN (sub_fin (nw := [_, _]) hTn)) (offs2 hTn lt1 lt2) I1 L1
  · rename_i kF kN _ _
    exact ret _ _ [_, _] _ _ _ _ _ _ _ _ _ _ (Is.leaf d (.plain _ _ _ (.str x1 dx1 _ _ ta tb ta2 (.head _) (.tail _ (.head _)) (by assumption)))) kF (news_sub kN (sub_fin (nw := [_, _]) hTn)) (offs2 hTn lt1 lt2) I1 L1
  · rename_i kF kN _ _
    exact ret _ _ [] _ _ _ _ _ _ _ _ _ _ (Is.leaf d (.plain _ _ _ (.truth _))) kF (news_sub kN (sub_fin (nw := []) hTn)) (fun _ h => nomatch h) I1 L1
  · rename_i kF kN _ _
    exact ret _ _ [_, _] _ _ _ _ _ _ _ _ _ _ (Is.leaf d (.ref x1 dx1 _ ta tb ta2 tb2 (.head _) (.tail _ (.head _)) (small9 lo1 hi1))) kF (news_sub kN (sub_fin (nw := [_, _]) hTn)) (offs2 hTn lt1 lt2) I1 L1
  · rename_i kF kN _ _
    exact ret _ _ [] _ _ _ _ _ _ _ _ _ _ (Is.leaf d (.plain _ _ _ .null)) kF (news_sub kN (sub_fin (nw := []) hTn)) (fun _ h => nomatch h) I1 L1
  · rename_i kF kN _ _
    exact ret _ _ [_, _] _ _ _ _ _ _ _ _ _ _ (Is.leaf d (.plain _ _ _ (.name x1 dx1 _ ta tb (.head _) (.tail _ (.head _)) plainB))) kF (news_sub kN (sub_fin (nw := [_, _]) hTn)) (offs2 hTn lt1 lt2) I1 L1
  · rename News g' L' _ _ => N8
    rename Fr g' L' _ _ => F8
    obtain ⟨d2, rfl⟩ : ∃ d2, d = d2 + 1 := ⟨d - 1, by omega⟩
    have IH2 : ObjSpec w d2 := IH d2 rfl
    have hd2 : ((d2 + 1 : Nat) : Int) - 1 = (d2 : Int) := by omega
    obtain ⟨k5, hk5, hk5'⟩ : ∃ k5 : Nat, i1 = (k5 : Int) ∧ k5 < 5 := ⟨i1.toNat, by omega, by omega⟩
    subst hk5
    unfold Stop
    rw [slice4 _ _ _ _ k5 hk5'] at N8
    have N9 := news_sub N8 perm7
    clear N8
    obtain ⟨T2, hT2, hSL, hpT2, hcT2, N10⟩ := comp_led (p := p) (c := c) N9 (Nat.ne_of_gt (Nat.lt_succ_of_lt (Heap.lt_size (N1 _ (.head _)).1))) (by k_ne) hpT (Nat.ne_of_gt (Nat.lt_succ_of_lt (Heap.lt_size (N1 _ (.tail _ (.head _))).1))) (by k_ne) hcT
    refine LCg.CompSrc.ledger rfl F8 N10 (.tail _ (.tail _ hSL)) (by rw [sizeLine_eq]; simp; omega) fun gg => ?_
    refine compRest_inv (fun i ys nw => ∃ n9 r9 tn9 tr9 kp9 kc9 vs9 ns9 nw1 es ps, nw = (p, listOf #[.ref c, .int n9 tn9, .int r9 tr9] kp9) :: (c, listOf vs9.toArray kc9) :: (nw1 ++ T2) ∧ IntsAre vs9 ns9 ∧ vs9.length ≤ 1000 ∧ Trip w nw1 d2 ys ps es ∧ ps.map (·.1) = dkeys.take i ∧ ys.length = i ∧ (∀ q ∈ nw1, @Ne Nat q.1 p ∧ @Ne Nat q.1 c ∧ ∀ r ∈ T2, @Ne Nat r.1 q.1)) ?j0 ?turn ?fin
    case j0 => exact ⟨_, _, _, _, _, _, _, _, [], [], [], rfl, I1, L1, .nil, rfl, rfl, fun _ h => nomatch h⟩
    case turn =>
      rintro i v I oI C oC D m₂ ys nw h5 tk5 E' hi hP ⟨n9, r9, tn9, tr9, kp9, kc9, vs9, ns9, nw1, es, ps, rfl, I9, L9, hA, hkk, hl9, ho9⟩ hC hx5 F5 N5 off ne
      obtain ⟨ky, ku5, rfl, hky⟩ := item4 _ _ _ _ _ _ _ hP
      have mA1 : (L' + 1 + 1, oA) ∈ nw1 ++ T2 := List.mem_append.mpr (.inr (hT2 _ mA))
      have mB1 : (L' + 1, oB) ∈ nw1 ++ T2 := List.mem_append.mpr (.inr (hT2 _ mB))
      have offp := off _ (.head _)
      have offc := off _ (.tail _ (.head _))
      have hpN : ∀ q ∈ (I, oI) :: (C, oC) :: (D, LCg.lst ys) :: (nw1 ++ T2), @Ne Nat q.1 p := List.forall_mem_cons.mpr ⟨Ne.symm offp.1, List.forall_mem_cons.mpr ⟨Ne.symm offp.2.1, List.forall_mem_cons.mpr ⟨Ne.symm offp.2.2, fun q hq => (List.mem_append.mp hq).elim (fun h => (ho9 q h).1) (hpT2 q)⟩⟩⟩
      have hcN : ∀ q ∈ (I, oI) :: (C, oC) :: (D, LCg.lst ys) :: (nw1 ++ T2), @Ne Nat q.1 c := List.forall_mem_cons.mpr ⟨Ne.symm offc.1, List.forall_mem_cons.mpr ⟨Ne.symm offc.2.1, List.forall_mem_cons.mpr ⟨Ne.symm offc.2.2, fun q hq => (List.mem_append.mp hq).elim (fun h => (ho9 q h).2.1) (hcT2 q)⟩⟩⟩
      k_with "obj" => (
        rw [hd2]
        k_dflt (refine IH2 (by assumption) F5 (by assumption) (news_sub N5 perm5) (by assumption) rfl hpc hpN hcN I9 L9 (by omega) (by omega) ?_)
        intro v6 e6 nw6 n6 r6 tn6 tr6 kp6 kc6 vs6 ns6 h6 tk6 hIs F6 N6 off6 I6 L6)
      k_steps
      rename (_ ∧ _ ∧ AllLt _ (nw6 ++ _)) => ltD
      rename News g' L' _ _ => N7
      rename Fr g' L' _ _ => F7
      have az := ktn_ltOf ltD.2.2
      k_dflt (refine comp_end F7 (news_sub N7 perm8) (fun q hq => ?_) (.inr ⟨_, .tail _ (.tail _ (List.mem_append.mpr (.inr hSL))), rfl, _, rfl⟩) ⟨_, _, _, _, _, _, _, _, _ :: (nw6 ++ nw1), es ++ [e6], ps ++ [(ky, v6)], rfl, I6, L6, (hA.mono (fun q hq => .tail _ (List.mem_append.mpr (.inr hq)))).snoc (.head _) (Is.mono (fun q hq => .tail _ (List.mem_append.mpr (.inl hq))) _ _ _ hIs), by rw [List.map_append, hkk, hky]; rfl, by simp [hl9], List.forall_mem_cons.mpr ⟨⟨Nat.ne_of_gt ltD.1, Nat.ne_of_gt ltD.2.1, fun r hr => Nat.ne_of_lt (az r (List.mem_append.mpr (.inr (.tail _ (.tail _ (.tail _ (List.mem_append.mpr (.inr hr))))))))⟩, fun q hq => ?_⟩⟩)
      · rcases List.mem_cons.mp hq with rfl | hq
        · exact offp
        · rcases List.mem_cons.mp hq with rfl | hq
          · exact offc
          · rcases List.mem_append.mp hq with hq | hq
            · rcases List.mem_cons.mp hq with rfl | hq
              · exact ⟨Nat.ne_of_gt (az _ (List.mem_append.mpr (.inr (.head _)))), Nat.ne_of_gt (az _ (List.mem_append.mpr (.inr (.tail _ (.head _))))), Nat.ne_of_gt (az _ (List.mem_append.mpr (.inr (.tail _ (.tail _ (.head _))))))⟩
              · rcases List.mem_append.mp hq with hq | hq
                · have z := (off6 q hq).2.2
                  exact ⟨Ne.symm (z _ (.head _)), Ne.symm (z _ (.tail _ (.head _))), Ne.symm (z _ (.tail _ (.tail _ (.head _))))⟩
                · exact off q (.tail _ (.tail _ (List.mem_append.mpr (.inl hq))))
            · exact off q (.tail _ (.tail _ (List.mem_append.mpr (.inr hq))))
      · rcases List.mem_append.mp hq with hq | hq
        · have z := off6 q hq
          exact ⟨z.1, z.2.1, fun r hr => z.2.2 r (.tail _ (.tail _ (.tail _ (List.mem_append.mpr (.inr hr)))))⟩
        · exact ho9 q hq
    case fin =>
      rintro ys nw ⟨n9, r9, tn9, tr9, kp9, kc9, vs9, ns9, nw1, es, ps, rfl, I9, L9, hA, hkk, hl9, ho9⟩
      have hsz5 : ys.length ≤ 4 := by rw [hl9]; simp; omega
      have hkk' : ps.map (·.1) = dkeys.take ys.length := by rw [hl9]; exact hkk
      have hpl := hA.length
      k_with "dict" => (
        rename News g' L' _ _ => N7
        k_dflt (refine call_dict_pairs (ps := ps) (by exact rfl) T'.nolimit (by assumption) N7 (.head _) (hA.tups (fun q hq => (N7 q (.tail _ (.tail _ (.tail _ (List.mem_append.mpr (.inl hq)))))).1)) (by rw [hkk]; exact dkeys_nodup _) hpl (by omega) ?_)
        intro x7 o7 h7 tk7 F8 N8 lo7 hd7 lt7)
      k_steps
      all_goals (try k_data)
      rename_i kF kN _ _
      refine ret _ (dictE ys.length (gOf ps es)) ((x7, o7) :: nw1) _ _ _ _ _ _ _ _ _ _ (.inr (.inr ⟨x7, o7, ps, ys.length, gOf ps es, rfl, .head _, hd7, lo7, hsz5, hkk', fun k hk => (hA.mono (fun q hq => .tail _ hq)).g k (by rw [hkk']; exact hk), rfl⟩)) kF (news_sub (news_dropB kN) (sub_fin2 (fun q hq => hT2 q (hTn q hq)))) (List.forall_mem_cons.mpr ⟨⟨Nat.ne_of_gt (lt7 _ (.tail _ (.head _))), Nat.ne_of_gt (lt7 _ (.tail _ (.tail _ (.head _)))), fun r hr => Nat.ne_of_lt (lt7 _ (.tail _ (.tail _ (.tail _ (List.mem_append.mpr (.inr (hT2 r (hTn r hr))))))))⟩, fun q hq => ?_⟩) I9 L9
      have z := ho9 q hq
      exact ⟨z.1, z.2.1, fun r hr => z.2.2 r (hT2 r (hTn r hr))⟩
  · rename IsRange _ _ _ _ _ _ _ _ => hR
    rename News g' L' _ _ => N8
    rename Fr g' L' _ _ => F8
    obtain ⟨d2, rfl⟩ : ∃ d2, d = d2 + 1 := ⟨d - 1, by omega⟩
    have IH2 : ObjSpec w d2 := IH d2 rfl
    have hd2 : ((d2 + 1 : Nat) : Int) - 1 = (d2 : Int) := by omega
    obtain ⟨k5, hk5, hk5'⟩ : ∃ k5 : Nat, i1 = (k5 : Int) ∧ k5 < 5 := ⟨i1.toNat, by omega, by omega⟩
    subst hk5
    unfold Stop
    refine LCg.CompSrc.range rfl F8 N8 hR (rng5 k5 hk5').1 (rng5 k5 hk5').2 (by rw [sizeLine_eq]; omega) fun gg => ?_
    refine compRest_inv (fun i ys nw => ∃ n9 r9 tn9 tr9 kp9 kc9 vs9 ns9 nw1 es, nw = (p, listOf #[.ref c, .int n9 tn9, .int r9 tr9] kp9) :: (c, listOf vs9.toArray kc9) :: (nw1 ++ T) ∧ IntsAre vs9 ns9 ∧ vs9.length ≤ 1000 ∧ All2 (Is w nw1 d2) ys es ∧ ys.length = i ∧ (∀ q ∈ nw1, @Ne Nat q.1 p ∧ @Ne Nat q.1 c ∧ ∀ r ∈ T, @Ne Nat r.1 q.1)) ?j0 ?turn ?fin
    case j0 => exact ⟨_, _, _, _, _, _, _, _, [], [], rfl, I1, L1, .nil, rfl, fun _ h => nomatch h⟩
    case turn =>
      rintro i v I oI C oC D m₂ ys nw h5 tk5 E' hi hP ⟨n9, r9, tn9, tr9, kp9, kc9, vs9, ns9, nw1, es, rfl, I9, L9, hA, hl9, ho9⟩ hC hx5 F5 N5 off ne
      obtain ⟨tz, rfl⟩ := hP
      have mA1 : (L' + 1 + 1, oA) ∈ nw1 ++ T := List.mem_append.mpr (.inr mA)
      have mB1 : (L' + 1, oB) ∈ nw1 ++ T := List.mem_append.mpr (.inr mB)
      have offp := off _ (.head _)
      have offc := off _ (.tail _ (.head _))
      have hpN : ∀ q ∈ (I, oI) :: (C, oC) :: (D, LCg.lst ys) :: (nw1 ++ T), @Ne Nat q.1 p := List.forall_mem_cons.mpr ⟨Ne.symm offp.1, List.forall_mem_cons.mpr ⟨Ne.symm offp.2.1, List.forall_mem_cons.mpr ⟨Ne.symm offp.2.2, fun q hq => (List.mem_append.mp hq).elim (fun h => (ho9 q h).1) (hpT q)⟩⟩⟩
      have hcN : ∀ q ∈ (I, oI) :: (C, oC) :: (D, LCg.lst ys) :: (nw1 ++ T), @Ne Nat q.1 c := List.forall_mem_cons.mpr ⟨Ne.symm offc.1, List.forall_mem_cons.mpr ⟨Ne.symm offc.2.1, List.forall_mem_cons.mpr ⟨Ne.symm offc.2.2, fun q hq => (List.mem_append.mp hq).elim (fun h => (ho9 q h).2.1) (hcT q)⟩⟩⟩
      k_with "obj" => (
        rw [hd2]
        k_dflt (refine IH2 (by assumption) F5 (by assumption) (news_sub N5 perm5) (by assumption) rfl hpc hpN hcN I9 L9 (by omega) (by omega) ?_)
        intro v6 e6 nw6 n6 r6 tn6 tr6 kp6 kc6 vs6 ns6 h6 tk6 hIs F6 N6 off6 I6 L6)
      k_steps
      refine comp_end F6 (news_sub N6 perm6) (fun q hq => ?_) trivial ⟨_, _, _, _, _, _, _, _, nw6 ++ nw1, es ++ [e6], rfl, I6, L6, (hA.imp (Is.mono (fun q hq => List.mem_append.mpr (.inr hq)) _)).snoc (Is.mono (fun q hq => List.mem_append.mpr (.inl hq)) _ _ _ hIs), by simp [hl9], fun q hq => ?_⟩
      · rcases List.mem_cons.mp hq with rfl | hq
        · exact offp
        · rcases List.mem_cons.mp hq with rfl | hq
          · exact offc
          · rcases List.mem_append.mp hq with hq | hq
            · rcases List.mem_append.mp hq with hq | hq
              · have z := (off6 q hq).2.2
                exact ⟨Ne.symm (z _ (.head _)), Ne.symm (z _ (.tail _ (.head _))), Ne.symm (z _ (.tail _ (.tail _ (.head _))))⟩
              · exact off q (.tail _ (.tail _ (List.mem_append.mpr (.inl hq))))
            · exact off q (.tail _ (.tail _ (List.mem_append.mpr (.inr hq))))
      · rcases List.mem_append.mp hq with hq | hq
        · have z := off6 q hq
          exact ⟨z.1, z.2.1, fun r hr => z.2.2 r (.tail _ (.tail _ (.tail _ (List.mem_append.mpr (.inr hr)))))⟩
        · exact ho9 q hq
    case fin =>
      rintro ys nw ⟨n9, r9, tn9, tr9, kp9, kc9, vs9, ns9, nw1, es, rfl, I9, L9, hA, hl9, ho9⟩
      k_steps
      all_goals (try k_data)
      rename_i o1 kF kN _ _
      have o1m := off1_mem o1.2.2
      refine ret _ (arrE es) ((_, LCg.lst ys) :: nw1) _ _ _ _ _ _ _ _ _ _ (.inr (.inl ⟨_, ys, ys.length, es, rfl, .head _, by omega, hA.imp (Is.mono (fun q hq => .tail _ hq) _), rfl⟩)) kF (news_sub kN (sub_fin2 hTn)) (List.forall_mem_cons.mpr ⟨⟨Ne.symm o1.1, Ne.symm o1.2.1, fun r hr => o1m r (List.mem_append.mpr (.inr (hTn r hr)))⟩, fun q hq => ?_⟩) I9 L9
      have z := ho9 q hq
      exact ⟨z.1, z.2.1, fun r hr => z.2.2 r (hTn r hr)⟩

end
theorem obj_all (w : World) : ∀ d, ObjSpec w d := by
  intro d
  induction d with
  | zero =>
    intro dp un gd cn cs a ccd cl outer A₀ base h₀ L m news s Q E qq loose mean mg mb p c n r tn tr td kp kc vs ns B F X N T hk hpc hpn hcn hi hlen hd hu ret
    exact obj_spec 0 (fun d2 h => by omega) B F X N T hk hpc hpn hcn hi hlen hd hu ret
  | succ d IH =>
    intro dp un gd cn cs a ccd cl outer A₀ base h₀ L m news s Q E qq loose mean mg mb p c n r tn tr td kp kc vs ns B F X N T hk hpc hpn hcn hi hlen hd hu ret
    exact obj_spec (d + 1) (fun d2 h => by obtain rfl : d = d2 := by omega
                                           exact IH) B F X N T hk hpc hpn hcn hi hlen hd hu ret
end
section
local macro_rules | `(tactic| walk_at "eval ListComp") => `(tactic| (k_here; k_dflt (refine LCg.ListComp_U (F₀ := by k_asm) (by with_unfolding_all rfl) (by decide) (by rfl) (by decide) (by rfl) ?_)))
local macro_rules | `(tactic| walk_at "CompSrc") => `(tactic| (k_here; k_dflt (refine stop_intro ?_)))
local macro_rules | `(tactic| walk_at "CompEnd") => `(tactic| (k_dflt (refine stop_intro ?_)))

section
variable {w : World} {dp un : Nat} {gd : Option (List Code)} {cn : Str} {cs : Scope} {a : Addr} {ccd : Value} {cl : List (Str × Addr)} {outer : List Env} {A₀ : Around} {base h₀ : Heap} {L : Addr} {m : Str → Option Value} {news : List (Addr × Obj)} {s : Shared}
  {Q E : Value → Shared → Prop} {qq : Program} {loose : List Str} {mean : ExcName → Option Value} {mg mb : Str → Option Value}

theorem pen_spec {x : Addr} {us : List Value} {ks : List Int} (B : Below A₀ base outer h₀) (F : Fr h₀ L s.heap m) (X : (KF w.params).In h₀) (N : News h₀ L s.heap news) (T : Top qq loose mean mg mb h₀) (hk : cs.kind = .function) (hx : h₀.IsList x us.toArray) (hi : IntsAre us ks) (hl : us.length ≤ 63) (hd : dp < 750) (hu : un < 6000)
  (ret : ∀ p c vs ns kp kc tn tr h' tk', Fr h₀ L h' m → News h₀ L h' ((p, listOf #[.ref c, .int 0 tn, .int 0 tr] kp) :: (c, listOf vs.toArray kc) :: news) → IntsAre vs ns → vs.length ≤ 1000 → (∀ q ∈ news, @Ne Nat q.1 p) → (∀ q ∈ news, @Ne Nat q.1 c) → @Ne Nat p c → Q (.ref p) { s with heap := h', toks := tk' }) :
  wpAny (model PySem.Challenge.rw_og0174_01.row.prog w) (ktrTop dp un gd cn cs L a ccd cl outer) (call (.ref 368) [.ref x]) Q E s := by
  revert X
  k_fill
  intro X
  refine' enter1 (Str.ofString "script") B F X N T hk ?ho ?hcd (by omega) ?hb ?hl ?e1 ?e2 ?e3 ?e4 ?_
  (case ho => k_is)
  (case hcd => k_is)
  (case hb => exact BindsTo.of_eq rfl)
  (case hl => exact rfl)
  (case e1 => exact rfl)
  (case e2 => exact rfl)
  (case e3 => exact rfl)
  (case e4 => exact rfl)
  intro g' L' h' tk' FG' F' N' B' X' T'
  k_fold
  have hx2 : g'.IsList x us.toArray := hx.at fun o e => FG'.keep _ _ e
  have hx3 : h'.IsList x us.toArray := hx2.at fun o e => F'.keep _ _ e
  k_steps
  all_goals unfold Stop
  rename (IntsAre _ (List.take 40 ks)) => hw
  have hwl := hw.length
  rw [List.length_take] at hwl
  refine LCg.CompSrc.ledger rfl (by assumption) (by assumption) (.head _) (by rw [sizeLine_eq]; simp; omega) fun gg => ?_
  refine compRest_inv (fun i ys nw => nw = _ ∧ ys.length = i ∧ ∃ js, IntsAre ys js) ⟨rfl, rfl, [], .nil⟩ ?_ ?_
  · intro i v I oI C oC D m₂ ys nw h tk E' hi hP hJ hC hx F1 N1 off ne
    obtain ⟨rfl, hn, js, hys⟩ := hJ
    obtain ⟨c, u, rfl, hcm⟩ := IntsAre.at hw i v (by simpa using hP)
    k_steps
    all_goals unfold Stop
    exact comp_end F1 N1 off (.inr ⟨_, .head _, rfl, _, rfl⟩) ⟨rfl, by simp [hn], _, ints_snoc hys _ _⟩
  · rintro ys nw ⟨rfl, hln, js, hys⟩
    intro D h1 tk1 F1 N1 o1
    have hln2 : ys.length ≤ 1000 := by simp at hln; omega
    k_steps
    all_goals (try k_data)
    rename_i lA kF kN _ _
    exact ret _ D ys js _ _ _ _ _ _ kF (news_drop3 kN) hys hln2 (fun q hq => Nat.ne_of_lt (ktn_ltOf lA.2.2 q hq)) (fun q hq => off1_mem o1 q (.tail _ hq)) (Nat.ne_of_gt lA.1)

end
end
section
def fstC (b : List UInt8) : Int := ((b.getD 0 0).toNat : Int)
def lastC (a : List UInt8) : Int := ((a.getD (a.length - 1) 0).toNat : Int)
def rtB (a b : List UInt8) : Bool := regI (fstC b) && (regI (lastC a) || a == [47])
theorem bytes_last {prog : Program} {w : World} {A : Around} {E : Value → Shared → Prop} {s : Shared} {x : List UInt8} {t ui : Tok} {value slice : PySem.Expr} {Q : Value → Shared → Prop} (h0 : 0 < x.length) (hl : x.length ≤ 100)
    (h : ∀ t' k, Q (.int (lastC x) t') { s with toks := k })
    (hs : subscripted slice false (.bytes x.toArray t) (.int (-1) ui) = operate [.bytes x.toArray t, .int (-1) ui] (getItem (.bytes x.toArray t) (.int (-1) ui)) := by with_unfolding_all rfl)
    (ht : ∀ r, letTemporaryGo value (.bytes x.toArray t) r = pure () := by intro _; with_unfolding_all rfl) : wpAny (model prog w) A (subscriptTail value slice (.bytes x.toArray t) (.int (-1) ui)) Q E s := by
  have hk : (KBw.bInts x.toArray).length = x.length := by simp [KBw.ints_length]
  refine KBc.itemR_K (ks := KBw.bInts x.toArray) rfl (by rw [hk]; omega) (by rw [hk]; omega) (by omega) (fun t' k _ _ => ?_) hs ht
  have e : (KBw.bInts x.toArray).getD (-1 + ((KBw.bInts x.toArray).length : Int)).toNat 0 = lastC x := by
    rw [hk]
    have e1 : (-1 + (x.length : Int)).toNat = x.length - 1 := by omega
    rw [e1]
    unfold lastC KBw.bInts
    rw [List.getD_eq_getElem?_getD, List.getD_eq_getElem?_getD, List.getElem?_map]
    cases hq : (x.toArray.toList)[x.length - 1]? with
    | none => rfl
    | some v => rfl
  rw [e]
  exact h t' k
local macro_rules | `(tactic| walk_at "subscriptTail") => `(tactic| (k_here; (with_reducible show wpAny _ _ (subscriptTail _ (Expr.UnaryOp _ _ _) (Value.bytes _ _) (Value.int _ _)) _ _ _); k_dflt (refine bytes_last (by assumption) (by assumption) ?_); intro tl1 tl2))
local macro_rules | `(tactic| walk_at "call ref") => `(tactic| (k_here; (with_reducible show wpAny _ _ (call (Value.ref 30) _) _ _ _); k_dflt (refine' regular_spec ?B ?F ?X ?N ?T ?hk ?hd ?_; (case B => k_asm); (case F => k_asm); (case X => k_asm); (case N => k_asm); (case T => k_asm); (case hk => exact rfl); (case hd => omega)); intro h1 tk1 F1 N1))
section
variable {w : World} {dp un : Nat} {gd : Option (List Code)} {cn : Str} {cs : Scope} {a : Addr} {ccd : Value} {cl : List (Str × Addr)} {outer : List Env} {A₀ : Around} {base h₀ : Heap} {L : Addr} {m : Str → Option Value} {news : List (Addr × Obj)} {s : Shared}
  {Q E : Value → Shared → Prop} {qq : Program} {loose : List Str} {mean : ExcName → Option Value} {mg mb : Str → Option Value}

theorem run_spec {a0 b0 : List UInt8} {ta tb : Tok} (B : Below A₀ base outer h₀) (F : Fr h₀ L s.heap m) (X : (KF w.params).In h₀) (N : News h₀ L s.heap news) (T : Top qq loose mean mg mb h₀) (hk : cs.kind = .function) (ha : 0 < a0.length) (hb : 0 < b0.length) (ha2 : a0.length ≤ 100) (hb2 : b0.length ≤ 100) (hd : dp < 750) (hu : un < 6000)
  (ret : ∀ h' tk', Fr h₀ L h' m → News h₀ L h' news → Q (.bool (rtB a0 b0)) { s with heap := h', toks := tk' }) :
  wpAny (model PySem.Challenge.rw_og0174_01.row.prog w) (ktrTop dp un gd cn cs L a ccd cl outer) (call (.ref 356) [.bytes a0.toArray ta, .bytes b0.toArray tb]) Q E s := by
  revert X
  k_fill
  intro X
  refine' enter2 (Str.ofString "before") (Str.ofString "behind") B F X N T hk ?ho ?hcd (by omega) ?hb ?hl ?e1 ?e2 ?e3 ?e4 ?_
  (case ho => k_is)
  (case hcd => k_is)
  (case hb => exact BindsTo.of_eq rfl)
  (case hl => exact rfl)
  (case e1 => exact rfl)
  (case e2 => exact rfl)
  (case e3 => exact rfl)
  (case e4 => exact rfl)
  intro g' L' h' tk' FG' F' N' B' X' T'
  k_fold
  k_steps
  all_goals (try k_data)
  all_goals (refine qbool (ret _ _ (by assumption) (by assumption)) ?_; simp_all [rtB, fstC])

end
end
section
theorem add_led {prog : Program} {w : World} {A : Around} {E : Value → Shared → Prop} {s : Shared} {h₀ : Heap} {L : Addr} {m : Str → Option Value} {news : Led} {a b : Addr} {vs ws : List Value} {k k2 : Nat} {Q : Value → Shared → Prop} (F : Fr h₀ L s.heap m) (N : News h₀ L s.heap news)
    (ha : (a, listOf vs.toArray k) ∈ news) (hb : (b, listOf ws.toArray k2) ∈ news) (hz : vs.length + ws.length ≤ 5000)
    (h : ∀ D h', Fr h₀ L h' m → News h₀ L h' ((D, listOf (vs ++ ws).toArray 0) :: news) → (∀ p ∈ news, @LT.lt Nat instLTNat p.1 D) → Q (.ref D) { s with heap := h' }) : wpAny (model prog w) A (binaryOp .Add (.ref a) (.ref b)) Q E s :=
  add_lists F N ⟨_, (N _ ha).1, rfl, k, rfl⟩ ⟨_, (N _ hb).1, rfl, k2, rfl⟩ (fun h' F' N' => h _ h' F' N' fun p hp => Heap.lt_size (N p hp).1) (by rw [sizeLine_eq]; omega)
end
section
theorem slot_bj : Slot "bytes" "join" "bytes.join" :=
  .of (owner := "bytes") (n := "join") (by rw [typeLookup_type, builtinLookup_eq_fast]; kernel_rfl) (by decide +kernel) (by decide +kernel) (by decide +kernel)
    (by first | exact .inl (by decide +kernel) | exact .inr (by decide +kernel)) (by rw [isSubtype_type]; kernel_rfl)
theorem entry_bj : entryFor table "bytes.join" = some Builtin.«bytes.join» := entryFor_of_tree (by kernel_rfl)
theorem type_bj : typeOf (.builtin "bytes.join") = pure (.type "method_descriptor") := by show builtinType _ = _; rw [builtinType_eq_fast]; kernel_rfl
theorem args_bj (a b : Value) : argsOk "bytes.join" ⟨[a, b], []⟩ := by unfold argsOk; kernel_rfl
theorem method_bj {A : Around} {E : Value → Shared → Prop} {s : Shared} {M : Model} {b : Array UInt8} {t : Tok} {pl : Sem Bool} {Q : Value × List Value → Shared → Prop} (h : Q (.builtin "bytes.join", [.bytes b t]) s) : wpAny M A (getMethod (.bytes b t) "join" pl) Q E s :=
  KBd.method_of (.bytes b t) (typeIs_bytes _ _ _) slot_bj type_bj KBd.noRef h
end
section
section
variable {prog : Program} {w : World} {A : Around} {E : Value → Shared → Prop} {s : Shared}
theorem special_buffer (b : Array UInt8) (t : Tok) : specialOf (.bytes b t) "__buffer__" = pure (some (.builtin "bytes.__buffer__")) := KBy.special_eq KBy.look_buffer
theorem take_bytes (id : String) (b : Array UInt8) (t : Tok) : Builtin.Bytes.takeBufferQuiet? id (.bytes b t) 0 = pure (some (b, none)) := by
  unfold Builtin.Bytes.takeBufferQuiet? Builtin.Bytes.takeBuffer? Builtin.Bytes.buffer?
  rw [special_buffer, KBy.own_buffer, KBy.own_release]
  kernel_rfl
theorem letGo_bytes (keep : List Value) : ∀ (vs : List Value) {Q : Unit → Shared → Prop}, Q () s → wpAny (model prog w) A (Builtin.Bytes.joinLetGo (vs.map fun v => (v, none)) keep) Q E s := by
  intro vs
  induction vs with
  | nil => intro Q h; exact wpAny_pure h
  | cons v vs ih =>
    intro Q h
    show wpAny _ _ (letGo _ _ >>= fun _ => _) _ _ _
    refine wpAny_bind (wpAny_letGo ?_)
    exact ih h
def joinL (sep : List UInt8) : List (List UInt8) → List UInt8
  | [] => []
  | b :: bs => b ++ bs.flatMap (sep ++ ·)
theorem joined_aux (sep : List UInt8) : ∀ (bs : List (List UInt8)) (out : List UInt8) (i : Nat), 0 < i →
    ((bs.map List.toArray).zipIdx i).foldl (fun out (p, i) => (if i > 0 then out ++ sep.toArray else out) ++ p) out.toArray = (out ++ bs.flatMap (sep ++ ·)).toArray := by
  intro bs
  induction bs with
  | nil => intro out i hi; simp
  | cons b bs ih =>
    intro out i hi
    simp only [List.map_cons, List.zipIdx_cons, List.foldl_cons, List.flatMap_cons]
    rw [if_pos hi]
    have e : out.toArray ++ sep.toArray ++ b.toArray = (out ++ sep ++ b).toArray := by simp
    rw [e, ih _ _ (Nat.succ_pos i)]
    simp
theorem joined_eq (sep : List UInt8) (bs : List (List UInt8)) : Builtin.Bytes.joined sep.toArray (bs.map List.toArray) = (joinL sep bs).toArray := by
  unfold Builtin.Bytes.joined
  cases bs with
  | nil => rfl
  | cons b bs =>
    simp only [List.map_cons, List.zipIdx_cons, List.foldl_cons]
    have e : (if (0:Nat) > 0 then (#[] : Array UInt8) ++ sep.toArray else #[]) ++ b.toArray = b.toArray := by simp
    rw [e, joined_aux sep bs b 1 Nat.one_pos]
    rfl
theorem Octs.get {vs bs} (h : Octs vs bs) (i : Nat) (hi : i < vs.length) : ∃ t, vs[i]? = some (.bytes (bs.getD i []).toArray t) := by
  induction h generalizing i with
  | nil => exact absurd hi (by simp)
  | cons b t h ih =>
    cases i with
    | zero => exact ⟨t, rfl⟩
    | succ i =>
      obtain ⟨t', e⟩ := ih i (by simpa using hi)
      exact ⟨t', by simpa using e⟩
theorem sizes_sum (bs : List (List UInt8)) (c : Nat) : ∀ k, (∀ b ∈ bs, b.length ≤ c) → (bs.map List.toArray).foldl (· + ·.size) k ≤ k + c * bs.length := by
  induction bs with
  | nil => intro k _; simp
  | cons b bs ih =>
    intro k h
    simp only [List.map_cons, List.foldl_cons, List.length_cons]
    have h1 := ih (k + b.length) (fun x hx => h x (List.mem_cons_of_mem _ hx))
    have h2 := h b List.mem_cons_self
    simp only [List.size_toArray]
    rw [Nat.mul_succ]
    omega
theorem forIn_upto {β : Type} {n : Nat} {f : Nat → β → Sem (ForInStep β)} (I : Nat → β → Shared → Prop) {Q : β → Shared → Prop}
    (turn : ∀ i b s, i < n → I i b s → wpAny (model prog w) A (f i b) (fun r s' => match r with | .yield b' => I (i + 1) b' s' | .done b' => Q b' s') E s)
    (fin : ∀ b s, I n b s → Q b s) (b : β) (h : I 0 b s) : wpAny (model prog w) A (forIn [:n] b f) Q E s := by
  rw [Std.Legacy.Range.forIn_eq_forIn_range']
  refine wpAny_forIn_list f (fun l b s => ∃ i, i ≤ n ∧ l = List.range' i (n - i) ∧ I i b s) Q ?_ ?_ _ b ⟨0, Nat.zero_le _, by simp [Std.Legacy.Range.size], h⟩
  · rintro x rest b s ⟨i, hi, e, hI⟩
    have hlt : i < n := by
      rcases Nat.lt_or_ge i n with h | h
      · exact h
      · rw [Nat.sub_eq_zero_of_le h] at e
        exact absurd e (by simp)
    obtain ⟨m, hm⟩ : ∃ m, n - i = m + 1 := ⟨n - i - 1, by omega⟩
    rw [hm, List.range'_succ] at e
    injection e with e1 e2
    subst e1
    refine wpAny_mono (turn x b s hlt hI) (fun r s' hr => ?_) fun _ _ h => h
    cases r with
    | done b' => exact hr
    | yield b' => exact ⟨x + 1, hlt, by rw [e2]; congr 1; omega, hr⟩
  · rintro b s ⟨i, hi, e, hI⟩
    have : i = n := by
      rcases Nat.lt_or_ge i n with h | h
      · obtain ⟨m, hm⟩ : ∃ m, n - i = m + 1 := ⟨n - i - 1, by omega⟩
        rw [hm, List.range'_succ] at e
        exact absurd e (by simp)
      · omega
    exact fin b s (this ▸ hI)
theorem noHeap_taken (vs : List Value) (bs : List (List UInt8)) (h : Octs vs bs) (i : Nat) : ((vs.take i).map fun v => ((v, none) : Value × Option Value)).any (fun x => x.1.onHeap) = false := by
  induction h generalizing i with
  | nil => simp
  | cons b t h ih =>
    cases i with
    | zero => rfl
    | succ i =>
      simp only [List.take_succ_cons, List.map_cons, List.any_cons]
      rw [ih i]
      rfl
theorem joinL_len (sep : List UInt8) (bs : List (List UInt8)) (c : Nat) (h : ∀ b ∈ bs, b.length ≤ c) : (joinL sep bs).length ≤ (c + sep.length) * bs.length := by
  have aux : ∀ bs : List (List UInt8), (∀ b ∈ bs, b.length ≤ c) → (bs.flatMap (sep ++ ·)).length ≤ (c + sep.length) * bs.length := by
    intro bs
    induction bs with
    | nil => intro _; simp
    | cons b bs ih =>
      intro h
      have h1 := ih fun x hx => h x (List.mem_cons_of_mem _ hx)
      have h2 := h b List.mem_cons_self
      simp only [List.flatMap_cons, List.length_append, List.length_cons]
      rw [Nat.mul_succ]
      omega
  cases bs with
  | nil => simp [joinL]
  | cons b bs =>
    have h1 := aux bs fun x hx => h x (List.mem_cons_of_mem _ hx)
    have h2 := h b List.mem_cons_self
    simp only [joinL, List.length_append, List.length_cons]
    rw [Nat.mul_succ]
    omega
theorem tree_bj {sep : List UInt8} {t : Tok} {l : Addr} {vs : List Value} {bs : List (List UInt8)} {k : Nat} {P : PySem.Fin → Shared → Prop} (hl : s.heap.get? l = some (listOf vs.toArray k)) (ho : Octs vs bs) (hn : vs.length ≤ 1000) (hs : sep.length ≤ 4) (hc : ∀ b ∈ bs, b.length ≤ 4000)
    (h : ∀ t' tk, P (.done (.ret (.bytes (joinL sep bs).toArray t'))) { s with toks := tk }) :
    wpAny (model prog w) A (Builtin.«bytes.join» ⟨[.bytes sep.toArray t, .ref l], []⟩) P E s := by
  have hT : s.TypeIs (.ref l) "list" := ⟨_, hl, rfl⟩
  unfold Builtin.«bytes.join» Builtin.Bytes.joinM
  refine wpAny_bind ?_
  show wpAny _ _ (pure _ >>= _) _ _ _
  refine wpAny_bind (wpAny_pure ?_)
  show wpAny _ _ (pure _) _ _ _
  refine wpAny_pure ?_
  show wpAny _ _ (Builtin.Bytes.joinItems _ >>= _) _ _ _
  refine wpAny_bind ?_
  unfold Builtin.Bytes.joinItems
  refine wpAny_bind (wpAny_typeOf hT ?_)
  show wpAny _ _ (pure _) _ _ _
  refine wpAny_pure ?_
  refine wpAny_bind (wpAny_seqItems hl rfl ?_)
  show wpAny _ _ (if (Builtin.Bytes.Kind.bytes == Builtin.Bytes.Kind.bytes) = true then _ else _) _ _ _
  rw [if_pos (by decide)]
  have hlen := ho.length
  have ho0 := ho
  obtain ⟨VS, hV⟩ : ∃ v, v = vs := ⟨_, rfl⟩
  obtain ⟨BS, hB⟩ : ∃ v, v = bs := ⟨_, rfl⟩
  rcases ho with _ | ⟨b, t1, _ | ⟨b2, t2, ho2⟩⟩
  case cons.nil =>
    show wpAny _ _ (typeOf _ >>= fun _ => _) _ _ _
    refine wpAny_bind (wpAny_typeOf (typeIs_bytes s _ _) ?_)
    refine wpAny_ite ?_
    rw [if_pos (by rfl)]
    refine wpAny_bind (wpAny_rule ?_)
    refine wpAny_pure ?_
    have := h t1 s.toks
    simp only [joinL, List.flatMap_nil, List.append_nil] at this
    exact this
  case nil =>
    show wpAny _ _ (forIn _ _ _ >>= fun _ => _) _ _ _
    refine wpAny_bind (forIn_upto (fun i (r : Array (Array UInt8) × List (Value × Option Value)) s' => s' = s ∧ r = (#[], [])) (fun i _ _ hi => absurd hi (Nat.not_lt_zero _)) ?_ _ ⟨rfl, rfl⟩)
    rintro _ _ ⟨rfl, rfl⟩
    show wpAny _ _ (Builtin.Bytes.payload _ >>= fun _ => _) _ _ _
    refine wpAny_bind (wpAny_pure ?_)
    dsimp only
    rw [if_neg (by rw [KBy.tooLong_not (by simp)]; exact Bool.false_ne_true)]
    refine wpAny_bind (wpAny_mkBytes ?_ (by simp [Builtin.Bytes.joined]))
    refine wpAny_bind (wpAny_holding (wpAny_point ?_))
    refine wpAny_bind (letGo_bytes _ [] ?_)
    exact wpAny_pure (h _ _)
  case cons.cons =>
    show wpAny _ _ (forIn (m := Sem) (ρ := Std.Legacy.Range) (α := Nat) _ ((#[], []) : Array (Array UInt8) × List (Value × Option Value)) _ >>= fun _ => _) _ _ _
    rw [← hV, ← hB] at ho0
    rw [← hV] at hl hn hlen ⊢
    rw [← hB] at hc h hlen
    refine wpAny_bind (forIn_upto (fun i (r : Array (Array UInt8) × List (Value × Option Value)) s' => s' = s ∧ r = (((BS.take i).map List.toArray).toArray, (VS.take i).map fun v => (v, none))) ?_ ?_ _ ⟨rfl, by simp⟩)
    · rintro i _ _ hi ⟨rfl, rfl⟩
      dsimp only
      refine wpAny_bind (wpAny_seqItems hl rfl ?_)
      dsimp only
      rw [if_neg (by rw [noHeap_taken VS BS ho0 i]; decide)]
      have hi' : i < VS.length := by simpa using hi
      obtain ⟨ti, hti⟩ := ho0.get i hi'
      have hx : VS.toArray.getD i .none = .bytes (BS.getD i []).toArray ti := by
        rw [Array.getD_eq_getD_getElem?]
        simp only [List.getElem?_toArray, hti]
        rfl
      rw [hx]
      refine wpAny_bind (wpAny_holding ?_)
      rw [take_bytes]
      refine wpAny_pure ?_
      dsimp only
      refine wpAny_bind (wpAny_seqItems hl rfl ?_)
      dsimp only
      rw [if_neg (by simp)]
      refine wpAny_pure ⟨rfl, ?_⟩
      have e1 : VS.take (i + 1) = VS.take i ++ [.bytes (BS.getD i []).toArray ti] := by
        rw [List.take_add_one, hti]
        rfl
      have hb : i < BS.length := by omega
      have e2 : BS.take (i + 1) = BS.take i ++ [BS.getD i []] := by
        rw [List.take_add_one, List.getElem?_eq_getElem hb]
        simp [List.getD_eq_getElem?_getD, List.getElem?_eq_getElem hb]
      rw [e1, e2]
      simp
    · rintro _ _ ⟨rfl, rfl⟩
      show wpAny _ _ (Builtin.Bytes.payload _ >>= fun _ => _) _ _ _
      refine wpAny_bind (wpAny_pure ?_)
      dsimp only
      have e1 : BS.take VS.toArray.size = BS := List.take_of_length_le (by simp; omega)
      have e2 : VS.take VS.toArray.size = VS := List.take_of_length_le (by simp)
      rw [e1, e2]
      have hsum : ((BS.map List.toArray).toArray).foldl (fun x1 x2 => x1 + x2.size) (sep.toArray.size * ((BS.map List.toArray).toArray.size - 1)) ≤ 16777216 := by
        rw [List.foldl_toArray]
        refine Nat.le_trans (sizes_sum BS 4000 _ hc) ?_
        simp only [List.size_toArray, List.length_map]
        have h3 : sep.length * (BS.length - 1) ≤ 4 * 1000 := Nat.mul_le_mul hs (by omega)
        omega
      rw [if_neg (by rw [KBy.tooLong_not hsum]; exact Bool.false_ne_true)]
      refine wpAny_bind (wpAny_mkBytes ?_ ?_)
      · refine wpAny_bind (wpAny_holding (wpAny_point ?_))
        refine wpAny_bind (letGo_bytes _ VS ?_)
        rw [joined_eq]
        exact wpAny_pure (h _ _)
      · rw [joined_eq, sizeLine_eq]
        have hj := joinL_len sep BS 4000 hc
        have h3 : (4000 + sep.length) * BS.length ≤ 4004 * 1000 := Nat.mul_le_mul (by omega) (by omega)
        simp only [List.size_toArray]
        omega
theorem join_any {sep : List UInt8} {t : Tok} {l : Addr} {vs : List Value} {bs : List (List UInt8)} {k : Nat} {Q : Value → Shared → Prop} (hl : s.heap.get? l = some (listOf vs.toArray k)) (ho : Octs vs bs) (hn : vs.length ≤ 1000) (hs : sep.length ≤ 4) (hc : ∀ b ∈ bs, b.length ≤ 4000)
    (h : ∀ t' tk, Q (.bytes (joinL sep bs).toArray t') { s with toks := tk }) : wpAny (model prog w) A (call (.builtin "bytes.join") [.bytes sep.toArray t, .ref l]) Q E s :=
  wpAny_call_entry slot_bj (typeIs_bytes _ _ _) entry_bj (tree_bj hl ho hn hs hc fun t' tk => ⟨_, rfl, h t' tk⟩) (args_bj _ _)
theorem item_octs {value slice : PySem.Expr} {l : Addr} {vs : List Value} {bs : List (List UInt8)} {k : Int} {c : Nat} {u : Tok} {Q : Value → Shared → Prop} (hl : s.heap.get? l = some (listOf vs.toArray c)) (ho : Octs vs bs) (h0 : 0 ≤ k) (h1 : k < vs.length) (hz : vs.length ≤ 3000)
    (h : ∀ t, Q (.bytes (bs.getD k.toNat []).toArray t) s) (hs : subscripted slice false (.ref l) (.int k u) = operate [.ref l, .int k u] (getItem (.ref l) (.int k u)) := by with_unfolding_all rfl) :
    wpAny (model prog w) A (subscriptTail value slice (.ref l) (.int k u)) Q E s := by
  have hlt : k.toNat < vs.length := by omega
  obtain ⟨t, e⟩ := ho.get _ hlt
  exact item_litK ⟨_, hl, rfl, c, rfl⟩ h0 (by omega) e (h t) hs
end
end
section
local macro_rules | `(tactic| k_mem) => `(tactic| exact List.Mem.tail _ (List.Mem.tail _ (List.Mem.tail _ (by assumption))))
local macro_rules | `(tactic| k_mem) => `(tactic| exact List.Mem.tail _ (List.Mem.tail _ (by assumption)))
local macro_rules | `(tactic| k_mem) => `(tactic| exact List.Mem.tail _ (by assumption))

local macro_rules | `(tactic| walk_at "exec For Name Name cons nil") => `(tactic| (k_here; (rename Fr _ _ _ _ => lF'); (with_unfolding_all refine' For_invVF lF' ?k1 ?k2 ?_; (case k1 => exact rfl); (case k2 => exact rfl); k_whole)))
local macro_rules | `(tactic| walk_at "call ref") => `(tactic| (k_here; (with_reducible show wpAny _ _ (call (Value.ref 356) _) _ _ _); k_dflt (refine' run_spec ?B ?F ?X ?N ?T ?hk ?ha ?hb ?ha2 ?hb2 ?hd ?hu ?_; (case B => k_asm); (case F => k_asm); (case X => k_asm); (case N => k_asm); (case T => k_asm); (case hk => exact rfl); (case ha => k_asm); (case hb => k_asm); (case ha2 => k_asm); (case hb2 => k_asm); (case hd => omega); (case hu => omega)); intro h1 tk1 F1 N1))
def Stopj (P : Prop) : Prop := P
theorem stopj_intro {P : Prop} (h : Stopj P) : P := h
local macro_rules | `(tactic| walk_at "exec For Name Call cons nil") => `(tactic| (k_here; (rename Fr _ _ _ _ => lF'); (with_unfolding_all refine' For_invVF lF' ?k1 ?k2 ?_; (case k1 => exact rfl); (case k2 => exact rfl); k_whole)))
local macro_rules | `(tactic| walk_at "call builtin:list.append") => `(tactic| k_extra "app")
theorem app_mid {prog : Program} {w : World} {A : Around} {E : Value → Shared → Prop} {s : Shared} {h₀ : Heap} {L : Addr} {m : Str → Option Value} {news : List (Addr × Obj)} {I lf : Addr} {it : Obj} {ws : List Value} {k : Nat} {x : Value} {Q : Value → Shared → Prop} (F : Fr h₀ L s.heap m) (N : News h₀ L s.heap ((I, it) :: (lf, listOf ws.toArray k) :: news)) (h1 : @Ne Nat lf I) (h2 : ∀ q ∈ news, @Ne Nat q.1 lf) (hz : ws.length ≤ 3000)
    (h : ∀ h', Fr h₀ L h' m → News h₀ L h' ((I, it) :: (lf, listOf (ws ++ [x]).toArray (k + 1)) :: news) → Q .none { s with heap := h' }) : wpAny (model prog w) A (call (.builtin "list.append") [.ref lf, x]) Q E s :=
  append_K F N (.tail (Ne.symm h1) (.head h2)) (fun h' F' N' => h h' F' (by rw [List.push_toArray] at N'; exact N')) (by rw [sizeLine_eq, List.size_toArray]; omega)
local macro_rules | `(tactic| walk_at "UnrEnd") => `(tactic| (k_dflt (refine stopj_intro ?_)))
local macro_rules | `(tactic| walk_at "eval Name") => `(tactic| (k_here; k_dflt (refine' ld ?k1 ?k2 ?_; (case k1 => k_asm); (case k2 => assumption); k_whole)))
local macro_rules | `(tactic| walk_at "eval Call") => `(tactic| (k_here; k_dflt (refine Call_ ?_)))
local macro_rules | `(tactic| walk_at "pyIter ref") => `(tactic| (k_here; k_dflt (refine stopj_intro ?_)))
local macro_rules | `(tactic| walk_at "subscriptTail") => `(tactic| k_extra "item")
local macro_rules | `(tactic| walk_at "call builtin:len") => `(tactic| k_extra "len")
local macro_rules | `(tactic| walk_at "call builtin:bytes.join") => `(tactic| k_extra "join")
local macro_rules | `(tactic| walk_at "getMethod bytes") => `(tactic| (k_here; k_dflt (refine method_bj ?_)))
def glue : List UInt8 → List (List UInt8) → List (List UInt8)
  | _, [] => []
  | p, b :: bs => (if rtB p b then [[32]] else []) ++ b :: glue b bs
def joinOut : Bool → List (List UInt8) → List UInt8
  | false, bs => joinL [32] bs
  | true, [] => []
  | true, b :: bs => (b :: glue b bs).flatten
theorem joinL_nil (bs : List (List UInt8)) : joinL [] bs = bs.flatten := by
  cases bs with
  | nil => rfl
  | cons b bs => simp [joinL, List.flatMap_def]
theorem getD_of {bs : List (List UInt8)} {i : Nat} {b : List UInt8} (h : bs[i]? = some b) : bs.getD i [] = b := by rw [List.getD_eq_getElem?_getD, h]; rfl
theorem glue_step {bs ds R : List (List UInt8)} {i : Nat} {b1 c1 : List UInt8} (hb : bs[i]? = some b1) (hc : bs[i + 1]? = some c1) (hE : ds ++ glue (bs.getD i []) (bs.drop (i + 1)) = R) :
    (ds ++ (if rtB b1 c1 then [[32]] else []) ++ [c1]) ++ glue (bs.getD (i + 1) []) (bs.drop (i + 1 + 1)) = R := by
  rw [← hE, getD_of hb, getD_of hc, drop_get hc]
  simp [glue]
theorem glue_yes {bs ds R : List (List UInt8)} {i : Nat} {b1 c1 c2 : List UInt8} (hr : rtB b1 c2 = true) (hb : bs[i]? = some b1) (h2 : bs[i + 1]? = some c2) (hc : bs[i + 1]? = some c1) (hE : ds ++ glue (bs.getD i []) (bs.drop (i + 1)) = R) :
    (ds ++ [[32]] ++ [c1]) ++ glue (bs.getD (i + 1) []) (bs.drop (i + 1 + 1)) = R := by
  obtain rfl := Option.some.inj (h2.symm.trans hc)
  have := glue_step hb hc hE
  rwa [if_pos hr] at this
theorem glue_no {bs ds R : List (List UInt8)} {i : Nat} {b1 c1 c2 : List UInt8} (hr : rtB b1 c2 = false) (hb : bs[i]? = some b1) (h2 : bs[i + 1]? = some c2) (hc : bs[i + 1]? = some c1) (hE : ds ++ glue (bs.getD i []) (bs.drop (i + 1)) = R) :
    (ds ++ [c1]) ++ glue (bs.getD (i + 1) []) (bs.drop (i + 1 + 1)) = R := by
  obtain rfl := Option.some.inj (h2.symm.trans hc)
  have := glue_step hb hc hE
  rw [if_neg (by rw [hr]; decide), List.append_nil] at this
  exact this
theorem item_octs2 {prog : Program} {w : World} {A : Around} {E : Value → Shared → Prop} {s : Shared} {value slice : PySem.Expr} {l : Addr} {vs : List Value} {bs : List (List UInt8)} {k : Int} {c : Nat} {u : Tok} {Q : Value → Shared → Prop} (i : Nat) (hl : s.heap.get? l = some (listOf vs.toArray c)) (ho : Octs vs bs) (hk : k = (i : Int)) (h1 : i < bs.length) (hz : bs.length ≤ 3000) (hg : ∀ b ∈ bs, 0 < b.length ∧ b.length ≤ 100)
    (h : ∀ b t, bs[i]? = some b → 0 < b.length → b.length ≤ 100 → Q (.bytes b.toArray t) s) (hs : subscripted slice false (.ref l) (.int k u) = operate [.ref l, .int k u] (getItem (.ref l) (.int k u)) := by with_unfolding_all rfl) :
    wpAny (model prog w) A (subscriptTail value slice (.ref l) (.int k u)) Q E s := by
  have hle := ho.length
  subst hk
  refine item_octs hl ho (by omega) (by omega) (by omega) (fun t => ?_) hs
  have e : bs[i]? = some (bs.getD i []) := by rw [List.getElem?_eq_getElem h1]; simp [List.getD_eq_getElem?_getD, List.getElem?_eq_getElem h1]
  have := hg _ (List.mem_of_getElem? e)
  exact h _ t e this.1 this.2
theorem rngN (n : Nat) (h : 0 < n) (h2 : n ≤ 1000) : Builtin.Range.small 1 (n : Int) 1 = true ∧ Builtin.Range.rangeSize 1 (n : Int) 1 = ((n - 1 : Nat) : Int) := by
  refine ⟨small_one (by omega) (by omega) (by omega) (by omega), ?_⟩
  unfold Builtin.Range.rangeSize
  rw [if_pos (by decide)]
  split
  · rw [Int.ediv_one]; omega
  · omega

section
variable {w : World} {dp un : Nat} {gd : Option (List Code)} {cn : Str} {cs : Scope} {a : Addr} {ccd : Value} {cl : List (Str × Addr)} {outer : List Env} {A₀ : Around} {base h₀ : Heap} {L : Addr} {m : Str → Option Value} {news : List (Addr × Obj)} {s : Shared}
  {Q E : Value → Shared → Prop} {qq : Program} {loose : List Str} {mean : ExcName → Option Value} {mg mb : Str → Option Value}

theorem joinp_spec {p : Addr} {vs : List Value} {kp : Nat} {bs : List (List UInt8)} {least : Bool} (B : Below A₀ base outer h₀) (F : Fr h₀ L s.heap m) (X : (KF w.params).In h₀) (N : News h₀ L s.heap news) (T : Top qq loose mean mg mb h₀) (hk : cs.kind = .function) (hp : (p, listOf vs.toArray kp) ∈ news) (ho : Octs vs bs) (hl : 0 < bs.length) (hl2 : bs.length ≤ 500) (hg : ∀ b ∈ bs, 0 < b.length ∧ b.length ≤ 100) (hd : dp < 700) (hu : un < 5000)
  (ret : ∀ t h' tk', Fr h₀ L h' m → News h₀ L h' news → Q (.bytes (joinOut least bs).toArray t) { s with heap := h', toks := tk' }) :
  wpAny (model PySem.Challenge.rw_og0174_01.row.prog w) (ktrTop dp un gd cn cs L a ccd cl outer) (call (.ref 363) [.ref p, .bool least]) Q E s := by
  have hle := ho.length
  revert X
  k_fill
  intro X
  k_with "item" => (k_dflt (refine item_octs2 (bs := bs) 0 (News.get (by assumption) (by k_mem)) ho (by rfl) (by omega) (by omega) hg ?_); intro b0 t0 hb0 hb1 hb2)
  k_with "len" => (k_dflt (refine len_any ⟨_, News.get (by assumption) (by k_mem), rfl, _, rfl⟩ (by omega) ?_); intro tl1 tl2; rw [hle])
  k_with "join" => (k_dflt (refine join_any (News.get (by assumption) (by k_mem)) ho (by omega) (by decide) (fun b hb => by have := hg b hb; omega) ?_); intro t1 tk1)
  refine' enter2 (Str.ofString "parts") (Str.ofString "is_least") B F X N T hk ?ho ?hcd (by omega) ?hb ?hl ?e1 ?e2 ?e3 ?e4 ?_
  (case ho => k_is)
  (case hcd => k_is)
  (case hb => exact BindsTo.of_eq rfl)
  (case hl => exact rfl)
  (case e1 => exact rfl)
  (case e2 => exact rfl)
  (case e3 => exact rfl)
  (case e4 => exact rfl)
  intro g' L' h' tk' FG' F' N' B' X' T'
  k_fold
  k_steps
  all_goals (try k_data)
  rotate_left
  · subst least
    exact ret _ _ _ (by assumption) (by assumption)
  unfold Stopj
  rename_i hR _ _ _
  rename (least = true) => hlt
  obtain ⟨r1, r2⟩ := rngN bs.length hl (by omega)
  have hbs : bs = b0 :: bs.drop 1 := by
    cases bs with
    | nil => exact absurd hl (by simp)
    | cons c cs => simp at hb0; simp [hb0]
  refine iter_rangeInv (n := bs.length - 1) (fun i m1 nw => ∃ lf ws ks ds, nw = (lf, listOf ws.toArray ks) :: news ∧ (∀ q ∈ news, @Ne Nat q.1 lf) ∧ Octs ws ds ∧ ds ++ glue (bs.getD i []) (bs.drop (i + 1)) = b0 :: glue b0 (bs.drop 1) ∧ ds.length ≤ 2 * i + 1 ∧ (∀ c ∈ ds, c.length ≤ 100) ∧ i < bs.length ∧ m1 (Str.ofString "parts") = some (.ref p) ∧ m1 (Str.ofString "found") = some (.ref lf)) rfl hR r1 r2 (by assumption) (by assumption) ?a ?b ?c
  case a =>
    refine ⟨_, _, _, [b0], rfl, fun q hq => Nat.ne_of_lt ((by assumption : ∀ p ∈ _, p.1 < _) q hq), .cons _ _ .nil, ?_, by simp, ?_, hl, rfl, rfl⟩
    · have e2 : ∀ bs r : List (List UInt8), bs = b0 :: r → [b0] ++ glue (bs.getD 0 []) (bs.drop (0 + 1)) = b0 :: glue b0 (bs.drop 1) := by rintro _ r rfl; rfl
      exact e2 _ _ hbs
    · intro c hc
      rw [List.mem_singleton.mp hc]
      exact hb2
  case b =>
    rintro i m1 nw I it u h1 tk1 hin ⟨lf, ws, ks, ds, rfl, hlf, hO, hE, hD, hC, hI, hm1, hm2⟩ off F1 N1
    have hofI := off _ (.head _)
    have hOl := hO.length
    have hws : ws.length ≤ 1500 := by omega
    dsimp only [envOf] at F1 N1 hofI
    dsimp only
    k_with "item" => (k_dflt (first
      | (refine item_octs2 (bs := bs) i (News.get (by assumption) (by k_mem)) ho (by omega) (by omega) (by omega) hg ?_; intro b1 t1 hb1 hb2 hb3)
      | (refine item_octs2 (bs := bs) (i + 1) (News.get (by assumption) (by k_mem)) ho (by push_cast; omega) (by omega) (by omega) hg ?_; intro c1 t1 hc1 hc2 hc3)))
    k_with "app" => (k_dflt (refine app_mid (by assumption) (by assumption) hofI hlf (by (try simp only [List.length_append, List.length_cons, List.length_nil]); omega) ?_); intro h6 F6 N6)
    k_steps
    all_goals (try k_data)
    all_goals unfold Stopj
    · refine unr_end F6 N6 (List.forall_mem_cons.mpr ⟨hofI, fun q hq => off q (.tail _ hq)⟩) ⟨lf, _, _, ds ++ [[32]] ++ [c1], rfl, hlf, (hO.snoc [32] _).snoc _ _, glue_yes (by assumption) hb1 (by assumption) hc1 hE, (by (simp only [List.length_append, List.length_cons, List.length_nil]); omega), ?_, by omega, hm1, hm2⟩
      intro c hc
      rcases List.mem_append.mp hc with hc | hc
      · rcases List.mem_append.mp hc with hc | hc
        · exact hC c hc
        · rw [List.mem_singleton.mp hc]; decide
      · rw [List.mem_singleton.mp hc]; exact hc3
    · refine unr_end F6 N6 (List.forall_mem_cons.mpr ⟨hofI, fun q hq => off q (.tail _ hq)⟩) ⟨lf, _, _, ds ++ [c1], rfl, hlf, hO.snoc _ _, glue_no (by assumption) hb1 (by assumption) hc1 hE, (by (simp only [List.length_append, List.length_cons, List.length_nil]); omega), ?_, by omega, hm1, hm2⟩
      intro c hc
      rcases List.mem_append.mp hc with hc | hc
      · exact hC c hc
      · rw [List.mem_singleton.mp hc]; exact hc3
  case c =>
    rintro m1 nw h1 tk1 ⟨lf, ws, ks, ds, rfl, hlf, hO, hE, hD, hC, hI, hm1, hm2⟩ F1 N1
    have hOl := hO.length
    dsimp only [envOf] at F1 N1
    dsimp only
    k_with "join" => (k_dflt (refine join_any (sep := []) (News.get (by assumption) (.head _)) hO (by omega) (by decide) (fun b hb => by have := hC b hb; omega) ?_); intro t1 tk1)
    k_steps
    all_goals (try k_data)
    have hfin : joinL [] ds = joinOut least bs := by
      have e1 : bs.drop (bs.length - 1 + 1) = [] := List.drop_of_length_le (by omega)
      rw [e1] at hE
      simp only [glue, List.append_nil] at hE
      have e2 : ∀ bs r : List (List UInt8), bs = b0 :: r → (b0 :: glue b0 r).flatten = joinOut true bs := by rintro _ r rfl; rfl
      rw [joinL_nil, hE, hlt]
      exact e2 _ _ hbs
    rw [hfin]
    exact ret _ _ _ (by assumption) (news_tail (by assumption))

end
end
section
local macro_rules | `(tactic| walk_at "subscriptTail") => `(tactic| (k_here; (with_reducible show wpAny _ _ (subscriptTail _ (Expr.UnaryOp _ _ _) (Value.bytes _ _) (Value.int _ _)) _ _ _); k_dflt (refine bytes_last (by assumption) (by assumption) ?_); intro tl1 tl2))
def Stopi (P : Prop) : Prop := P
theorem stopi_intro {P : Prop} (h : Stopi P) : P := h
local macro_rules | `(tactic| walk_at "CompSrcT") => `(tactic| (k_here; k_dflt (refine stopi_intro ?_)))
local macro_rules | `(tactic| walk_at "CompEnd") => `(tactic| (k_dflt (refine stopi_intro ?_)))
def keepC (k : Int) : Bool := (Builtin.Str.occurrences (Str.ofString "()<>[]{}/%") ⟨#[k.toNat]⟩ 0 (Str.ofString "()<>[]{}/%").length 1).isEmpty
def regG (l : List Int) (k : Int) : List Int := if keepC k = true then l ++ [k] else l
def regL : List Int := (rangeKs 33 94).foldl regG []
def regB (c : Int) : Bool := regL.any (· == c)
def oneB (a b : List UInt8) : Bool := regB (fstC b) && (regB (lastC a) || a == [47])
theorem regG_yes {l : List Int} {k : Int} (h : keepC k = true) : regG l k = l ++ [k] := if_pos h
theorem regG_no {l : List Int} {k : Int} (h : keepC k = false) : regG l k = l := if_neg (by rw [h]; decide)
theorem one_1 {a b : List UInt8} (h : (regL.any fun x => x == ((b.getD 0 0).toNat : Int)) = true) (uh2 : (regL.any fun x => x == lastC a) = true) : (regL.any fun x => x == lastC a) = oneB a b := by
  show regB (lastC a) = _
  unfold oneB
  rw [show regB (fstC b) = true from h, show regB (lastC a) = true from uh2]; rfl
theorem one_2 {a b : List UInt8} (h : (regL.any fun x => x == ((b.getD 0 0).toNat : Int)) = true) (h2 : (regL.any fun x => x == lastC a) = false) : (a == [47]) = oneB a b := by
  unfold oneB
  rw [show regB (fstC b) = true from h, show regB (lastC a) = false from h2]; rfl
theorem one_3 {a b : List UInt8} (h : (regL.any fun x => x == ((b.getD 0 0).toNat : Int)) = false) : (regL.any fun x => x == ((b.getD 0 0).toNat : Int)) = oneB a b := by
  show regB (fstC b) = _
  unfold oneB
  rw [show regB (fstC b) = false from h]; rfl
theorem reg_same : ∀ n : Nat, n < 127 → 33 ≤ n → regB (n : Int) = regI (n : Int) := by decide +kernel

section
variable {w : World} {dp un : Nat} {gd : Option (List Code)} {cn : Str} {cs : Scope} {a : Addr} {ccd : Value} {cl : List (Str × Addr)} {outer : List Env} {A₀ : Around} {base h₀ : Heap} {L : Addr} {m : Str → Option Value} {news : List (Addr × Obj)} {s : Shared}
  {Q E : Value → Shared → Prop} {qq : Program} {loose : List Str} {mean : ExcName → Option Value} {mg mb : Str → Option Value}

theorem isone_spec {a0 b0 : List UInt8} {ta tb : Tok} (B : Below A₀ base outer h₀) (F : Fr h₀ L s.heap m) (X : (KF w.params).In h₀) (N : News h₀ L s.heap news) (T : Top qq loose mean mg mb h₀) (hk : cs.kind = .function) (ha : 0 < a0.length) (hb : 0 < b0.length) (ha2 : a0.length ≤ 100) (hb2 : b0.length ≤ 100) (hd : dp < 750) (hu : un < 6000)
  (ret : ∀ h' tk', Fr h₀ L h' m → News h₀ L h' news → Q (.bool (oneB a0 b0)) { s with heap := h', toks := tk' }) :
  wpAny (model PySem.Challenge.rw_og0174_01.row.prog w) (ktrTop dp un gd cn cs L a ccd cl outer) (call (.ref 397) [.bytes a0.toArray ta, .bytes b0.toArray tb]) Q E s := by
  revert X
  k_fill
  intro X
  refine' enter2 (Str.ofString "one") (Str.ofString "other") B F X N T hk ?ho ?hcd (by omega) ?hb ?hl ?e1 ?e2 ?e3 ?e4 ?_
  (case ho => k_is)
  (case hcd => k_is)
  (case hb => exact BindsTo.of_eq rfl)
  (case hl => exact rfl)
  (case e1 => exact rfl)
  (case e2 => exact rfl)
  (case e3 => exact rfl)
  (case e4 => exact rfl)
  intro g' L' h' tk' FG' F' N' B' X' T'
  k_fold
  k_steps
  unfold Stopi
  rename_i hR _ _ _
  refine LCt.CompSrcT.range (n := 94) (news := news) rfl (by assumption) (by assumption) hR (by decide) (by rfl) (by rw [sizeLine_eq]; omega) fun gg => ?_
  refine kci_range regG (fun k' t' I oI C oC D m₂ ys l h5 tk5 E' hlo hhi hI hC hx F5 N5 off ne => ?_) ?_ ?_
  · intro mk
    k_steps
    all_goals unfold Stopi
    · rename (List.isEmpty _ = true) => hh
      exact comp_end F5 N5 off.mem trivial (kci_el (regG_yes hh) rfl rfl)
    · rename (List.isEmpty _ = false) => hh
      exact comp_end F5 N5 off.mem trivial (kci_no (regG_no hh) rfl)
  · intro ys hys hln
    replace hys : IntsAre ys regL := hys
    k_steps
    all_goals (try k_data)
    all_goals (refine qbool (ret _ _ (by assumption) (news_tail (by assumption))) ?_; first | exact one_1 (by assumption) (by assumption) | exact one_2 (by assumption) (by assumption) | exact one_3 (by assumption))
  · intro l k
    unfold regG
    split
    · simp
    · omega

end
end
section
section
variable {prog : Program} {w : World} {A : Around} {E : Value → Shared → Prop} {s : Shared} {env : Env} {h₀ : Heap} {L : Addr} {m : Str → Option Value} {x : Str} {body : List Stmt} {Q : Flow → Shared → Prop} {m₀ : Str → Option Value} {news : Led}
theorem iter_dictInv {ax : Addr} {o : Obj} {kvs : List (Str × Value)} (P : List Str → (Str → Option Value) → Led → Prop) (hh : A.handled = none) (ho : o.IsDictOf (strKind prog w) kvs) (lo : (ax == sysModules) = false)
  (F : Fr h₀ env.locals s.heap m₀) (N : News h₀ env.locals s.heap news) (hP : P (kvs.map (·.1)) m₀ news) (hkeep : ∀ l m nw, P l m nw → (ax, o) ∈ nw)
  (turn : ∀ k r m nw I it u h tk, P (k :: r) m nw → (∀ p ∈ nw, @Ne Nat p.1 I) → Fr h₀ env.locals h (fun y => if y = x then some (.str k u) else m y) → News h₀ env.locals h ((I, it) :: nw) →
    wpAny (model prog w) A (execs body env) (UnrPost h₀ env.locals { s with heap := h, toks := tk } I it (P r) Q) E { s with heap := h, toks := tk })
  (done : ∀ m nw h tk, P [] m nw → Fr h₀ env.locals h m → News h₀ env.locals h nw → Q .next { s with heap := h, toks := tk }) :
  wpAny (model prog w) A (pyIter (.ref ax)) (fun it s₂ => LoopAtV prog w A h₀ env x body Q E it s₂) E s := by
  have hmem := hkeep _ _ _ hP
  have hg := (N _ hmem).1
  have hlt : ax < s.heap.objs.size := Heap.lt_size hg
  have hne : ax ≠ s.heap.objs.size := Nat.ne_of_lt hlt
  have haxL : ax ≠ env.locals := (N _ hmem).2.1
  have hnew := next_is_new F
  obtain ⟨ep, hat⟩ := (Heap.dictOf_iff.mpr ⟨o, hg, ho⟩ : s.heap.DictOf (strKind prog w) ax kvs).dictAt
  refine wpAny_pyIter_dict lo hat ?_
  have W := Walks.dictKeys (knd := strKind prog w) hh s.heap.objs.size ax hne kvs ep
  let J : Nat → (Str → Option Value) → Led → Prop := fun i m nw => P ((kvs.map (·.1)).drop i) m nw
  have hJ0 : J 0 m₀ news := by show P ((kvs.map (·.1)).drop 0) m₀ news; rw [List.drop_zero]; exact hP
  refine ⟨_, _, _, kvs.length, _, _, m₀, news, J, rfl, W, ?_, ?_, ?_, ⟨⟨_, Heap.get?_push_size _ rfl, rfl, rfl⟩, hat.push _⟩, F.push _, (fun p hp => ⟨Heap.get?_push_of_some _ (N p hp).1, (N p hp).2⟩), hJ0, ?_, ?_⟩
  · intro hm
    rcases List.mem_cons.mp hm with e | hm
    · exact absurd F.ns.lt (e ▸ Nat.lt_irrefl _)
    · exact haxL (List.mem_singleton.mp hm).symm
  · intro b hb
    rw [List.mem_singleton.mp hb]
    exact hnew
  · intro p hp hI
    exact absurd (Heap.lt_size (N p hp).1) ((List.mem_singleton.mp hI) ▸ Nat.lt_irrefl _)
  · rintro i v m₁ news₁ s₁ own ⟨hh', tk', rfl⟩ hin hPv hJ hoff hown hget hall hst F₁ N₁
    obtain ⟨⟨oi, hoi, _⟩, _⟩ := hst
    have hI : (s.heap.objs.size, oi) ∈ own := hall _ (.head _) hnew oi hoi
    obtain ⟨k, u, hk, hv⟩ := hPv
    obtain ⟨t, rfl⟩ := Value.isStrOf_shape hv
    have hdrop : (kvs.map (·.1)).drop i = k :: (kvs.map (·.1)).drop (i + 1) := by
      have hlen : i < (kvs.map (·.1)).length := by simpa using hin
      rw [List.drop_eq_getElem_cons hlen]
      congr 1
      have h2 := List.getElem?_eq_getElem hlen
      rw [List.getElem?_map, hk] at h2
      exact (Option.some.inj h2).symm
    have hJ' : P ((kvs.map (·.1)).drop i) m₁ news₁ := hJ
    rw [hdrop] at hJ'
    have N₂ : News h₀ env.locals hh' ((s.heap.objs.size, oi) :: news₁) := fun p hp => by
      rcases List.mem_cons.mp hp with rfl | hp
      · exact N₁ _ (List.mem_append_left _ hI)
      · exact N₁ _ (List.mem_append_right _ hp)
    refine wpAny_mono (turn k _ m₁ news₁ _ oi t hh' tk' hJ' (fun p hp e => hoff p hp (by rw [show p.1 = s.heap.objs.size from e]; exact .head _)) F₁ N₂) (fun f s₂ p => ?_) fun _ _ e => e
    have fin : UnrEnd h₀ env.locals { s with heap := hh', toks := tk' } s.heap.objs.size oi (P ((kvs.map (·.1)).drop (i + 1))) s₂ →
        LoopStepU h₀ env.locals [s.heap.objs.size] own (J (i + 1)) { s with heap := hh', toks := tk' } .next s₂ := by
      rintro ⟨h', tk, m', news', e, F', N', ho', r⟩
      refine ⟨rfl, h', tk, m', news', e, F', fun p hp => ?_, fun p hp hI => ho' p hp (List.mem_singleton.mp hI), r⟩
      rcases List.mem_append.mp hp with hp | hp
      · have h2 : hh'.get? p.1 = some p.2 := hget p hp
        rcases List.mem_cons.mp (hown p hp) with e1 | e1
        · rw [e1, hoi] at h2
          have h3 : p = (s.heap.objs.size, oi) := Prod.ext e1 (Option.some.inj h2).symm
          rw [h3]; exact N' _ (List.mem_cons_self ..)
        · have e1 := List.mem_singleton.mp e1
          have h4 := (N₁ _ (List.mem_append_right _ (hkeep _ _ _ hJ'))).1
          rw [e1] at h2
          rw [show hh'.get? ax = some o from h4] at h2
          have h3 : p = (ax, o) := Prod.ext e1 (Option.some.inj h2).symm
          rw [h3]; exact N' _ (List.mem_cons_of_mem _ (hkeep _ _ _ r))
      · exact N' _ (List.mem_cons_of_mem _ hp)
    cases f with
    | ret v => exact .ret p
    | brk => exact .brk p
    | next => exact .next (fin p)
    | cont => exact .cont (fin p)
  · rintro h' tk m' news' F' N' _ hJ
    have q : P ((kvs.map (·.1)).drop kvs.length) m' news' := hJ
    have z : (kvs.map (·.1)).drop kvs.length = [] := List.drop_of_length_le (by simp)
    rw [z] at q
    exact done m' news' h' tk q F' N'

theorem sort_texts {D : Addr} {vs : List Value} {ss : List Str} {n : Nat} {Q : Value → Shared → Prop} (F : Fr h₀ L s.heap m) (N : News h₀ L s.heap ((D, listOf vs.toArray n) :: news)) (off : ∀ q ∈ news, @Ne Nat q.1 D)
    (hS : StrsAre vs ss) (h64 : vs.length < 64)
    (h : ∀ vs' ss' n' h', StrsAre vs' ss' → ss'.Perm ss → sortedS ss' = true → Fr h₀ L h' m → News h₀ L h' ((D, listOf vs'.toArray n') :: news) → Q .none { s with heap := h' }) :
    wpAny (model prog w) A (call (.builtin "list.sort") [.ref D]) Q E s := by
  have z := N _ (.head _)
  have ho : s.heap.get? D = some (seqObj "list" vs.toArray n) := z.1
  refine wpAny_call_entry PyProof.Rows.slot_list_sort ⟨_, z.1, rfl⟩ PyProof.Rows.entry_list_sort (list_sort_treeK strKind_oneLt ho hS.keysOf (fun v₁ v₂ rest e => keyKind_strs (by rw [← e]; exact hS)) h64 fun st' hp hs => ⟨.none, rfl, ?_⟩) (PyProof.Rows.args_list_sort _)
  obtain ⟨ss', h1, h2, h3⟩ := sorted_out_str hS hp hs
  obtain ⟨e, he⟩ := sortedHeap_at (h := s.heap) (a := D) (vs := vs) (out := (arrOf st').map (·.2)) ho
  have hkp : ∀ b o, b ∉ [D] → s.heap.get? b = some o → (sortedHeap s.heap D vs ((arrOf st').map (·.2))).get? b = some o := fun b o hb e => by
    rw [sortedHeap_old (fun h => hb (List.mem_singleton.mpr h)) (Heap.lt_size e)]; exact e
  refine h ((arrOf st').map (·.2)).toList ss' e _ h1 h2 h3 (LCg.fr_but F hkp (Ne.symm z.2.1) z.2.2) (fun p hp => ?_)
  rcases List.mem_cons.mp hp with rfl | hp
  · exact ⟨he, z.2⟩
  · exact ⟨hkp _ _ (fun h => off p hp (List.mem_singleton.mp h)) (N p (.tail _ hp)).1, (N p (.tail _ hp)).2⟩

theorem sort4 : ∀ n, n ≤ 4 → ∀ l : List Str, l.Perm (dkeys.take n) → sortedS l = true → l = skeys n := by
  have h0 : ∀ a ∈ dkeys, ∀ b ∈ dkeys, ∀ c ∈ dkeys, ∀ d ∈ dkeys, [a, b, c, d].isPerm (dkeys.take 4) = true → sortedS [a, b, c, d] = true → [a, b, c, d] = skeys 4 := by decide +kernel
  have h1 : ∀ a ∈ dkeys, ∀ b ∈ dkeys, ∀ c ∈ dkeys, [a, b, c].isPerm (dkeys.take 3) = true → sortedS [a, b, c] = true → [a, b, c] = skeys 3 := by decide +kernel
  have h2 : ∀ a ∈ dkeys, ∀ b ∈ dkeys, [a, b].isPerm (dkeys.take 2) = true → sortedS [a, b] = true → [a, b] = skeys 2 := by decide +kernel
  have h3 : ∀ a ∈ dkeys, [a].isPerm (dkeys.take 1) = true → [a] = skeys 1 := by decide +kernel
  intro n hn l hp hs
  have hm : ∀ x ∈ l, x ∈ dkeys := fun x hx => List.mem_of_mem_take (hp.mem_iff.mp hx)
  have hl := hp.length_eq
  have hpp := List.isPerm_iff.mpr hp
  have hd : dkeys.length = 4 := rfl
  rw [List.length_take, hd] at hl
  obtain rfl | rfl | rfl | rfl | rfl : n = 0 ∨ n = 1 ∨ n = 2 ∨ n = 3 ∨ n = 4 := by omega
  · match l, hl with
    | [], _ => rfl
  · match l, hl with
    | [a], _ => exact h3 a (hm a (by simp)) hpp
  · match l, hl with
    | [a, b], _ => exact h2 a (hm a (by simp)) b (hm b (by simp)) hpp hs
  · match l, hl with
    | [a, b, c], _ => exact h1 a (hm a (by simp)) b (hm b (by simp)) c (hm c (by simp)) hpp hs
  · match l, hl with
    | [a, b, c, d], _ => exact h0 a (hm a (by simp)) b (hm b (by simp)) c (hm c (by simp)) d (hm d (by simp)) hpp hs

theorem keys_are {vs : List Value} {ks : List (Str × Value)} (hl : vs.length = ks.length) (h : ∀ (j : Nat) (v : Value), vs[j]? = some v → ∃ k x, ks[j]? = some (k, x) ∧ (strKind prog w).is k v = true) : StrsAre vs (ks.map (·.1)) := by
  induction ks generalizing vs with
  | nil => rw [List.eq_nil_of_length_eq_zero hl]; exact .nil
  | cons q ks ih =>
    match vs, hl with
    | v :: vs, hl =>
      obtain ⟨k, x, h1, h2⟩ := h 0 v rfl
      obtain ⟨t, rfl⟩ := Value.isStrOf_shape h2
      have : q = (k, x) := by simpa using h1
      subst this
      exact .cons _ _ (ih (by simpa using hl) (fun j u hu => by simpa using h (j + 1) u (by simpa using hu)))

theorem sorted_dict {x : Addr} {o : Obj} {kvs : List (Str × Value)} {n : Nat} {Q : Value → Shared → Prop} (hh : A.handled = none) (F : Fr h₀ L s.heap m) (N : News h₀ L s.heap news) (hm : (x, o) ∈ news) (ho : o.IsDictOf (strKind prog w) kvs) (lo : (x == sysModules) = false)
    (hn : n ≤ 4) (hk : kvs.map (·.1) = dkeys.take n)
    (h : ∀ D vs c h' tk, StrsAre vs (skeys n) → Fr h₀ L h' m → News h₀ L h' ((D, listOf vs.toArray c) :: news) → (∀ q ∈ news, @LT.lt Nat instLTNat q.1 D) → Q (.ref D) { s with heap := h', toks := tk }) :
    wpAny (model prog w) A (call (.builtin "sorted") [.ref x]) Q E s := by
  obtain ⟨ep, hat⟩ := (Heap.dictOf_iff.mpr ⟨o, (N _ hm).1, ho⟩ : s.heap.DictOf (strKind prog w) x kvs).dictAt
  have hlen : kvs.length ≤ 4 := by have := congrArg List.length hk; rw [List.length_map, List.length_take] at this; omega
  refine kdu_sorted (kdl_dict (knd := strKind prog w) (kvs := kvs) (ep := ep) lo) hh F N hat (by rw [sizeLine_eq]; omega) fun B h' tk vs F' N' l1 hl hv => ?_
  refine sort_texts F' N' (fun q hq => Nat.ne_of_lt (l1 q hq)) (keys_are hl hv) (by omega) fun vs' ss' n' h2 hS hp hs F2 N2 => ?_
  rw [hk] at hp
  rw [sort4 n hn ss' hp hs] at hS
  exact h B vs' n' h2 tk hS F2 N2 l1

theorem list_dict {x : Addr} {o : Obj} {kvs : List (Str × Value)} {n : Nat} {Q : Value → Shared → Prop} (hh : A.handled = none) (F : Fr h₀ L s.heap m) (N : News h₀ L s.heap news) (hm : (x, o) ∈ news) (ho : o.IsDictOf (strKind prog w) kvs) (lo : (x == sysModules) = false)
    (hn : n ≤ 4) (hk : kvs.map (·.1) = dkeys.take n)
    (h : ∀ D vs c h' tk, StrsAre vs (dkeys.take n) → Fr h₀ L h' m → News h₀ L h' ((D, listOf vs.toArray c) :: news) → (∀ q ∈ news, @LT.lt Nat instLTNat q.1 D) → Q (.ref D) { s with heap := h', toks := tk }) :
    wpAny (model prog w) A (call (.type "list") [.ref x]) Q E s := by
  obtain ⟨ep, hat⟩ := (Heap.dictOf_iff.mpr ⟨o, (N _ hm).1, ho⟩ : s.heap.DictOf (strKind prog w) x kvs).dictAt
  have hlen : kvs.length ≤ 4 := by have := congrArg List.length hk; rw [List.length_map, List.length_take] at this; omega
  refine kdl_N (kdl_dict (knd := strKind prog w) (kvs := kvs) (ep := ep) lo) hh F N hat (by rw [sizeLine_eq]; omega) fun D c h' tk vs F' N' l1 hl hv => ?_
  exact h D vs c h' tk (by rw [← hk]; exact keys_are hl hv) F' N' l1
end
end
section
section
variable {prog : Program} {w : World} {A : Around} {E : Value → Shared → Prop} {s : Shared} {env : Env} {h₀ : Heap} {L : Addr} {m : Str → Option Value} {x : Str} {body : List Stmt} {Q : Flow → Shared → Prop} {m₀ : Str → Option Value} {news : Led}
def KeysAt (prog : Program) (w : World) (nw : Led) (D : Addr) (keys : List Str) : Prop :=
  (∃ vs c, (D, listOf vs.toArray c) ∈ nw ∧ StrsAre vs keys) ∨ (∃ o kvs, (D, o) ∈ nw ∧ o.IsDictOf (strKind prog w) kvs ∧ (D == sysModules) = false ∧ kvs.map (·.1) = keys)
theorem iter_keysInv {D : Addr} {keys : List Str} {nwk : Led} (P : List Str → (Str → Option Value) → Led → Prop) (src : KeysAt prog w nwk D keys) (hh : A.handled = none)
  (F : Fr h₀ env.locals s.heap m₀) (N : News h₀ env.locals s.heap news) (hP : P keys m₀ news) (hkeep : ∀ l m nw, P l m nw → ∀ q ∈ nwk, q ∈ nw)
  (turn : ∀ k r m nw I it u h tk, P (k :: r) m nw → (∀ p ∈ nw, @Ne Nat p.1 I) → Fr h₀ env.locals h (fun y => if y = x then some (.str k u) else m y) → News h₀ env.locals h ((I, it) :: nw) →
    wpAny (model prog w) A (execs body env) (UnrPost h₀ env.locals { s with heap := h, toks := tk } I it (P r) Q) E { s with heap := h, toks := tk })
  (done : ∀ m nw h tk, P [] m nw → Fr h₀ env.locals h m → News h₀ env.locals h nw → Q .next { s with heap := h, toks := tk }) :
  wpAny (model prog w) A (pyIter (.ref D)) (fun it s₂ => LoopAtV prog w A h₀ env x body Q E it s₂) E s := by
  rcases src with ⟨vs, c, hm, hS⟩ | ⟨o, kvs, hm, ho, lo, rfl⟩
  · refine iter_listInv (ax := D) (its := vs) (k := c) (fun l m nw => ∃ ks, StrsAre l ks ∧ P ks m nw) hh F N ⟨keys, hS, hP⟩ (fun l m nw ⟨ks, _, h⟩ => hkeep _ _ _ h _ hm) ?_ ?_
    · rintro v r m nw I it h tk ⟨ks, hks, hp⟩ off F N
      cases hks with
      | cons k u hr =>
        refine wpAny_mono (turn _ _ m nw I it u h tk hp off F N) (fun f s₂ q => UnrPost.mono (fun m n h => ⟨_, hr, h⟩) q) fun _ _ e => e
    · rintro m nw h tk ⟨ks, hks, hp⟩ F N
      cases hks
      exact done m nw h tk hp F N
  · exact iter_dictInv P hh ho lo F N hP (fun l m nw h => hkeep _ _ _ h _ hm) turn done
def KeySrc (prog : Program) (w : World) (h₀ : Heap) (L : Addr) (m : Str → Option Value) (s : Shared) (q : Addr × Obj) (nw : Led) (keys : List Str) (xv : Value) (s₁ : Shared) : Prop :=
  ∃ D h tk nw2, xv = .ref D ∧ s₁ = { s with heap := h, toks := tk } ∧ Fr h₀ L h m ∧ News h₀ L h (q :: (nw2 ++ nw)) ∧ KeysAt prog w (nw2 ++ nw) D keys ∧ ∀ r ∈ nw2, @Ne Nat r.1 q.1
theorem keysrc {M : Model} {iter : PySem.Expr} {R : Value → Shared → Prop} {keys : List Str} {q : Addr × Obj} (uF : Fr h₀ L s.heap m) (uN : News h₀ L s.heap (q :: news))
  (h : wpAny M A (eval iter env) (KeySrc prog w h₀ L m s q news keys) E s) (k : ∀ xv s₁, KeySrc prog w h₀ L m s q news keys xv s₁ → R xv s₁) : wpAny M A (eval iter env) R E s :=
  wpAny_mono h (fun _ _ x => k _ _ x) fun _ _ e => e
theorem swap2 {α : Type} {x y : α} {l : List α} : ∀ q ∈ x :: y :: l, q ∈ y :: x :: l := by
  intro q hq
  rcases List.mem_cons.mp hq with rfl | hq
  · exact .tail _ (.head _)
  · rcases List.mem_cons.mp hq with rfl | hq
    · exact .head _
    · exact .tail _ (.tail _ hq)
theorem dorder_sub {n : Nat} (hn : n ≤ 4) (least : Bool) : ∀ k ∈ dorder n least, k ∈ dkeys.take n := by
  obtain rfl | rfl | rfl | rfl | rfl : n = 0 ∨ n = 1 ∨ n = 2 ∨ n = 3 ∨ n = 4 := by omega
  all_goals cases least
  all_goals decide +kernel
end
end
section
abbrev goodP (p : List UInt8) : Prop := 0 < p.length ∧ p.length ≤ 100 ∧ 33 ≤ fstC p ∧ fstC p ≤ 126 ∧ 33 ≤ lastC p ∧ lastC p ≤ 126
theorem last_mem {p : List UInt8} (h : 0 < p.length) : ∃ b ∈ p, lastC p = (b.toNat : Int) := by
  have hl : p.length - 1 < p.length := by omega
  refine ⟨p[p.length - 1], List.getElem_mem hl, ?_⟩
  unfold lastC
  rw [List.getD_eq_getElem?_getD, List.getElem?_eq_getElem hl]
  rfl
theorem fst_mem {p : List UInt8} (h : 0 < p.length) : ∃ b ∈ p, fstC p = (b.toNat : Int) := by
  refine ⟨p[0], List.getElem_mem h, ?_⟩
  unfold fstC
  rw [List.getD_eq_getElem?_getD, List.getElem?_eq_getElem h]
  rfl
theorem good_all {p : List UInt8} (h : 0 < p.length) (hl : p.length ≤ 100) (ha : ∀ b ∈ p, 33 ≤ b.toNat ∧ b.toNat ≤ 126) : goodP p := by
  obtain ⟨b, hb, e⟩ := fst_mem h
  obtain ⟨c, hc, e2⟩ := last_mem h
  have h1 := ha b hb
  have h2 := ha c hc
  exact ⟨h, hl, by omega, by omega, by omega, by omega⟩
theorem good_name {t : Str} (ht : plainT t = true) : goodP (nameL t) := by
  simp only [plainT, Bool.and_eq_true, List.all_eq_true, decide_eq_true_eq] at ht
  obtain ⟨hp, hsz⟩ := ht
  refine good_all (by simp [nameL]) (by simp [nameL]; omega) fun b hb => ?_
  rcases List.mem_cons.mp hb with rfl | hb
  · decide
  · obtain ⟨c, hc, rfl⟩ := List.mem_map.mp hb
    obtain ⟨c1, c2, _⟩ := plainC_is (hp c hc)
    have : (Nat.toUInt8 c).toNat = c := by
      show (UInt8.ofNat c).toNat = c
      exact UInt8.toNat_ofNat_of_lt (by show c < 256; omega)
    omega
theorem good_num : ∀ n ∈ smalls, goodP (numL n) := by decide +kernel
theorem good_str : ∀ o ∈ octs3, ∀ h b : Bool, goodP (strL o h b) := by decide +kernel
theorem good_keys : ∀ k ∈ dkeys, goodP (nameL k) := by decide +kernel
def PN : Nat → Nat
  | 0 => 3
  | d + 1 => 2 + 4 * (1 + PN d)
def Fine (e : Parts) (n : Nat) : Prop := ∀ b, (∀ p ∈ e b, goodP p) ∧ 0 < (e b).length ∧ (e b).length ≤ n
theorem fine_leaf {P : Params} {news : List (Addr × Obj)} {v : Value} {e : Parts} (h : Leaf P news v e) : Fine e 3 := by
  intro b
  cases h with
  | plain v k e h =>
    refine ⟨fun p hp => ?_, by simp, by simp⟩
    rw [List.mem_singleton.mp hp]
    cases h with
    | null => exact (by decide : goodP nullL)
    | truth b =>
      cases b
      · exact (by decide : goodP falseL)
      · exact (by decide : goodP trueL)
    | int n tk h => exact good_num n h
    | name x dx t a b h1 h2 ht => exact good_name ht
    | str x dx o h a b c h1 h2 ho => exact good_str o ho h _
  | ref x dx n a b c d h1 h2 hn =>
    refine ⟨fun p hp => ?_, by simp, by simp⟩
    have hs : ∀ n ∈ ([1, 2, 3, 4, 5, 6, 7, 8, 9] : List Int), n ∈ smalls := by decide
    simp only [List.mem_cons, List.not_mem_nil, or_false] at hp
    rcases hp with rfl | rfl | rfl
    · exact good_num n (hs n hn)
    · exact good_num 0 (by decide)
    · decide
theorem fine_all {R : Value → Parts → Prop} {n : Nat} (h : ∀ v e, R v e → Fine e n) {vs : List Value} {es : List Parts} (a : All2 R vs es) (b : Bool) : (∀ p ∈ es.flatMap (· b), goodP p) ∧ (es.flatMap (· b)).length ≤ es.length * n := by
  induction a with
  | nil => exact ⟨fun p hp => by simp at hp, by simp⟩
  | cons x _ ih =>
    obtain ⟨f1, f2, f3⟩ := h _ _ x b
    simp only [List.flatMap_cons, List.length_append, List.length_cons]
    refine ⟨fun p hp => ?_, ?_⟩
    · rcases List.mem_append.mp hp with hp | hp
      · exact f1 p hp
      · exact ih.1 p hp
    · rw [Nat.succ_mul]
      omega
theorem fine_keys {n : Nat} (g : Str → List (List UInt8)) : ∀ l : List Str, (∀ k ∈ l, (∀ p ∈ g k, goodP p) ∧ (g k).length ≤ n) → (∀ p ∈ l.flatMap g, goodP p) ∧ (l.flatMap g).length ≤ l.length * n := by
  intro l
  induction l with
  | nil => intro _; exact ⟨fun p hp => by simp at hp, by simp⟩
  | cons k l ih =>
    intro h
    obtain ⟨f1, f2⟩ := h k (.head _)
    have ih := ih fun x hx => h x (.tail _ hx)
    simp only [List.flatMap_cons, List.length_append, List.length_cons]
    refine ⟨fun p hp => ?_, ?_⟩
    · rcases List.mem_append.mp hp with hp | hp
      · exact f1 p hp
      · exact ih.1 p hp
    · rw [Nat.succ_mul]
      omega
theorem dorder_len {n : Nat} (hn : n ≤ 4) (b : Bool) : (dorder n b).length ≤ 4 := by
  obtain rfl | rfl | rfl | rfl | rfl : n = 0 ∨ n = 1 ∨ n = 2 ∨ n = 3 ∨ n = 4 := by omega
  all_goals cases b
  all_goals decide
theorem fine_is {w : World} {news : List (Addr × Obj)} : ∀ d v e, Is w news d v e → Fine e (PN d) := by
  intro d
  induction d with
  | zero => intro v e h; exact fine_leaf h
  | succ d ih =>
    rintro v e (hI | ⟨x, us, k, es, rfl, hx, hl, ha, rfl⟩ | ⟨x, o, kvs, n, g, rfl, hx, hdo, lo, hn, hkv, hg, rfl⟩) b
    · obtain ⟨f1, f2, f3⟩ := fine_leaf hI b
      exact ⟨f1, f2, by simp only [PN]; omega⟩
    · obtain ⟨f1, f2⟩ := fine_all ih ha b
      have hle := ha.length
      have f3 : es.length * PN d ≤ 4 * PN d := Nat.mul_le_mul_right _ (by omega)
      simp only [arrE, List.length_cons, List.length_append, List.length_nil, PN]
      refine ⟨fun p hp => ?_, by omega, by omega⟩
      rcases List.mem_cons.mp hp with rfl | hp
      · decide
      · rcases List.mem_append.mp hp with hp | hp
        · exact f1 p hp
        · rw [List.mem_singleton.mp hp]; decide
    · have hk : ∀ k ∈ dorder n b, (∀ p ∈ g k b, goodP p) ∧ (g k b).length ≤ 1 + PN d := by
        intro k hk
        have hk2 := dorder_sub hn b k hk
        obtain ⟨u, _, hu⟩ := hg k hk2
        rcases hu with ⟨_, e⟩ | ⟨_, f, hf, e⟩
        · rw [e]; exact ⟨fun p hp => by simp at hp, by simp⟩
        · rw [e]
          obtain ⟨f1, f2, f3⟩ := ih u f hf b
          refine ⟨fun p hp => ?_, by simp only [List.length_cons]; omega⟩
          rcases List.mem_cons.mp hp with rfl | hp
          · exact good_keys k (List.mem_of_mem_take hk2)
          · exact f1 p hp
      obtain ⟨f1, f2⟩ := fine_keys (fun k => g k b) _ hk
      have f3 : (dorder n b).length * (1 + PN d) ≤ 4 * (1 + PN d) := Nat.mul_le_mul_right _ (dorder_len hn b)
      simp only [dictE, List.length_cons, List.length_append, List.length_nil, PN]
      refine ⟨fun p hp => ?_, by omega, by omega⟩
      rcases List.mem_cons.mp hp with rfl | hp
      · decide
      · rcases List.mem_append.mp hp with hp | hp
        · exact f1 p hp
        · rw [List.mem_singleton.mp hp]; decide
theorem rt_one {a b : List UInt8} (ha : goodP a) (hb : goodP b) : oneB a b = rtB a b := by
  obtain ⟨_, _, _, _, a1, a2⟩ := ha
  obtain ⟨_, _, b1, b2, _, _⟩ := hb
  have e1 : regB (fstC b) = regI (fstC b) := by
    have := reg_same (fstC b).toNat (by omega) (by omega)
    rwa [Int.toNat_of_nonneg (by omega)] at this
  have e2 : regB (lastC a) = regI (lastC a) := by
    have := reg_same (lastC a).toNat (by omega) (by omega)
    rwa [Int.toNat_of_nonneg (by omega)] at this
  unfold oneB rtB
  rw [e1, e2]
end
section
section
variable {prog : Program} {w : World} {A : Around} {E : Value → Shared → Prop} {s : Shared} {env : Env} {h₀ : Heap} {body : List Stmt} {Q : Flow → Shared → Prop} {m₀ : Str → Option Value} {news : Led} {elts : List PySem.Expr} {pk : Nat} {pos : Pos}
theorem UnrPostW.mono {L : Addr} {s₁ : Shared} {its : Led} {P P' : (Str → Option Value) → Led → Prop} (h : ∀ m n, P m n → (∀ p ∈ n, ∀ q ∈ its, p.1 ≠ q.1) → P' m n) {f : Flow} {s₂ : Shared} (u : UnrPostW h₀ L s₁ its P Q f s₂) : UnrPostW h₀ L s₁ its P' Q f s₂ := by
  cases f with
  | ret v => exact u
  | brk => exact u
  | next => obtain ⟨h', tk, m', n', e, F, N, o, r⟩ := u; exact ⟨h', tk, m', n', e, F, N, o, h _ _ r o⟩
  | cont => obtain ⟨h', tk, m', n', e, F, N, o, r⟩ := u; exact ⟨h', tk, m', n', e, F, N, o, h _ _ r o⟩
theorem enum_inv {l : Addr} {vs : List Value} {k : Nat} (P : Nat → (Str → Option Value) → Led → Prop) (hh : A.handled = none) (F : Fr h₀ env.locals s.heap m₀) (N : News h₀ env.locals s.heap news) (hP : P 0 m₀ news) (hkeep : ∀ i m nw, P i m nw → (l, listOf vs.toArray k) ∈ nw)
  (turn : ∀ i v I oe oi T t m nw h tk, vs[i]? = some v → P i m nw → (∀ p ∈ nw, ∀ q ∈ [((I + 1 : Nat), oe), (I, oi)], @Ne Nat p.1 q.1) → IsTup h T #[.int (i : Int) t, v] → Fr h₀ env.locals h m → News h₀ env.locals h ((I + 1, oe) :: (I, oi) :: nw) →
    wpAny (model prog w) A (assign (.Tuple elts pk pos) env (.ref T)) (fun _ s₂ => wpAny (model prog w) A (execs body env) (UnrPostW h₀ env.locals { s with heap := h, toks := tk } [(I + 1, oe), (I, oi)] (P (i + 1)) Q) E s₂) E { s with heap := h, toks := tk })
  (done : ∀ m nw h tk, P vs.length m nw → Fr h₀ env.locals h m → News h₀ env.locals h nw → Q .next { s with heap := h, toks := tk }) :
  wpAny (model prog w) A (call (.type "enumerate") [.ref l]) (fun xv s₁ => wpAny (model prog w) A (pyIter xv) (fun it s₂ => TurnsAt prog w A h₀ env (.Tuple elts pk pos) body Q E it s₂) E s₁) E s := by
  refine ktu_enum (lo := listOf vs.toArray k) (vs := vs) hh F N (hkeep _ _ _ hP) rfl rfl rfl fun I hI => ?_
  have key : ∀ (r : List Value) (i : Nat) m nw, i + r.length = vs.length → vs.drop i = r → P i m nw → (∀ p ∈ nw, @Ne Nat p.1 (I + 1) ∧ @Ne Nat p.1 I) →
      ItemsRest prog w A E h₀ env (.Tuple elts pk pos) body Q s [(I + 1, "enumerate"), (I, "list_iterator")] [(l, listOf vs.toArray k)] (enumItems i r) m nw := by
    intro r
    induction r with
    | nil =>
      intro i m nw hi _ hp _
      refine ItemsRest.zero fun h tk F' N' => done m nw h tk ?_ F' N'
      have : i = vs.length := by simpa using hi
      exact this ▸ hp
    | cons v r ih =>
      intro i m nw hi hr hp off
      refine ItemsRest.pair fun T t h tk hT F' => ?_
      intro oe _ oi _ N'
      have hlt : i < vs.length := by simp only [List.length_cons] at hi; omega
      rw [List.drop_eq_getElem_cons hlt] at hr
      injection hr with hv hr
      have hoff : ∀ p ∈ nw, ∀ q ∈ [((I + 1 : Nat), oe), (I, oi)], @Ne Nat p.1 q.1 := by
        intro p hp q hq
        simp only [List.mem_cons, List.not_mem_nil, or_false] at hq
        rcases hq with rfl | rfl
        · exact (off p hp).1
        · exact (off p hp).2
      refine wpAny_mono (turn i v I oe oi T t m nw h tk (by rw [List.getElem?_eq_getElem hlt, hv]) hp hoff hT F' N') (fun _ s₂ h₂ => wpAny_mono h₂ (fun f s₃ p => ?_) fun _ _ e => e) fun _ _ e => e
      refine UnrPostW.mono (fun m' n' hq ho => ⟨⟨hkeep _ _ _ hq, trivial⟩, ih (i + 1) m' n' (by simp only [List.length_cons] at hi; omega) hr hq fun p hp => ?_⟩) p
      exact ⟨ho p hp _ (.head _), ho p hp _ (.tail _ (.head _))⟩
  exact key vs 0 m₀ news (by simp) rfl hP fun p hp => ⟨Nat.ne_of_lt (Nat.lt_succ_of_lt (hI p hp)), Nat.ne_of_lt (hI p hp)⟩
theorem tup_inv {target : PySem.Expr} {ax : Addr} {lo : Obj} {vs : List Value} {k : Nat} (P : List Value → (Str → Option Value) → Led → Prop) (hh : A.handled = none) (F : Fr h₀ env.locals s.heap m₀) (N : News h₀ env.locals s.heap news) (hc : lo.cls = .type "tuple") (hd : lo.data = .seq vs.toArray k) (hP : P vs m₀ news) (hkeep : ∀ l m nw, P l m nw → (ax, lo) ∈ nw)
  (turn : ∀ v r I oi m nw h tk, P (v :: r) m nw → (∀ p ∈ nw, @Ne Nat p.1 I) → Fr h₀ env.locals h m → News h₀ env.locals h ((I, oi) :: nw) →
    wpAny (model prog w) A (assign target env v) (fun _ s₂ => wpAny (model prog w) A (execs body env) (UnrPostW h₀ env.locals { s with heap := h, toks := tk } [(I, oi)] (P r) Q) E s₂) E { s with heap := h, toks := tk })
  (done : ∀ m nw h tk, P [] m nw → Fr h₀ env.locals h m → News h₀ env.locals h nw → Q .next { s with heap := h, toks := tk }) :
  wpAny (model prog w) A (pyIter (.ref ax)) (fun it s₂ => TurnsAt prog w A h₀ env target body Q E it s₂) E s := by
  refine iter_tupTurns (lo := lo) (vs := vs) hh F N (hkeep _ _ _ hP) hc hd fun I hI => ?_
  have key : ∀ (r : List Value) m nw, P r m nw → (∀ p ∈ nw, @Ne Nat p.1 I) →
      ItemsRest prog w A E h₀ env target body Q s [(I, "tuple_iterator")] [(ax, lo)] (r.map .val) m nw := by
    intro r
    induction r with
    | nil => intro m nw hp _; exact ItemsRest.zero fun h tk F' N' => done m nw h tk hp F' N'
    | cons v r ih =>
      intro m nw hp off
      refine ItemsRest.val fun h tk F' => ?_
      intro oi _ N'
      refine wpAny_mono (turn v r I oi m nw h tk hp off F' N') (fun _ s₂ h₂ => wpAny_mono h₂ (fun f s₃ p => ?_) fun _ _ e => e) fun _ _ e => e
      exact UnrPostW.mono (fun m' n' hq ho => ⟨⟨hkeep _ _ _ hq, trivial⟩, ih m' n' hq fun p hp => ho p hp _ (.head _)⟩) p
  exact key vs m₀ news hP fun p hp => Nat.ne_of_lt (hI p hp)
end
end
section
open PySem PySem.W PyProof.Rows PySem.Calls PySem.Spec PySem.SeqAt
section
variable {prog : Program} {w : World} {A : Around} {E : Value → Shared → Prop} {s : Shared} {h₀ : Heap} {L : Addr} {m : Str → Option Value} {news : Led}
theorem cut_own {value slice : PySem.Expr} {x pre mid post : List UInt8} {lo hi : Int} {t tl tu : Tok} {Q : Value → Shared → Prop} (F : Fr h₀ L s.heap m) (N : News h₀ L s.heap news) (hx : x = pre ++ (mid ++ post)) (hz : x.length ≤ 1000000) (hlo : lo = (pre.length : Int)) (hhi : hi = (pre.length : Int) + mid.length)
    (h : ∀ h' t' k, Fr h₀ L h' m → News h₀ L h' news → Q (.bytes mid.toArray t') { s with heap := h', toks := k })
    (hs : subscripted slice false (.bytes x.toArray t) (.ref s.heap.objs.size) = operate [.ref s.heap.objs.size, .bytes x.toArray t] (getItem (.bytes x.toArray t) (.ref s.heap.objs.size)) := by with_unfolding_all rfl)
    (ht : ∀ r, letTemporaryGo value (.bytes x.toArray t) r = pure () := by intro _; with_unfolding_all rfl) :
    wpAny (model prog w) A (subscriptTail value slice (.bytes x.toArray t) (.ref s.heap.objs.size)) Q E { s with heap := s.heap.push { cls := .type "slice", data := .fields #[.int lo tl, .int hi tu, .none] } } := by
  refine KBc.slice_K (s := s) (lo := some lo) (hi := some hi) F N rfl (.int _ _) (.int _ _) (by rw [KBw.ints_length]; simp; omega) (fun h' t' k F' N' _ => ?_) hs ht
  have e : KBy.picked x.toArray (some lo) (some hi) = mid.toArray := by
    rw [KBc.picked_eq]
    simp only [Option.elim, List.size_toArray]
    subst hlo hhi
    rw [show (pre.length : Int) + (mid.length : Int) = ((pre.length + mid.length : Nat) : Int) from by push_cast; rfl, clipAt_nat, clipAt_nat]
    subst hx
    simp only [List.length_append]
    rw [Nat.min_eq_left (by omega), Nat.min_eq_left (by omega)]
    simp
  rw [e]
  exact h h' t' k F' N'
theorem eqat_bytes {b : Array UInt8} {t u : Tok} : EqAt A s (.bytes b t) (.bytes b u) true := by
  intro prog w E Q h
  unfold eqBool
  refine wpAny_holding ?_
  refine wpAny_ite_split (fun hab => ?_) (fun hab => ?_)
  · exact wpAny_bind (wpAny_rule (wpAny_pure h))
  · exact wpAny_bind (richCompare_gives (typeIs_bytes s b t) (typeIs_bytes s b u) FB.slot_bytes_eq FB.entry_bytes_eq (FB.args_bytes_eq_2 _ _) (gives_bytes_eq b b t u) (by simp [Made.takes]) (wpAny_truthy_bool (by simpa using h)))
theorem octs_eq {vs ws : List Value} {bs : List (List UInt8)} (ho : Octs vs bs) (hw : Octs ws bs) : ∀ j (h1 : j < vs.toArray.size) (h2 : j < ws.toArray.size), EqAt A s vs.toArray[j] ws.toArray[j] true := by
  induction ho generalizing ws with
  | nil => intro j h1; exact absurd h1 (by simp)
  | cons b t _ ih =>
    cases hw with
    | cons _ u hw =>
      intro j h1 h2
      cases j with
      | zero => exact eqat_bytes
      | succ j => exact ih hw j (by simpa using h1) (by simpa using h2)
theorem ne_octs {a b : Addr} {vs ws : List Value} {ka kb : Nat} {bs : List (List UInt8)} {Q : Value → Shared → Prop} (ha : s.heap.get? a = some (listOf vs.toArray ka)) (hb : s.heap.get? b = some (listOf ws.toArray kb)) (ho : Octs vs bs) (hw : Octs ws bs) (hu : A.units < cLine)
    (h : Q (.bool false) s) : wpAny (model prog w) A (compareOp .NotEq (.ref a) (.ref b)) Q E s := by
  refine cmp_ofNotEq (RcNeAt.lists (e := fun _ => true) ⟨_, ha, rfl, ka, rfl⟩ ⟨_, hb, rfl, kb, rfl⟩ (by simp [ho.length, hw.length]) hu (octs_eq ho hw) prog w E Q ?_)
  have e : (List.range vs.toArray.size).all (fun _ => true) = true := by simp
  rw [e]
  exact h
end
end
section
theorem law_at (P : Params) : (KF P).lookup 404 = some ⟨.type "function", none, .func (fnOf (Str.ofString "law") (Str.ofString "law") (fA (stp 46)) (fB (stp 46)) (fS (stp 46)) (.none) (.none) (.none) (.str (Str.ofString "law_og0174_01") 673) none (.ref 403) (.none)), #[]⟩ := by rfl
theorem body_at {P : Params} {name qual : Str} {ps : Arguments} {s0 : Stmt} {rest : List Stmt} {sc : Scope} {dV kV doc pm cdv ct oc : Value} {an od : Option Addr} {osl : Array (Option Value)}
    (ho : (KF P).lookup 404 = some ⟨oc, od, .func (fnOf name qual ps (s0 :: rest) sc dV kV doc pm an cdv ct), osl⟩) : fB (stp 46) = s0 :: rest ∧ fS (stp 46) = sc := by
  have h := (law_at P).symm.trans ho
  simp only [Option.some.injEq, Obj.mk.injEq, Data.func.injEq, FuncData.mk.injEq, FuncBody.stmts.injEq] at h
  exact ⟨h.2.2.1.2.2.2.1, h.2.2.1.2.2.2.2.1⟩
theorem body_of {w : World} {dp un : Nat} {gd : Option (List Code)} {a L : Addr} {ccd : Value} {outer : List Env} {s : Shared} {Q : Flow → Shared → Prop} {E : Value → Shared → Prop} {name qual : Str} {ps : Arguments} {s0 : Stmt} {rest : List Stmt} {sc : Scope} {dV kV doc pm cdv ct oc : Value} {an od : Option Addr} {osl : Array (Option Value)}
    (ho : (KF w.params).lookup 404 = some ⟨oc, od, .func (fnOf name qual ps (s0 :: rest) sc dV kV doc pm an cdv ct), osl⟩)
    (h : wpAny (model PySem.Challenge.rw_og0174_01.row.prog w) (ktrTop dp un gd (Str.ofString "law") sc L a ccd [] outer) (execs (s0 :: rest) (envOf (Str.ofString "law") sc L a ccd)) Q E s) :
    wpAny (model PySem.Challenge.rw_og0174_01.row.prog w) (ktrTop dp un gd (Str.ofString "law") (fS (stp 46)) L a ccd [] outer) (execs (fB (stp 46)) (envOf (Str.ofString "law") (fS (stp 46)) L a ccd)) Q E s := by
  obtain ⟨h1, h2⟩ := body_at ho
  rw [h1, h2]
  exact h
end
section
local macro_rules | `(tactic| k_mem) => `(tactic| exact List.Mem.tail _ (List.Mem.tail _ (List.Mem.tail _ (by assumption))))
local macro_rules | `(tactic| k_mem) => `(tactic| exact List.Mem.tail _ (List.Mem.tail _ (by assumption)))
local macro_rules | `(tactic| k_mem) => `(tactic| exact List.Mem.tail _ (by assumption))

local macro_rules | `(tactic| walk_at "exec For Name Name cons nil") => `(tactic| (k_here; (rename Fr _ _ _ _ => lF'); (with_unfolding_all refine' For_invVF lF' ?k1 ?k2 ?_; (case k1 => exact rfl); (case k2 => exact rfl); k_whole)))

local macro_rules | `(tactic| walk_at "eval Name") => `(tactic| (k_here; k_dflt (refine' ld ?k1 ?k2 ?_; (case k1 => k_asm); (case k2 => assumption); k_whole)))

local macro_rules | `(tactic| walk_at "call ref") => `(tactic| k_extra "lay")
local macro_rules | `(tactic| walk_at "UnrEnd") => `(tactic| k_extra "uend")
local macro_rules | `(tactic| walk_at "call ref") => `(tactic| (k_here; (with_reducible show wpAny _ _ (call (Value.ref 262) _) _ _ _); k_dflt (refine' kind_spec ?B ?F ?X ?N ?T ?hk ?hI ?hv ?hne ?hd ?hu ?_; (case B => k_asm); (case F => k_asm); (case X => k_asm); (case N => k_asm); (case T => k_asm); (case hk => exact rfl); (case hI => k_asm); (case hv => simp); (case hne => decide); (case hd => omega); (case hu => omega)); intro t1 h1 tk1 F1 N1))
section
variable {w : World} {dp un : Nat} {gd : Option (List Code)} {cn : Str} {cs : Scope} {a : Addr} {ccd : Value} {cl : List (Str × Addr)} {outer : List Env} {A₀ : Around} {base h₀ : Heap} {L : Addr} {m : Str → Option Value} {news : List (Addr × Obj)} {s : Shared}
  {Q E : Value → Shared → Prop} {qq : Program} {loose : List Str} {mean : ExcName → Option Value} {mg mb : Str → Option Value}

theorem layarr_spec (d : Nat) (IH : LaySpec w d) {p : Addr} {vs : List Value} {bs : List (List UInt8)} {kp : Nat} {x : Addr} {us : List Value} {ku : Nat} {es : List Parts} {least : Bool} (B : Below A₀ base outer h₀) (F : Fr h₀ L s.heap m) (X : (KF w.params).In h₀) (N : News h₀ L s.heap ((p, listOf vs.toArray kp) :: news)) (T : Top qq loose mean mg mb h₀) (hk : cs.kind = .function) (hpn : ∀ q ∈ news, @Ne Nat q.1 p) (ho : Octs vs bs) (hx : (x, listOf us.toArray ku) ∈ news) (ha : All2 (Is w news d) us es) (hz : vs.length + (arrE es least).length ≤ 3000) (hd : dp + 20 * (d + 1) < 650) (hu : un + 40 * (d + 1) < 4000)
  (ret : ∀ vs' kp' h' tk', Octs vs' (bs ++ arrE es least) → Fr h₀ L h' m → News h₀ L h' ((p, listOf vs'.toArray kp') :: news) → Q .none { s with heap := h', toks := tk' }) :
  wpAny (model PySem.Challenge.rw_og0174_01.row.prog w) (ktrTop dp un gd cn cs L a ccd cl outer) (call (.ref 349) [.ref p, .ref x, .bool least]) Q E s := by
  revert X
  k_fill
  intro X
  have hI := isi_cons (q := (p, listOf vs.toArray kp)) (isi_list (w := w) hx)
  simp only [arrE, List.length_cons, List.length_append, List.length_nil] at hz
  refine' enter3 (Str.ofString "parts") (Str.ofString "value") (Str.ofString "is_least") B F X N T hk ?ho ?hcd (by omega) ?hb ?hl ?e1 ?e2 ?e3 ?e4 ?_
  (case ho => k_is)
  (case hcd => k_is)
  (case hb => exact BindsTo.of_eq rfl)
  (case hl => exact rfl)
  (case e1 => exact rfl)
  (case e2 => exact rfl)
  (case e3 => exact rfl)
  (case e4 => exact rfl)
  intro g' L' h' tk' FG' F' N' B' X' T'
  k_fold
  k_steps
  all_goals (try k_data)
  refine iter_listInv (ax := x) (its := us) (k := ku) (fun l m1 nw => ∃ vs1 kp1 bs1 es1, nw = (p, listOf vs1.toArray kp1) :: news ∧ Octs vs1 bs1 ∧ All2 (Is w news d) l es1 ∧ bs1 ++ es1.flatMap (· least) = (bs ++ [[91]]) ++ es.flatMap (· least) ∧ vs1.length + (es1.flatMap (· least)).length ≤ 2999 ∧ m1 (Str.ofString "parts") = some (.ref p) ∧ m1 (Str.ofString "is_least") = some (.bool least)) rfl (by assumption) (by assumption) ?a ?k ?b ?c
  case a =>
    refine ⟨_, _, _, es, rfl, ho.snoc [91] _, ha, rfl, ?_, rfl, rfl⟩
    simp only [List.length_append, List.length_cons, List.length_nil] at *
    omega
  case k =>
    rintro l m1 nw ⟨vs1, kp1, bs1, es1, rfl, _⟩
    exact .tail _ hx
  case b =>
    rintro v r m1 nw I it h1 tk1 ⟨vs1, kp1, bs1, es1, rfl, ho1, ha1, he1, hz1, hm1, hm2⟩ off F1 N1
    have hofI := off _ (.head _)
    have offn := fun q hq => off q (.tail _ hq)
    dsimp only [envOf] at F1 N1 hofI
    dsimp only
    cases ha1 with
    | @cons _ f _ es2 hf ha2 =>
      simp only [List.flatMap_cons, List.length_append] at hz1 he1
      k_with "lay" => (
        refine IH (news := (I, it) :: news) (vs := vs1) (bs := bs1) (e := f) (by assumption) (by assumption) (by assumption) (news_sub N1 swap2) (by assumption) rfl
          (List.forall_mem_cons.mpr ⟨Ne.symm hofI, hpn⟩) ho1 (Is.mono (fun q hq => .tail _ hq) _ _ _ hf) (by omega) (by omega) (by omega) ?_
        intro vs2 kp2 h2 tk2 ho2 F2 N2)
      have fin : ∀ (s1 : Shared) vs2 kp2 h2 tk2, Octs vs2 (bs1 ++ f least) → Fr g' L' h2 (fun y => if y = Str.ofString "part" then some v else m1 y) → News g' L' h2 ((p, listOf vs2.toArray kp2) :: (I, it) :: news) →
          UnrEnd g' L' s1 I it (fun m1 nw => ∃ vs1 kp1 bs1 es1, nw = (p, listOf vs1.toArray kp1) :: news ∧ Octs vs1 bs1 ∧ All2 (Is w news d) r es1 ∧ bs1 ++ es1.flatMap (· least) = (bs ++ [[91]]) ++ es.flatMap (· least) ∧ vs1.length + (es1.flatMap (· least)).length ≤ 2999 ∧ m1 (Str.ofString "parts") = some (.ref p) ∧ m1 (Str.ofString "is_least") = some (.bool least)) { s1 with heap := h2, toks := tk2 } := by
        intro s1 vs2 kp2 h2 tk2 ho2 F2 N2
        have hl2 := ho2.length
        have hl1 := ho1.length
        refine UnrEnd.intro F2 N2 ((p, listOf vs2.toArray kp2) :: news) swap2 (List.forall_mem_cons.mpr ⟨hofI, offn⟩) ⟨vs2, kp2, _, es2, rfl, ho2, ha2, by rw [← he1]; simp, ?_, hm1, hm2⟩
        simp only [List.length_append] at *
        omega
      k_with "uend" => (k_dflt (exact fin _ _ _ _ _ ho2 F2 N2))
      k_steps
  case c =>
    rintro m1 nw h1 tk1 ⟨vs1, kp1, bs1, es1, rfl, ho1, ha1, he1, hz1, hm1, hm2⟩ F1 N1
    dsimp only [envOf] at F1 N1
    dsimp only
    cases ha1
    k_steps
    all_goals (try k_data)
    all_goals (
      rename_i kF kN _ _
      rw [push_list] at kN
      refine ret _ _ _ _ ?_ kF kN
      have := ho1.snoc [93] tk1
      simp only [List.flatMap_nil, List.append_nil] at he1
      rw [he1] at this
      simpa [arrE] using this)

end
end
section
local macro_rules | `(tactic| k_mem) => `(tactic| exact List.Mem.tail _ (List.Mem.tail _ (List.Mem.tail _ (by assumption))))
local macro_rules | `(tactic| k_mem) => `(tactic| exact List.Mem.tail _ (List.Mem.tail _ (by assumption)))
local macro_rules | `(tactic| k_mem) => `(tactic| exact List.Mem.tail _ (by assumption))

local macro_rules | `(tactic| walk_at "eval Name") => `(tactic| (k_here; k_dflt (refine' ld ?k1 ?k2 ?_; (case k1 => k_asm); (case k2 => assumption); k_whole)))

local macro_rules | `(tactic| walk_at "call ref") => `(tactic| k_extra "lay")
local macro_rules | `(tactic| walk_at "UnrEnd") => `(tactic| k_extra "uend")
local macro_rules | `(tactic| walk_at "exec For Name IfExp cons nil") => `(tactic| k_extra "for")
local macro_rules | `(tactic| walk_at "compareOp IsNot") => `(tactic| (k_here; (with_reducible show wpAny _ _ (compareOp CmpOp.IsNot _ Value.none) _ _ _); refine isnot_none_ne (by assumption) ?_))
local macro_rules | `(tactic| walk_at "call builtin:sorted") => `(tactic| k_extra "sorted")
local macro_rules | `(tactic| walk_at "subscriptTail") => `(tactic| k_extra "item")
local macro_rules | `(tactic| walk_at "getItem") => `(tactic| k_extra "item")
local macro_rules | `(tactic| walk_at "call ref") => `(tactic| (k_here; (with_reducible show wpAny _ _ (call (Value.ref 281) _) _ _ _); k_dflt (refine' name_spec ?B ?F ?X ?N ?T ?hk ?ht ?hd ?hu ?_; (case B => k_asm); (case F => k_asm); (case X => k_asm); (case N => k_asm); (case T => k_asm); (case hk => exact rfl); (case ht => k_asm); (case hd => omega); (case hu => omega)); intro t1 h1 tk1 F1 N1))
theorem dkeys_plain : ∀ k ∈ dkeys, plainT k = true := by decide +kernel

section
variable {w : World} {dp un : Nat} {gd : Option (List Code)} {cn : Str} {cs : Scope} {a : Addr} {ccd : Value} {cl : List (Str × Addr)} {outer : List Env} {A₀ : Around} {base h₀ : Heap} {L : Addr} {m : Str → Option Value} {news : List (Addr × Obj)} {s : Shared}
  {Q E : Value → Shared → Prop} {qq : Program} {loose : List Str} {mean : ExcName → Option Value} {mg mb : Str → Option Value}

theorem laydict_spec (d : Nat) (IH : LaySpec w d) {p : Addr} {vs : List Value} {bs : List (List UInt8)} {kp : Nat} {x : Addr} {o : Obj} {kvs : List (Str × Value)} {n : Nat} {g : Str → Parts} {least : Bool} (B : Below A₀ base outer h₀) (F : Fr h₀ L s.heap m) (X : (KF w.params).In h₀) (N : News h₀ L s.heap ((p, listOf vs.toArray kp) :: news)) (T : Top qq loose mean mg mb h₀) (hk : cs.kind = .function) (hpn : ∀ q ∈ news, @Ne Nat q.1 p) (ho : Octs vs bs)
  (hx : (x, o) ∈ news) (hdo : o.IsDictOf (strKind PySem.Challenge.rw_og0174_01.row.prog w) kvs) (lo : (x == sysModules) = false) (hn : n ≤ 4) (hkv : kvs.map (·.1) = dkeys.take n)
  (hg : ∀ k ∈ dkeys.take n, ∃ u, valueAt kvs k = some u ∧ ((u = .none ∧ g k = fun _ => []) ∨ (u ≠ .none ∧ ∃ f, Is w news d u f ∧ g k = fun b => nameL k :: f b)))
  (hz : vs.length + (dictE n g least).length ≤ 3000) (hd : dp + 20 * d + 10 < 650) (hu : un + 40 * d + 20 < 4000)
  (ret : ∀ vs' kp' h' tk', Octs vs' (bs ++ dictE n g least) → Fr h₀ L h' m → News h₀ L h' ((p, listOf vs'.toArray kp') :: news) → Q .none { s with heap := h', toks := tk' }) :
  wpAny (model PySem.Challenge.rw_og0174_01.row.prog w) (ktrTop dp un gd cn cs L a ccd cl outer) (call (.ref 342) [.ref p, .ref x, .bool least]) Q E s := by
  revert X
  k_fill
  intro X
  simp only [dictE, List.length_cons, List.length_append, List.length_nil] at hz
  refine' enter3 (Str.ofString "parts") (Str.ofString "value") (Str.ofString "is_least") B F X N T hk ?ho ?hcd (by omega) ?hb ?hl ?e1 ?e2 ?e3 ?e4 ?_
  (case ho => k_is)
  (case hcd => k_is)
  (case hb => exact BindsTo.of_eq rfl)
  (case hl => exact rfl)
  (case e1 => exact rfl)
  (case e2 => exact rfl)
  (case e3 => exact rfl)
  (case e4 => exact rfl)
  intro g' L' h' tk' FG' F' N' B' X' T'
  k_fold
  k_with "for" => (
    rename Fr g' L' _ _ => F9
    rename News g' L' _ _ => N9
    rw [push_list] at N9
    with_unfolding_all refine' For_invVF F9 ?k1 ?k2 ?_
    case k1 => exact rfl
    case k2 => exact rfl
    k_dflt (refine keysrc (prog := PySem.Challenge.rw_og0174_01.row.prog) (w := w) (keys := dorder n least) F9 N9 ?_ ?_))
  k_with "sorted" => (
    k_dflt (refine sorted_dict rfl F9 N9 (.tail _ hx) hdo lo hn hkv ?_)
    intro D vsk ck h5 tk5 hS F5 N5 l5)
  k_steps
  · have el : least = true := by assumption
    exact ⟨D, h5, tk5, [(D, listOf vsk.toArray ck)], rfl, rfl, F5, news_sub N5 swap2, .inl ⟨vsk, ck, .head _, by rw [el]; exact hS⟩, fun q hq => by rw [List.mem_singleton.mp hq]; exact Ne.symm (Nat.ne_of_lt (l5 _ (.head _)))⟩
  · have el : least = false := by assumption
    exact ⟨x, _, _, [], rfl, rfl, F9, N9,   .inr ⟨o, kvs, hx, hdo, lo, by rw [el]; exact hkv⟩, fun q hq => nomatch hq⟩
  · rename_i xv s1 hsrc
    obtain ⟨D, h5, tk5, nw2, rfl, rfl, F5, N5, hkeys, hne⟩ := hsrc
    clear F9 N9
    have hmem : ∀ q ∈ news, q ∈ nw2 ++ news := fun q hq => List.mem_append.mpr (.inr hq)
    have hord := dorder_sub hn least
    have hpn2 : ∀ q ∈ nw2 ++ news, @Ne Nat q.1 p := fun q hq => (List.mem_append.mp hq).elim (hne q) (hpn q)
    refine iter_keysInv (fun l m1 nw => ∃ vs1 kp1 bs1, nw = (p, listOf vs1.toArray kp1) :: (nw2 ++ news) ∧ Octs vs1 bs1 ∧ (∀ k ∈ l, k ∈ dkeys.take n) ∧ bs1 ++ l.flatMap (fun k => g k least) = (bs ++ [[60, 60]]) ++ (dorder n least).flatMap (fun k => g k least) ∧ vs1.length + (l.flatMap (fun k => g k least)).length ≤ 2999 ∧ m1 (Str.ofString "parts") = some (.ref p) ∧ m1 (Str.ofString "value") = some (.ref x) ∧ m1 (Str.ofString "is_least") = some (.bool least))
      (nwk := nw2 ++ news) hkeys rfl F5 N5 ?a ?k ?b ?c
    case a =>
      refine ⟨_, _, _, rfl, ho.snoc [60, 60] _, hord, rfl, ?_, rfl, rfl, rfl⟩
      simp only [List.length_append, List.length_cons, List.length_nil] at *
      omega
    case k =>
      rintro l m1 nw ⟨vs1, kp1, bs1, rfl, _⟩
      exact fun q hq => .tail _ hq
    case b =>
      rintro k r m1 nw I it u h1 tk1 ⟨vs1, kp1, bs1, rfl, ho1, hk1, he1, hz1, hm1, hm2, hm3⟩ off F1 N1
      have hofI := off _ (.head _)
      have offn := fun q hq => off q (.tail _ hq)
      dsimp only [envOf] at F1 N1 hofI
      dsimp only
      obtain ⟨v, hv, hcase⟩ := hg k (hk1 k (.head _))
      have hpk := dkeys_plain k (List.mem_of_mem_take (hk1 k (.head _)))
      have hx' : (x, o) ∈ nw2 ++ news := hmem _ hx
      simp only [List.flatMap_cons, List.length_append] at hz1 he1
      k_with "item" => (k_dflt (refine kda_item (by assumption) (.tail _ (.tail _ hx')) hdo (strKind_is _ _ _ _) hv ?_))
      have fin : ∀ (s1 : Shared) vs2 kp2 h2 tk2 m2, Fr g' L' h2 m2 → News g' L' h2 ((I, it) :: (p, listOf vs2.toArray kp2) :: (nw2 ++ news)) → m2 (Str.ofString "parts") = some (.ref p) → m2 (Str.ofString "value") = some (.ref x) → m2 (Str.ofString "is_least") = some (.bool least) → Octs vs2 (bs1 ++ g k least) →
          UnrEnd g' L' s1 I it (fun m1 nw => ∃ vs1 kp1 bs1, nw = (p, listOf vs1.toArray kp1) :: (nw2 ++ news) ∧ Octs vs1 bs1 ∧ (∀ k ∈ r, k ∈ dkeys.take n) ∧ bs1 ++ r.flatMap (fun k => g k least) = (bs ++ [[60, 60]]) ++ (dorder n least).flatMap (fun k => g k least) ∧ vs1.length + (r.flatMap (fun k => g k least)).length ≤ 2999 ∧ m1 (Str.ofString "parts") = some (.ref p) ∧ m1 (Str.ofString "value") = some (.ref x) ∧ m1 (Str.ofString "is_least") = some (.bool least)) { s1 with heap := h2, toks := tk2 } := by
        intro s1 vs2 kp2 h2 tk2 m2 F2 N2 e1 e2 e3 ho2
        have hl2 := ho2.length
        have hl1 := ho1.length
        refine UnrEnd.intro F2 N2 ((p, listOf vs2.toArray kp2) :: (nw2 ++ news)) (fun q hq => hq) (List.forall_mem_cons.mpr ⟨hofI, offn⟩) ⟨vs2, kp2, _, rfl, ho2, fun k hk => hk1 k (.tail _ hk), by rw [← he1]; simp, ?_, e1, e2, e3⟩
        simp only [List.length_append] at *
        omega
      rcases hcase with ⟨rfl, hgk⟩ | ⟨hvn, f, hf, hgk⟩
      · rw [hgk] at hz1 fin
        k_with "uend" => (k_dflt (exact fin _ vs1 kp1 _ _ _ F1 N1 hm1 hm2 hm3 (by simpa using ho1)))
        k_steps
      · rw [hgk] at hz1 fin
        k_with "lay" => (
          rename News g' L' _ _ => N7
          (try rw [push_list] at N7)
          k_dflt (refine IH (news := (I, it) :: (nw2 ++ news)) (e := f) (by assumption) (by assumption) (by assumption) (news_sub N7 swap2) (by assumption) rfl (List.forall_mem_cons.mpr ⟨Ne.symm hofI, hpn2⟩) (ho1.snoc _ _) (Is.mono (fun q hq => .tail _ (hmem q hq)) _ _ _ hf) (by simp only [List.length_append, List.length_cons, List.length_nil] at *; omega) (by omega) (by omega) ?_)
          intro vs2 kp2 h2 tk2 ho2 F2 N2)
        k_with "uend" => (k_dflt (exact fin _ vs2 kp2 _ _ _ F2 (news_sub N2 swap2) hm1 hm2 hm3 (by simpa using ho2)))
        k_steps
    case c =>
      rintro m1 nw h1 tk1 ⟨vs1, kp1, bs1, rfl, ho1, hk1, he1, hz1, hm1, hm2, hm3⟩ F1 N1
      dsimp only [envOf] at F1 N1
      dsimp only
      k_steps
      all_goals (try k_data)
      rename_i kF kN _ _
      rw [push_list] at kN
      have hO := ho1.snoc [62, 62] tk1
      simp only [List.flatMap_nil, List.append_nil] at he1
      rw [he1] at hO
      exact ret _ _ _ _ (by simpa [dictE] using hO) kF (news_sub kN (fun q hq => (List.mem_cons.mp hq).elim (fun e => e ▸ .head _) (fun h => .tail _ (hmem q h))))

end
end
section
local macro_rules | `(tactic| k_mem) => `(tactic| exact List.Mem.tail _ (List.Mem.tail _ (List.Mem.tail _ (by assumption))))
local macro_rules | `(tactic| k_mem) => `(tactic| exact List.Mem.tail _ (List.Mem.tail _ (by assumption)))
local macro_rules | `(tactic| k_mem) => `(tactic| exact List.Mem.tail _ (by assumption))

local macro_rules | `(tactic| walk_at "call ref") => `(tactic| k_extra "dict")
local macro_rules | `(tactic| walk_at "call ref") => `(tactic| (k_here; (with_reducible show wpAny _ _ (call (Value.ref 262) _) _ _ _); k_dflt (refine' kind_spec ?B ?F ?X ?N ?T ?hk ?hI ?hv ?hne ?hd ?hu ?_; (case B => k_asm); (case F => k_asm); (case X => k_asm); (case N => k_asm); (case T => k_asm); (case hk => exact rfl); (case hI => k_asm); (case hv => simp); (case hne => decide); (case hd => omega); (case hu => omega)); intro t1 h1 tk1 F1 N1))
section
variable {w : World} {dp un : Nat} {gd : Option (List Code)} {cn : Str} {cs : Scope} {a : Addr} {ccd : Value} {cl : List (Str × Addr)} {outer : List Env} {A₀ : Around} {base h₀ : Heap} {L : Addr} {m : Str → Option Value} {news : List (Addr × Obj)} {s : Shared}
  {Q E : Value → Shared → Prop} {qq : Program} {loose : List Str} {mean : ExcName → Option Value} {mg mb : Str → Option Value}

theorem laydp_spec (d : Nat) (IH : LaySpec w d) {p : Addr} {vs : List Value} {bs : List (List UInt8)} {kp : Nat} {x : Addr} {o : Obj} {kvs : List (Str × Value)} {n : Nat} {g : Str → Parts} {least : Bool} (B : Below A₀ base outer h₀) (F : Fr h₀ L s.heap m) (X : (KF w.params).In h₀) (N : News h₀ L s.heap ((p, listOf vs.toArray kp) :: news)) (T : Top qq loose mean mg mb h₀) (hk : cs.kind = .function) (hpn : ∀ q ∈ news, @Ne Nat q.1 p) (ho : Octs vs bs)
  (hx : (x, o) ∈ news) (hdo : o.IsDictOf (strKind PySem.Challenge.rw_og0174_01.row.prog w) kvs) (lo : (x == sysModules) = false) (hn : n ≤ 4) (hkv : kvs.map (·.1) = dkeys.take n)
  (hg : ∀ k ∈ dkeys.take n, ∃ u, valueAt kvs k = some u ∧ ((u = .none ∧ g k = fun _ => []) ∨ (u ≠ .none ∧ ∃ f, Is w news d u f ∧ g k = fun b => nameL k :: f b)))
  (hz : vs.length + (dictE n g least).length ≤ 3000) (hd : dp + 20 * (d + 1) < 650) (hu : un + 40 * (d + 1) < 4000)
  (ret : ∀ vs' kp' h' tk', Octs vs' (bs ++ dictE n g least) → Fr h₀ L h' m → News h₀ L h' ((p, listOf vs'.toArray kp') :: news) → Q .none { s with heap := h', toks := tk' }) :
  wpAny (model PySem.Challenge.rw_og0174_01.row.prog w) (ktrTop dp un gd cn cs L a ccd cl outer) (call (.ref 349) [.ref p, .ref x, .bool least]) Q E s := by
  revert X
  k_fill
  intro X
  have hcls : o.cls = .type "dict" := by obtain ⟨_, _, h9, _⟩ := hdo; exact h9.1
  have hI := isi_cons (q := (p, listOf vs.toArray kp)) (isi_dict (w := w) hx hcls)
  k_with "dict" => (
    k_dflt (refine laydict_spec d IH (p := p) (x := x) (by assumption) (by assumption) (by assumption) (by assumption) (by assumption) rfl hpn ho hx hdo lo hn hkv hg hz (by omega) (by omega) ?_)
    intro vs2 kp2 h2 tk2 ho2 F2 N2)
  refine' enter3 (Str.ofString "parts") (Str.ofString "value") (Str.ofString "is_least") B F X N T hk ?ho ?hcd (by omega) ?hb ?hl ?e1 ?e2 ?e3 ?e4 ?_
  (case ho => k_is)
  (case hcd => k_is)
  (case hb => exact BindsTo.of_eq rfl)
  (case hl => exact rfl)
  (case e1 => exact rfl)
  (case e2 => exact rfl)
  (case e3 => exact rfl)
  (case e4 => exact rfl)
  intro g' L' h' tk' FG' F' N' B' X' T'
  k_fold
  k_steps
  all_goals (try k_data)
  all_goals (exact ret _ _ _ _ (by assumption) (by assumption) (by assumption))
theorem lay_all (w : World) : ∀ d, LaySpec w d := by
  intro d
  induction d with
  | zero =>
    intro dp un gd cn cs a ccd cl outer A₀ base h₀ L m news s Q E qq loose mean mg mb p vs bs kp v e least B F X N T hk hpn ho hI hz hd hu ret
    exact lay_leaf 0 B F X N T hk hpn ho hI hz hd hu ret
  | succ d IH =>
    intro dp un gd cn cs a ccd cl outer A₀ base h₀ L m news s Q E qq loose mean mg mb p vs bs kp v e least B F X N T hk hpn ho hI hz hd hu ret
    rcases hI with hI | ⟨x, us, k, es, rfl, hx, hl, ha, rfl⟩ | ⟨x, o, kvs, n, g, rfl, hx, hdo, lo, hn, hkv, hg, rfl⟩
    · exact lay_leaf (d + 1) B F X N T hk hpn ho hI hz hd hu ret
    · exact layarr_spec d IH B F X N T hk hpn ho hx ha hz hd hu ret
    · exact laydp_spec d IH B F X N T hk hpn ho hx hdo lo hn hkv hg hz hd hu ret

end
end
section
abbrev two (x y : Str) (px py pe : Pos) (i0 i1 : PySem.Expr) (scope : Scope) (pos : Pos) : PySem.Expr :=
  .ListComp (.Name y pe) [⟨.Name x px, i0, [], 0⟩, ⟨.Name y py, i1, [], 0⟩] scope pos
theorem turn_outer (x y : Str) (px py pe : Pos) (i0 i1 : PySem.Expr) (scope : Scope) (pos : Pos) (it acc : Value) (env : Env) :
    compTurn (two x y px py pe i0 i1 scope pos) 0 it acc env = (standAt i0.pos >>= fun _ => pyNext it >>= fun r => match r with
      | none => pure (.done .next)
      | some v => letOwnedTupleGo (.Name x px) it v >>= fun _ => assign (.Name x px) env v >>= fun _ =>
        eval i1 env >>= fun xv => standAt i1.pos >>= fun _ => foldedSetIterable i1 env xv >>= fun xv => holding [xv] (pyIter xv) >>= fun it1 =>
          runOwn (.compStart (two x y px py pe i0 i1 scope pos) 1 it1 acc env) env >>= fun _ =>
          again (.compLoop (two x y px py pe i0 i1 scope pos) 0 it acc env)) := by rfl
theorem turn_inner (x y : Str) (px py pe : Pos) (i0 i1 : PySem.Expr) (scope : Scope) (pos : Pos) (it acc : Value) (env : Env) :
    compTurn (two x y px py pe i0 i1 scope pos) 1 it acc env = (standAt i1.pos >>= fun _ => pyNext it >>= fun r => match r with
      | none => pure (.done .next)
      | some v => letOwnedTupleGo (.Name y py) it v >>= fun _ => assign (.Name y py) env v >>= fun _ =>
        (eval (.Name y pe) env >>= fun xv => call (.builtin "list.append") [acc, xv] >>= fun _ => pure ()) >>= fun _ =>
          again (.compLoop (two x y px py pe i0 i1 scope pos) 1 it acc env)) := by rfl
section
variable {prog : Program} {w : World} {A : Around} {E : Value → Shared → Prop} {R : Result → Shared → Prop} {s : Shared} {x y : Str} {px py pe : Pos} {i0 i1 : PySem.Expr} {scope : Scope} {pos : Pos} {it acc : Value} {env : Env}
theorem loop_inner (I : Nat → Shared → Prop)
    (turn : ∀ n s, I n s → wpAny (model prog w) A (pyNext it) (fun r s₁ => match r with
      | none => R (.ok .next) s₁
      | some v => wpAny (model prog w) A (assign (.Name y py) env v) (fun _ s₂ => wpAny (model prog w) A (eval (.Name y pe) env) (fun xv s₃ =>
          wpAny (model prog w) A (call (.builtin "list.append") [acc, xv]) (fun _ s₄ => ∃ m, m < n ∧ I m s₄) (notedBy (model prog w) A env fun e s' => R (.error e) s') s₃)
          (notedBy (model prog w) A env fun e s' => R (.error e) s') s₂) (notedBy (model prog w) A env fun e s' => R (.error e) s') s₁) (notedBy (model prog w) A env fun e s' => R (.error e) s') s)
    (n : Nat) (h : I n s) : codeAny (model prog w) A (.compLoop (two x y px py pe i0 i1 scope pos) 1 it acc env) R s := by
  refine codeAny_loop rfl I (fun n s hI => ?_) n h
  show wpAny _ _ ((compTurn (two x y px py pe i0 i1 scope pos) 1 it acc env).onRaise (fun x => do noteFrame x env; theTreesLotGoes x)) _ _ s
  refine wpAny_noted ?_
  rw [turn_inner]
  refine wpAny_bind (wpAny_standAt (wpAny_bind (wpAny_mono (turn n s hI) (fun r s₁ h₁ => ?_) fun _ _ h' => h')))
  cases r with
  | none => exact wpAny_pure h₁
  | some v =>
    refine wpAny_bind (wpAny_of_eq (show letOwnedTupleGo _ it v = pure () from rfl) ?_)
    exact wpAny_bind (wpAny_mono h₁ (fun _ s₂ h₂ => wpAny_bind (wpAny_bind (wpAny_mono h₂ (fun x s₃ h₃ => wpAny_bind (wpAny_mono h₃
      (fun _ s₄ h₄ => wpAny_pure (wpAny_pure ⟨rfl, h₄⟩)) fun _ _ h' => h')) fun _ _ h' => h'))) fun _ _ h' => h')
theorem start_inner
    (h0 : codeAny (model prog w) A (.compLoop (two x y px py pe i0 i1 scope pos) 1 it acc env) R s)
    (h : wpAny (model prog w) A (pyIter it) (fun it' s' => codeAny (model prog w) A (.compLoop (two x y px py pe i0 i1 scope pos) 1 it' acc env) R s')
      (notedBy (model prog w) A env fun x s' => R (.error x) s') s) :
    codeAny (model prog w) A (.compStart (two x y px py pe i0 i1 scope pos) 1 it acc env) R s := by
  refine codeAny_of_tree ?_
  show wpAny _ _ ((compStart (two x y px py pe i0 i1 scope pos) 1 it acc env).onRaise (fun x => do noteFrame x env; standAt theWindowsPlace)) _ _ s
  refine wpAny_notedAt ?_
  unfold compStart
  show wpAny _ _ (ask >>= _) _ _ s
  refine wpAny_bind (wpAny_askSetting (wpAny_ite ?_))
  split
  · first
      | exact wpAny_bind (wpAny_pure (wpAny_pure (And.intro rfl h0)))
      | exact wpAny_pure (And.intro rfl h0)
  · first
      | exact wpAny_bind (wpAny_rule (wpAny_bind (wpAny_standAt (wpAny_bind (wpAny_mono h (fun it' s' h' => wpAny_pure (And.intro rfl h')) fun _ _ x => x)))))
      | (refine wpAny_bind (wpAny_rule ?_); show wpAny _ _ (standAt i1.pos >>= _) _ _ s; exact wpAny_bind (wpAny_standAt (wpAny_bind (wpAny_mono h (fun it' s' h' => wpAny_pure (And.intro rfl h')) fun _ _ x => x))))
theorem loop_outer (I : Nat → Shared → Prop)
    (turn : ∀ n s, I n s → wpAny (model prog w) A (pyNext it) (fun r s₁ => match r with
      | none => R (.ok .next) s₁
      | some v => wpAny (model prog w) A (assign (.Name x px) env v) (fun _ s₂ => wpAny (model prog w) A (eval i1 env) (fun xv s₃ =>
          wpAny (model prog w) A (pyIter xv) (fun it1 s₄ => codeAny (model prog w) A (.compStart (two x y px py pe i0 i1 scope pos) 1 it1 acc env) (fun r s₅ => r = .ok .next ∧ ∃ m, m < n ∧ I m s₅) s₄) (notedBy (model prog w) A env fun e s' => R (.error e) s') s₃)
          (notedBy (model prog w) A env fun e s' => R (.error e) s') s₂) (notedBy (model prog w) A env fun e s' => R (.error e) s') s₁) (notedBy (model prog w) A env fun e s' => R (.error e) s') s)
    (n : Nat) (h : I n s) (hs : ∀ v, foldedSetIterable i1 env v = pure v) : codeAny (model prog w) A (.compLoop (two x y px py pe i0 i1 scope pos) 0 it acc env) R s := by
  refine codeAny_loop rfl I (fun n s hI => ?_) n h
  show wpAny _ _ ((compTurn (two x y px py pe i0 i1 scope pos) 0 it acc env).onRaise (fun x => do noteFrame x env; theTreesLotGoes x)) _ _ s
  refine wpAny_noted ?_
  rw [turn_outer]
  refine wpAny_bind (wpAny_standAt (wpAny_bind (wpAny_mono (turn n s hI) (fun r s₁ h₁ => ?_) fun _ _ h' => h')))
  cases r with
  | none => exact wpAny_pure h₁
  | some v =>
    refine wpAny_bind (wpAny_of_eq (show letOwnedTupleGo _ it v = pure () from rfl) ?_)
    refine wpAny_bind (wpAny_mono h₁ (fun _ s₂ h₂ => wpAny_bind (wpAny_mono h₂ (fun xv s₃ h₃ => wpAny_bind (wpAny_standAt (wpAny_bind (wpAny_of_eq (hs xv) (wpAny_bind (wpAny_holding (wpAny_mono h₃ (fun it1 s₄ h₄ =>
      wpAny_bind (wpAny_runOwn (codeAny_mono h₄ fun r s₅ h₅ => ?_))) fun _ _ h' => h'))))))) fun _ _ h' => h')) fun _ _ h' => h')
    obtain ⟨rfl, h₅⟩ := h₅
    exact wpAny_pure ⟨rfl, h₅⟩
end
end
section
open PySem PySem.W PyProof.Rows PySem.Calls PySem.Spec PyProof.Rows.LCg
section
variable {prog : Program} {w : World} {A : Around} {E : Value → Shared → Prop} {s : Shared} {h₀ : Heap} {L : Addr} {m : Str → Option Value} {x y : Str} {px py pe : Pos} {i0 i1 : PySem.Expr} {scope : Scope} {pos : Pos} {env : Env} {cl : List (Str × Addr)}
theorem inner_run {I C D q : Addr} {oI oC : Obj} {ys vs : List Value} {kq : Nat} {nw : Led} {m₂ : Str → Option Value} {R : Result → Shared → Prop} (hh : A.handled = none) (hkind : scope.kind = .function) (hy : scope.names.lookup y = some .local) (hd : (y == ("__debug__" : Str)) = false)
    (F : Fr h₀ L s.heap m) (N : News h₀ L s.heap ((q, listOf vs.toArray kq) :: (I, oI) :: (C, oC) :: (D, lst ys) :: nw)) (hoC : NsObj oC m₂) (hIC : I ≠ C) (hID : I ≠ D) (hCD : C ≠ D) (hqI : q ≠ I) (hqC : q ≠ C) (hqD : q ≠ D)
    (off : ∀ p ∈ nw, p.1 ≠ C ∧ p.1 ≠ D) (hsz : ys.length + vs.length ≤ sizeLine)
    (hR : ∀ h' tk m', Fr h₀ L h' m → h'.Ns C m' → News h₀ L h' ((I, oI) :: (D, lst (ys ++ vs)) :: nw) → R (.ok .next) { s with heap := h', toks := tk }) :
    wpAny (model prog w) A (pyIter (.ref q)) (fun it1 s₁ => codeAny (model prog w) A (.compStart (two x y px py pe i0 i1 scope pos) 1 it1 (.ref D) (compEnvC scope cl C env)) R s₁) E s := by
  have zq := N (q, listOf vs.toArray kq) (.head _)
  have zI := N (I, oI) (.tail _ (.head _))
  have zC := N (C, oC) (.tail _ (.tail _ (.head _)))
  have zD := N (D, lst ys) (.tail _ (.tail _ (.tail _ (.head _))))
  have hl : s.heap.IsList q vs.toArray := ⟨_, zq.1, rfl, kq, rfl⟩
  have up : ∀ b o, s.heap.get? b = some o → (s.heap.push { cls := .type "list_iterator", data := .fields #[.ref q, .int 0 0] }).get? b = some o := fun b o e => Heap.get?_push_of_some _ e
  have lt : ∀ b o, s.heap.get? b = some o → b ≠ s.heap.objs.size := fun b o e => Nat.ne_of_lt (Heap.lt_size e)
  refine wpAny_pyIter_list hl ?_
  have W := Walks.list (prog := prog) (w := w) (A := A) hh s.heap.objs.size q (lt _ _ zq.1) vs.toArray
  have st0 : (s.heap.push { cls := .type "list_iterator", data := .fields #[.ref q, .int 0 0] }).IsListIter s.heap.objs.size q 0 ∧ (s.heap.push { cls := .type "list_iterator", data := .fields #[.ref q, .int 0 0] }).IsList q vs.toArray := ⟨⟨_, Heap.get?_push_size _ rfl, rfl, rfl⟩, hl.push _⟩
  have loop : codeAny (model prog w) A (.compLoop (two x y px py pe i0 i1 scope pos) 1 (.ref s.heap.objs.size) (.ref D) (compEnvC scope cl C env)) R { s with heap := s.heap.push { cls := .type "list_iterator", data := .fields #[.ref q, .int 0 0] } } := by
    refine loop_inner (fun k s' => ∃ h' tk j m', s' = { s with heap := h', toks := tk } ∧ j ≤ vs.length ∧ k = vs.length + 1 - j ∧ (h'.IsListIter s.heap.objs.size q j ∧ h'.IsList q vs.toArray) ∧ Fr h₀ L h' m ∧ h'.Ns C m' ∧
      News h₀ L h' ((I, oI) :: (D, lst (ys ++ vs.take j)) :: nw)) ?_ (vs.length + 1)
      ⟨_, s.toks, 0, m₂, rfl, Nat.zero_le _, rfl, st0, F.keeps up, hoC.ns (up _ _ zC.1), fun p hp => ?_⟩
    · rintro k s' ⟨h', tk, j, m', rfl, hj, rfl, st, F', hn', N'⟩
      by_cases hlt : j < vs.length
      · refine W.item j _ _ _ (by simpa using hlt) st fun v h₂ tk₂ hPv hst₂ hk₂ => ?_
        have hCk : C ∉ [s.heap.objs.size] := fun h => lt _ _ zC.1 (List.mem_singleton.mp h)
        have hLk : L ≠ s.heap.objs.size := Nat.ne_of_lt F.ns.lt
        refine wpAny_assign_Name (wpAny_storeName_local (lookup_relabel_local hy) (hn'.at' fun o e => hk₂ _ o hCk e) (fun h₃ hn₃ hs₃ => ?_) (by simp [compEnvC, relabel, hkind]))
        refine wpAny_Name (wpAny_loadName_local hkind (lookup_relabel_local hy) hn₃ (if_pos rfl) ?_) hd
        have F₂ : Fr h₀ L h₂ m := fr_but F' hk₂ hLk (next_is_new F)
        have F₃ : Fr h₀ L h₃ m := F₂.change hs₃ zC.2.1 zC.2.2
        have N₂ : News h₀ L h₂ ((I, oI) :: (D, lst (ys ++ vs.take j)) :: nw) := news_but N' hk₂ fun p hp => by
          rcases List.mem_cons.mp hp with rfl | hp
          · exact lt _ _ zI.1
          · rcases List.mem_cons.mp hp with rfl | hp
            · exact lt _ _ zD.1
            · exact lt _ _ (N p (.tail _ (.tail _ (.tail _ (.tail _ hp))))).1
        have N₃ : News h₀ L h₃ ((I, oI) :: (D, lst (ys ++ vs.take j)) :: nw) := fun p hp => ⟨hs₃.extBut _ _ (by
          rcases List.mem_cons.mp hp with rfl | hp
          · exact hIC
          · rcases List.mem_cons.mp hp with rfl | hp
            · exact Ne.symm hCD
            · exact (off p hp).1) (N₂ p hp).1, (N₂ p hp).2⟩
        have hst₃ : h₃.IsListIter s.heap.objs.size q (j + 1) ∧ h₃.IsList q vs.toArray := W.frame _ _ _ hst₂ fun b hb o e => hs₃.extBut b o (fun e1 => by
          have e2 : b = C := e1
          subst e2
          rcases List.mem_cons.mp hb with e3 | e3
          · exact lt _ _ zC.1 e3
          · exact hqC (List.mem_singleton.mp e3).symm) e
        have hlen : (ys ++ vs.take j).length ≤ sizeLine := by rw [List.length_append, List.length_take]; omega
        refine append_at (hsz := by rw [List.size_toArray]; exact hlen) (N₃ _ (.tail _ (.head _))).1 fun h₅ hs₅ hD₅ => ?_
        have hv : vs[j]? = some v := by simpa using hPv
        refine ⟨vs.length + 1 - (j + 1), by omega, h₅, _, j + 1, _, rfl, hlt, rfl, W.frame _ _ _ hst₃ fun b hb o e => hs₅.extBut b o (fun e1 => by
          subst e1
          rcases List.mem_cons.mp hb with e3 | e3
          · exact lt _ _ zD.1 e3
          · exact hqD (List.mem_singleton.mp e3).symm) e, F₃.change hs₅ zD.2.1 zD.2.2, hn₃.sameBut hs₅ hCD, fun p hp => ?_⟩
        rcases List.mem_cons.mp hp with rfl | hp
        · exact ⟨hs₅.extBut _ _ hID (N₃ _ (.head _)).1, zI.2⟩
        · rcases List.mem_cons.mp hp with rfl | hp
          · refine ⟨?_, zD.2⟩
            rw [List.take_add_one, hv, Option.toList_some, ← List.append_assoc]
            exact hD₅.trans (congrArg some (lst_snoc _ v))
          · exact ⟨hs₅.extBut _ _ (off p hp).2 (N₃ _ (.tail _ (.tail _ hp))).1, (N₃ _ (.tail _ (.tail _ hp))).2⟩
      · obtain rfl : j = vs.length := by omega
        have st' : h'.IsListIter s.heap.objs.size q vs.toArray.size ∧ h'.IsList q vs.toArray := by rw [List.size_toArray]; exact st
        refine W.done _ _ _ st' fun h₂ tk₂ hk₂ => ?_
        have hCk : C ∉ [s.heap.objs.size] := fun h => lt _ _ zC.1 (List.mem_singleton.mp h)
        rw [List.take_length] at N'
        exact hR h₂ tk₂ m' (fr_but F' hk₂ (Nat.ne_of_lt F.ns.lt) (next_is_new F)) (hn'.at' fun o e => hk₂ _ o hCk e) (news_but N' hk₂ fun p hp => by
          rcases List.mem_cons.mp hp with rfl | hp
          · exact lt _ _ zI.1
          · rcases List.mem_cons.mp hp with rfl | hp
            · exact lt _ _ zD.1
            · exact lt _ _ (N p (.tail _ (.tail _ (.tail _ (.tail _ hp))))).1)
    · rw [List.take_zero, List.append_nil] at hp
      have hp' : p ∈ (q, listOf vs.toArray kq) :: (I, oI) :: (C, oC) :: (D, lst ys) :: nw := by
        rcases List.mem_cons.mp hp with rfl | hp
        · exact .tail _ (.head _)
        · exact .tail _ (.tail _ (.tail _ hp))
      exact ⟨up _ _ (N p hp').1, (N p hp').2⟩
  exact start_inner loop (W.self 0 _ _ _ st0 loop)
def Turn2 (prog : Program) (w : World) (A : Around) (h₀ : Heap) (L : Addr) (m : Str → Option Value) (env : Env) (i1 : PySem.Expr) (x : Str) (scope : Scope) (cl : List (Str × Addr)) (s : Shared) (its : List Value) (kept : Addr × Obj) (J : Nat → List Value → Led → Prop) : Prop :=
  ∀ i v I oI C oC D m₂ ys nw h tk (E' : Value → Shared → Prop), i < its.length → its[i]? = some v → J i ys nw → NsObj oC m₂ → m₂ x = some v → Fr h₀ L h m → News h₀ L h ((I, oI) :: (C, oC) :: (D, lst ys) :: nw) → (∀ p ∈ nw, p.1 ≠ I ∧ p.1 ≠ C ∧ p.1 ≠ D) → ((@Ne Nat I C) ∧ (@Ne Nat I D) ∧ (@Ne Nat C D)) →
      wpAny (model prog w) A (eval i1 (compEnvC scope cl C env)) (fun xv s₃ => ∃ q vs kq h' tk' nw', xv = .ref q ∧ s₃ = { s with heap := h', toks := tk' } ∧ Fr h₀ L h' m ∧ News h₀ L h' ((q, listOf vs.toArray kq) :: (I, oI) :: (C, oC) :: (D, lst ys) :: nw') ∧
        (∀ p ∈ nw', p.1 ≠ I ∧ p.1 ≠ C ∧ p.1 ≠ D) ∧ (@Ne Nat q I ∧ @Ne Nat q C ∧ @Ne Nat q D) ∧ ys.length + vs.length ≤ sizeLine ∧ kept ∈ nw' ∧ J (i + 1) (ys ++ vs) nw') E' { s with heap := h, toks := tk }
def Src2 (prog : Program) (w : World) (A : Around) (h₀ : Heap) (L : Addr) (m : Str → Option Value) (env : Env) (i1 : PySem.Expr) (x : Str) (scope : Scope) (cl : List (Str × Addr)) (Q : Value → Shared → Prop) (xv : Value) (s₁ : Shared) : Prop :=
  ∃ ax its k news J, xv = .ref ax ∧ A.handled = none ∧ Fr h₀ L s₁.heap m ∧ News h₀ L s₁.heap news ∧ (ax, listOf its.toArray k) ∈ news ∧ J 0 [] news ∧
    Turn2 prog w A h₀ L m env i1 x scope cl s₁ its (ax, listOf its.toArray k) J ∧
    ∀ D h tk ys nw, J its.length ys nw → Fr h₀ L h m → News h₀ L h ((D, lst ys) :: nw) → (∀ p ∈ nw, @Ne Nat p.1 D) → Q (.ref D) { s₁ with heap := h, toks := tk }
theorem listcomp_two {Q : Value → Shared → Prop} (_F₀ : Fr h₀ L s.heap m)
    (hclos : closureFor scope env = pure cl) (hcell : ∀ y ∈ scope.names, y.2 ≠ .cell) (hkind : scope.kind = .function)
    (hnames : ∀ y ∈ scope.names, y.2 = .local → scope.names.lookup y.1 = some .local) (hx : scope.names.lookup x = some .local) (hy : scope.names.lookup y = some .local) (hd : (y == ("__debug__" : Str)) = false)
    (hs1 : ∀ C v, foldedSetIterable i1 (compEnvC scope cl C env) v = pure v)
    (h : wpAny (model prog w) A (eval i0 env) (Src2 prog w A h₀ L m env i1 x scope cl Q) E s)
    (hs : ∀ x, foldedSetIterable i0 env x = pure x := by intro _; rfl) :
    wpAny (model prog w) A (eval (two x y px py pe i0 i1 scope pos) env) Q E s := by
  rw [eval_ListComp]
  refine wpAny_comprehension_free (use := none) rfl hs hclos hkind hnames (wpAny_mono h (fun xv s₁ h₁ => ?_) fun _ _ e => e)
  obtain ⟨ax, its, kx, news, J, rfl, hh, F, N, hm, hJ0, turn, fin⟩ := h₁
  have hl : s₁.heap.IsList ax its.toArray := ⟨_, (N _ hm).1, rfl, kx, rfl⟩
  have hlt : ax < s₁.heap.objs.size := Heap.lt_size (N _ hm).1
  refine wpAny_pyIter_list hl ?_
  refine wpAny_newObj_type (wpAny_newFunctionEnv hcell (by intro y hy; simp at hy) (fun h₁ hns₁ hsb₁ => ?_) hkind)
  dsimp only at hns₁ hsb₁ ⊢
  generalize hH1 : s₁.heap.push { cls := .type "list_iterator", data := .fields #[.ref ax, .int 0 0] } = H1 at hns₁ hsb₁ ⊢
  generalize hH2 : H1.push { cls := .type "list", dict := none, data := .seq ([] : List Value).toArray } = H2 at hns₁ hsb₁ ⊢
  have e1 : H1.objs.size = s₁.heap.objs.size + 1 := by rw [← hH1, Heap.size_push]
  have e2 : H2.objs.size = H1.objs.size + 1 := by rw [← hH2, Heap.size_push]
  have up1 : ∀ b o, s₁.heap.get? b = some o → H1.get? b = some o := fun b o e => hH1 ▸ Heap.get?_push_of_some _ e
  have up2 : ∀ b o, H1.get? b = some o → H2.get? b = some o := fun b o e => hH2 ▸ Heap.get?_push_of_some _ e
  have lt1 : ∀ b o, s₁.heap.get? b = some o → b ≠ s₁.heap.objs.size ∧ b ≠ H2.objs.size ∧ b ≠ H1.objs.size := fun b o e => by
    have : @LT.lt Nat instLTNat b s₁.heap.objs.size := Heap.lt_size e
    exact ⟨Nat.ne_of_lt this, by rw [e2, e1]; exact Nat.ne_of_lt (by omega), by rw [e1]; exact Nat.ne_of_lt (by omega)⟩
  have hLlt : @LT.lt Nat instLTNat L s₁.heap.objs.size := F.ns.lt
  have hLI : L ≠ s₁.heap.objs.size := Nat.ne_of_lt hLlt
  have hLC : H2.objs.size ≠ L := by rw [e2, e1]; exact Nat.ne_of_gt (by omega)
  have hLD : H1.objs.size ≠ L := by rw [e1]; exact Nat.ne_of_gt (by omega)
  have hIC : s₁.heap.objs.size ≠ H2.objs.size := by rw [e2, e1]; exact Nat.ne_of_lt (by omega)
  have hID : s₁.heap.objs.size ≠ H1.objs.size := by rw [e1]; exact Nat.ne_of_lt (by omega)
  have hCD : H2.objs.size ≠ H1.objs.size := by rw [e2]; exact Nat.ne_of_gt (by omega)
  have fresh : ∀ a, s₁.heap.objs.size ≤ a → s₁.heap.get? a = none := fun a ha => by
    cases e : s₁.heap.get? a with
    | none => rfl
    | some o' => exact absurd (Heap.lt_size e) (Nat.not_lt.mpr ha)
  have fresh₀ : ∀ a, s₁.heap.objs.size ≤ a → h₀.get? a = none := fun a ha => by
    cases e : h₀.get? a with
    | none => rfl
    | some o' => have := F.keep a o' e; rw [fresh a ha] at this; cases this
  have hI₀ : h₀.get? s₁.heap.objs.size = none := fresh₀ _ (Nat.le_refl _)
  have hD₀ : h₀.get? H1.objs.size = none := fresh₀ _ (by rw [e1]; omega)
  have hC₀ : h₀.get? H2.objs.size = none := fresh₀ _ (by rw [e2, e1]; omega)
  have old : ∀ b o, s₁.heap.get? b = some o → h₁.get? b = some o := fun b o e => hsb₁.extBut b o (lt1 b o e).2.1 (Heap.get?_push_of_some _ (up2 _ _ (up1 _ _ e)))
  have hacc : h₁.get? H1.objs.size = some (lst []) := hsb₁.extBut _ _ (Ne.symm hCD) (Heap.get?_push_of_some _ (hH2 ▸ Heap.get?_push_size _ rfl))
  have hit : h₁.get? s₁.heap.objs.size = some { cls := .type "list_iterator", data := .fields #[.ref ax, .int 0 0] } := hsb₁.extBut _ _ hIC (Heap.get?_push_of_some _ (up2 _ _ (hH1 ▸ Heap.get?_push_size _ rfl)))
  have W := Walks.list (prog := prog) (w := w) (A := A) hh s₁.heap.objs.size ax (lt1 _ _ (N _ hm).1).1 its.toArray
  have hst₁ : h₁.IsListIter s₁.heap.objs.size ax 0 ∧ h₁.IsList ax its.toArray := ⟨⟨_, hit, rfl, rfl⟩, ⟨_, old _ _ (N _ hm).1, rfl, kx, rfl⟩⟩
  have N₁ : News h₀ L h₁ news := fun p hp => ⟨old _ _ (N p hp).1, (N p hp).2⟩
  have loop : ∀ s₃ : Shared, s₃ = { s₁ with heap := h₁, toks := s₁.toks + ([] : List (Str × Value)).length } →
      codeAny (model prog w) A (.compLoop (two x y px py pe i0 i1 scope pos) 0 (.ref s₁.heap.objs.size) (.ref H1.objs.size) (compEnvC scope cl H2.objs.size env))
        (compPost (model prog w) A E none Q (.ref H1.objs.size) H2.objs.size) s₃ := by
    rintro s₃ rfl
    refine loop_outer
      (fun k s' => ∃ h' tk i ys m' nw, s' = { s₁ with heap := h', toks := tk } ∧ i ≤ its.length ∧ k = its.length + 1 - i ∧ (h'.IsListIter s₁.heap.objs.size ax i ∧ h'.IsList ax its.toArray) ∧ Fr h₀ L h' m ∧ h'.Ns H2.objs.size m' ∧
        News h₀ L h' ((H1.objs.size, lst ys) :: nw) ∧ (∀ p ∈ nw, p.1 ≠ s₁.heap.objs.size ∧ p.1 ≠ H2.objs.size ∧ p.1 ≠ H1.objs.size) ∧ J i ys nw) ?_ (its.length + 1)
      ⟨h₁, _, 0, [], _, news, rfl, Nat.zero_le _, rfl, hst₁, F.keeps old, hns₁, fun p hp => ?_, fun p hp => lt1 _ _ (N p hp).1, hJ0⟩ (hs1 _)
    · rintro k s' ⟨h', tk, i, ys, m', nw, rfl, hi, rfl, hst', F', hn', N', off', hJ⟩
      have hCk : H2.objs.size ∉ [s₁.heap.objs.size] := fun h => hIC (List.mem_singleton.mp h).symm
      by_cases hlt' : i < its.length
      · refine W.item i _ _ _ (by simpa using hlt') hst' fun v h₂ tk₂ hPv hst₂ hk₂ => ?_
        refine wpAny_assign_Name (wpAny_storeName_local (lookup_relabel_local hx) (hn'.at' fun o e => hk₂ _ o hCk e) (fun h₃ hn₃ hs₃ => ?_) (by simp [compEnvC, relabel, hkind]))
        have hst₃ : h₃.IsListIter s₁.heap.objs.size ax (i + 1) ∧ h₃.IsList ax its.toArray := W.frame _ _ _ hst₂ fun b hb o e => hs₃.extBut b o (fun q => by
          have q' : b = H2.objs.size := q
          subst q'
          rcases List.mem_cons.mp hb with e3 | e3
          · exact hIC e3.symm
          · exact (lt1 _ _ (N _ hm).1).2.1 (List.mem_singleton.mp e3).symm) e
        obtain ⟨oI, heI, hoI⟩ : ∃ oI, h₃.get? s₁.heap.objs.size = some oI ∧ True := by obtain ⟨o, e, _⟩ := hst₃.1; exact ⟨o, e, trivial⟩
        obtain ⟨oC, heC, hoC⟩ := ns_obj hn₃
        have F₃ : Fr h₀ L h₃ m := (fr_but F' hk₂ hLI hI₀).change hs₃ hLC hC₀
        have N₂ : News h₀ L h₂ ((H1.objs.size, lst ys) :: nw) := news_but N' hk₂ fun p hp => by
          rcases List.mem_cons.mp hp with rfl | hp
          · exact Ne.symm hID
          · exact (off' p hp).1
        have N₃ : News h₀ L h₃ ((s₁.heap.objs.size, oI) :: (H2.objs.size, oC) :: (H1.objs.size, lst ys) :: nw) := fun p hp => by
          rcases List.mem_cons.mp hp with rfl | hp
          · exact ⟨heI, Ne.symm hLI, hI₀⟩
          · rcases List.mem_cons.mp hp with rfl | hp
            · exact ⟨heC, hLC, hC₀⟩
            · have z := N₂ p hp
              refine ⟨hs₃.extBut _ _ ?_ z.1, z.2⟩
              rcases List.mem_cons.mp hp with rfl | hp
              · exact Ne.symm hCD
              · exact (off' p hp).2.1
        refine wpAny_mono (turn i v s₁.heap.objs.size oI H2.objs.size oC H1.objs.size _ ys nw h₃ _ _ hlt' (by simpa using hPv) hJ hoC (by simp) F₃ N₃ off' ⟨hIC, hID, hCD⟩) (fun xv s₄ h₄ => ?_) fun _ _ e => e
        obtain ⟨q, vs, kq, h₄, tk₄, nw', rfl, rfl, F₄, N₄, off₄, ⟨hq1, hq2, hq3⟩, hsz, hkept, hJ'⟩ := h₄
        refine inner_run hh hkind hy hd F₄ N₄ hoC hIC hID hCD hq1 hq2 hq3 (fun p hp => (off₄ p hp).2) hsz fun h₅ tk₅ m₅ F₅ n₅ N₅ => ⟨rfl, its.length + 1 - (i + 1), by omega, h₅, tk₅, i + 1, ys ++ vs, m₅, nw', rfl, hlt', rfl, ⟨?_, ?_⟩, F₅, n₅, news_tail N₅, off₄, hJ'⟩
        · obtain ⟨o, e, r⟩ := hst₃.1
          rw [heI] at e; cases e
          exact ⟨oI, (N₅ _ (.head _)).1, r⟩
        · exact ⟨_, (N₅ _ (.tail _ (.tail _ hkept))).1, rfl, kx, rfl⟩
      · obtain rfl : i = its.length := by omega
        have st' : h'.IsListIter s₁.heap.objs.size ax its.toArray.size ∧ h'.IsList ax its.toArray := by rw [List.size_toArray]; exact hst'
        refine W.done _ _ _ st' fun h₂ tk₂ hk₂ => ?_
        have F₂ := fr_but F' hk₂ hLI hI₀
        have N₂ : News h₀ L h₂ ((H1.objs.size, lst ys) :: nw) := news_but N' hk₂ fun p hp => by
          rcases List.mem_cons.mp hp with rfl | hp
          · exact Ne.symm hID
          · exact (off' p hp).1
        refine ⟨m', hn'.at' fun o e => hk₂ _ o hCk e, fun h'' hs'' => fin H1.objs.size h'' tk₂ ys nw hJ (F₂.change hs'' hLC hC₀) (fun p hp => ?_) fun p hp => (off' p hp).2.2⟩
        refine ⟨hs''.extBut _ _ ?_ (N₂ p hp).1, (N₂ p hp).2⟩
        rcases List.mem_cons.mp hp with rfl | hp
        · exact Ne.symm hCD
        · exact (off' p hp).2.1
    · rcases List.mem_cons.mp hp with rfl | hp
      · exact ⟨hacc, hLD, hD₀⟩
      · exact N₁ p hp
  exact codeAny_compStart_list (loop _ rfl) (W.self 0 _ _ _ hst₁ (loop _ rfl))
theorem src2_of {Q : Value → Shared → Prop} {ax : Addr} {its : List Value} {k : Nat} {news : Led} (K : Nat → List Value → Prop) (hh : A.handled = none) (F : Fr h₀ L s.heap m) (N : News h₀ L s.heap news) (hm : (ax, listOf its.toArray k) ∈ news) (h0 : K 0 [])
    (turn : ∀ i v I oI C oC D m₂ ys h tk (E' : Value → Shared → Prop), i < its.length → its[i]? = some v → K i ys → NsObj oC m₂ → m₂ x = some v → Fr h₀ L h m → News h₀ L h ((I, oI) :: (C, oC) :: (D, lst ys) :: news) → (∀ p ∈ news, p.1 ≠ I ∧ p.1 ≠ C ∧ p.1 ≠ D) → ((@Ne Nat I C) ∧ (@Ne Nat I D) ∧ (@Ne Nat C D)) →
      wpAny (model prog w) A (eval i1 (compEnvC scope cl C env)) (fun xv s₃ => ∃ q vs kq h' tk', xv = .ref q ∧ s₃ = { s with heap := h', toks := tk' } ∧ Fr h₀ L h' m ∧ News h₀ L h' ((q, listOf vs.toArray kq) :: (I, oI) :: (C, oC) :: (D, lst ys) :: news) ∧
        (∀ p ∈ (I, oI) :: (C, oC) :: (D, lst ys) :: news, @LT.lt Nat instLTNat p.1 q) ∧ ys.length + vs.length ≤ sizeLine ∧ K (i + 1) (ys ++ vs)) E' { s with heap := h, toks := tk })
    (fin : ∀ D h tk ys, K its.length ys → Fr h₀ L h m → News h₀ L h ((D, lst ys) :: news) → (∀ p ∈ news, @Ne Nat p.1 D) → Q (.ref D) { s with heap := h, toks := tk }) :
    Src2 prog w A h₀ L m env i1 x scope cl Q (.ref ax) s := by
  refine ⟨ax, its, k, news, fun i ys nw => nw = news ∧ K i ys, rfl, hh, F, N, hm, ⟨rfl, h0⟩, ?_, fun D h tk ys nw hJ F5 N5 off => ?_⟩
  · rintro i v I oI C oC D m₂ ys nw h tk E' hi hv ⟨rfl, hK⟩ hC hx F N off ne
    refine wpAny_mono (turn i v I oI C oC D m₂ ys h tk E' hi hv hK hC hx F N off ne) (fun xv s₃ h₃ => ?_) fun _ _ e => e
    obtain ⟨q, vs, kq, h', tk', rfl, rfl, F', N', hq, hsz, hK'⟩ := h₃
    exact ⟨q, vs, kq, h', tk', nw, rfl, rfl, F', N', off, ⟨Ne.symm (Nat.ne_of_lt (hq _ (.head _))), Ne.symm (Nat.ne_of_lt (hq _ (.tail _ (.head _)))), Ne.symm (Nat.ne_of_lt (hq _ (.tail _ (.tail _ (.head _)))))⟩, hsz, hm, rfl, hK'⟩
  · obtain ⟨rfl, hK⟩ := hJ
    exact fin D h tk ys hK F5 N5 off
end
end
section
local macro_rules | `(tactic| walk_at "call builtin:isinstance") => `(tactic| k_extra "isi")

local macro_rules | `(tactic| k_mem) => `(tactic| exact List.Mem.tail _ (List.Mem.tail _ (List.Mem.tail _ (by assumption))))
local macro_rules | `(tactic| k_mem) => `(tactic| exact List.Mem.tail _ (List.Mem.tail _ (by assumption)))
local macro_rules | `(tactic| k_mem) => `(tactic| exact List.Mem.tail _ (by assumption))

local macro_rules | `(tactic| walk_at "call type:bytes") => `(tactic| (k_here; k_dflt (refine' bytes_arr ?F ?N ?l ?i ?r ?z ?h ?_; (case F => k_asm); (case N => k_asm); (case l => k_mem); (case i => (with_unfolding_all (repeat constructor))); (case r => first | decide +kernel | k_extra "rng"); (case z => (with_unfolding_all exact Nat.le_of_ble_eq_true rfl)); (case h => with_unfolding_all rfl); k_whole); intro h' t' k' F' N'))

local macro_rules | `(tactic| walk_at "call ref") => `(tactic| k_extra "lay")
theorem news_drop2 {h₀ h : Heap} {L : Addr} {x y : Addr × Obj} {l : List (Addr × Obj)} (N : News h₀ L h (x :: y :: l)) : News h₀ L h (x :: l) := fun q hq => N q (by
  rcases List.mem_cons.mp hq with rfl | hq
  · exact .head _
  · exact .tail _ (.tail _ hq))
theorem numref : ∀ n ∈ ([1, 2, 3, 4, 5, 6, 7, 8, 9] : List Int), 0 ≤ 48 + n ∧ 48 + n < 256 ∧ [(48 + n).toNat.toUInt8] = numL n ∧ [48] = numL 0 := by decide +kernel
def PartsSpec (w : World) (d : Nat) : Prop :=
  ∀ {dp un : Nat} {gd : Option (List Code)} {cn : Str} {cs : Scope} {a : Addr} {ccd : Value} {cl : List (Str × Addr)} {outer : List Env} {A₀ : Around} {base h₀ : Heap} {L : Addr} {m : Str → Option Value} {news : List (Addr × Obj)} {s : Shared}
  {Q E : Value → Shared → Prop} {qq : Program} {loose : List Str} {mean : ExcName → Option Value} {mg mb : Str → Option Value}
  {v : Value} {e : Parts} {least : Bool} (uB : Below A₀ base outer h₀) (uF : Fr h₀ L s.heap m) (uX : (KF w.params).In h₀) (uN : News h₀ L s.heap news) (uT : Top qq loose mean mg mb h₀) (uhk : cs.kind = .function)
  (uhI : Is w news d v e) (uhz : (e least).length ≤ 2000) (uhd : dp + 20 * d < 600) (uhu : un + 40 * d < 3000)
  (uret : ∀ r vs k h' tk', Octs vs (e least) → Fr h₀ L h' m → News h₀ L h' ((r, listOf vs.toArray k) :: news) → (∀ q ∈ news, @LT.lt Nat instLTNat q.1 r) → Q (.ref r) { s with heap := h', toks := tk' }),
  wpAny (model PySem.Challenge.rw_og0174_01.row.prog w) (ktrTop dp un gd cn cs L a ccd cl outer) (call (.ref 392) [v, .bool least]) Q E s
theorem isi_none {w : World} {news : List (Addr × Obj)} : Isi w news (.none) (fun _ => false) := by
  intro A E Q s g L m hh F N X c hc h
  revert X
  k_fill
  intro X
  simp only [List.mem_cons, List.not_mem_nil, or_false] at hc
  k_with_none
  rcases hc with rfl | rfl | rfl | rfl | rfl | rfl | rfl | rfl | rfl
  all_goals k_steps
  all_goals (try exact h _)
theorem plain_isi2 {w : World} {news : List (Addr × Obj)} {v : Value} {k : String} {e : Bool → List UInt8} (h : Plain w.params news v k e) : ∃ f, Isi w news v f ∧ f (.type "list") = false ∧ f (.type "dict") = false ∧ f (.ref 251) = false := by
  cases h with
  | null => exact ⟨_, isi_none, rfl, rfl, rfl⟩
  | truth b => exact ⟨_, isi_bool, rfl, rfl, rfl⟩
  | int n tk h => exact ⟨_, isi_int, rfl, rfl, rfl⟩
  | name x dx t a b h1 h2 ht => exact ⟨_, isi_name h1 h2, rfl, rfl, rfl⟩
  | str x dx o h a b c h1 h2 ho => exact ⟨_, isi_str h1 h2, rfl, rfl, rfl⟩

section
variable {w : World} {dp un : Nat} {gd : Option (List Code)} {cn : Str} {cs : Scope} {a : Addr} {ccd : Value} {cl : List (Str × Addr)} {outer : List Env} {A₀ : Around} {base h₀ : Heap} {L : Addr} {m : Str → Option Value} {news : List (Addr × Obj)} {s : Shared}
  {Q E : Value → Shared → Prop} {qq : Program} {loose : List Str} {mean : ExcName → Option Value} {mg mb : Str → Option Value}

theorem lppl_spec {v : Value} {k : String} {e : Bool → List UInt8} {least : Bool} (B : Below A₀ base outer h₀) (F : Fr h₀ L s.heap m) (X : (KF w.params).In h₀) (N : News h₀ L s.heap news) (T : Top qq loose mean mg mb h₀) (hk : cs.kind = .function) (hp : Plain w.params news v k e) (hd : dp < 600) (hu : un < 3000)
  (ret : ∀ r vs k h' tk', Octs vs ([e least]) → Fr h₀ L h' m → News h₀ L h' ((r, listOf vs.toArray k) :: news) → (∀ q ∈ news, @LT.lt Nat instLTNat q.1 r) → Q (.ref r) { s with heap := h', toks := tk' }) :
  wpAny (model PySem.Challenge.rw_og0174_01.row.prog w) (ktrTop dp un gd cn cs L a ccd cl outer) (call (.ref 392) [v, .bool least]) Q E s := by
  revert X
  k_fill
  intro X
  obtain ⟨f, hI, f1, f2, f3⟩ := plain_isi2 hp
  refine' enterC [(Str.ofString "value", v), (Str.ofString "is_least", .bool least)] B F X N T hk ?ho ?hcd (by omega) ?hb ?hl ?hnd ?e1 ?e2 ?e3 ?_
  (case ho => k_is)
  (case hcd => k_is)
  (case hb => exact BindsTo.of_eq rfl)
  (case hl => exact rfl)
  (case hnd => decide +kernel)
  (case e1 => exact rfl)
  (case e2 => exact rfl)
  (case e3 => exact rfl)
  intro g' L' h' tk' cells' FG' F' N' Y' B' X' T' l1
  k_fold
  k_cells Y'
  (try simp only [List.cons_append, List.nil_append] at N')
  have d1 : (by assumption : Obj).data = .cell (some (.bool least)) := by assumption
  k_with "isi" => (
    refine hI _ _ _ _ _ _ _ (by with_unfolding_all rfl) (by assumption) (news_tail (by assumption)) (by assumption) _ (by decide) ?_
    intro tki)
  k_with "lay" => (
    k_dflt (refine laypl_spec (vs := []) (bs := []) (by assumption) (by assumption) (by assumption) (by assumption) (by assumption) rfl (by k_all) .nil (by simp) (plain_mono hp fun q hq => .tail _ hq) (by omega) (by omega) ?_)
    intro vs2 kp2 h2 tk2 ho2 F2 N2)
  k_steps
  all_goals (try k_data)
  all_goals (refine ret _ vs2 _ _ _ (by simpa using ho2) (by assumption) (news_drop2 (by assumption)) (ktn_ltOf (And.right (by assumption))))
theorem lprf_spec {least : Bool} {x dx : Addr} {n : Int} {a1 b1 c1 d1 : Tok} (B : Below A₀ base outer h₀) (F : Fr h₀ L s.heap m) (X : (KF w.params).In h₀) (N : News h₀ L s.heap news) (T : Top qq loose mean mg mb h₀) (hk : cs.kind = .function) (h1 : (x, instObj 251 dx) ∈ news) (h2 : (dx, refO w.params n 0 a1 b1 c1 d1) ∈ news) (hn : n ∈ ([1, 2, 3, 4, 5, 6, 7, 8, 9] : List Int)) (hd : dp < 600) (hu : un < 3000)
  (ret : ∀ r vs k h' tk', Octs vs ([numL n, numL 0, [82]]) → Fr h₀ L h' m → News h₀ L h' ((r, listOf vs.toArray k) :: news) → (∀ q ∈ news, @LT.lt Nat instLTNat q.1 r) → Q (.ref r) { s with heap := h', toks := tk' }) :
  wpAny (model PySem.Challenge.rw_og0174_01.row.prog w) (ktrTop dp un gd cn cs L a ccd cl outer) (call (.ref 392) [.ref x, .bool least]) Q E s := by
  revert X
  k_fill
  intro X
  obtain ⟨f, hI, f1, f2, f3⟩ : ∃ f, Isi w news (.ref x) f ∧ f (.type "list") = false ∧ f (.type "dict") = false ∧ f (.ref 251) = true := ⟨_, isi_ref (w := w) h1 h2, rfl, rfl, rfl⟩
  obtain ⟨hr1, hr2, hr3, hr4⟩ := numref n hn
  refine' enterC [(Str.ofString "value", .ref x), (Str.ofString "is_least", .bool least)] B F X N T hk ?ho ?hcd (by omega) ?hb ?hl ?hnd ?e1 ?e2 ?e3 ?_
  (case ho => k_is)
  (case hcd => k_is)
  (case hb => exact BindsTo.of_eq rfl)
  (case hl => exact rfl)
  (case hnd => decide +kernel)
  (case e1 => exact rfl)
  (case e2 => exact rfl)
  (case e3 => exact rfl)
  intro g' L' h' tk' cells' FG' F' N' Y' B' X' T' l1
  k_fold
  k_cells Y'
  (try simp only [List.cons_append, List.nil_append] at N')
  have d1 : (by assumption : Obj).data = .cell (some (.bool least)) := by assumption
  k_with "isi" => (
    refine hI _ _ _ _ _ _ _ (by with_unfolding_all rfl) (by assumption) (news_tail (by assumption)) (by assumption) _ (by decide) ?_
    intro tki)
  k_steps
  all_goals (try k_data)
  rename_i kF kN _ _
  rw [show (#[(48 + n).toNat.toUInt8] : Array UInt8) = (numL n).toArray from congrArg List.toArray hr3, show (#[48] : Array UInt8) = (numL 0).toArray from congrArg List.toArray hr4] at kN
  exact ret _ [_, _, _] _ _ _ (.cons _ _ (.cons _ _ (.cons [82] _ .nil))) kF (news_drop2 (news_drop2 kN)) (ktn_ltOf (And.right (And.right (by assumption))))

end
end
section
local macro_rules | `(tactic| walk_at "call builtin:isinstance") => `(tactic| k_extra "isi")

local macro_rules | `(tactic| k_mem) => `(tactic| exact List.Mem.tail _ (List.Mem.tail _ (List.Mem.tail _ (by assumption))))
local macro_rules | `(tactic| k_mem) => `(tactic| exact List.Mem.tail _ (List.Mem.tail _ (by assumption)))
local macro_rules | `(tactic| k_mem) => `(tactic| exact List.Mem.tail _ (by assumption))

local macro_rules | `(tactic| walk_at "eval ListComp") => `(tactic| (k_here; k_dflt (refine listcomp_two (_F₀ := by k_asm) (by rfl) (by decide) (by rfl) (by decide) (by rfl) (by rfl) (by rfl) (by intro _ _; rfl) ?_)))

local macro_rules | `(tactic| walk_at "binaryOp Add ref ref") => `(tactic| k_extra "add")
local macro_rules | `(tactic| walk_at "call ref") => `(tactic| k_extra "lay")

section
variable {w : World} {dp un : Nat} {gd : Option (List Code)} {cn : Str} {cs : Scope} {a : Addr} {ccd : Value} {cl : List (Str × Addr)} {outer : List Env} {A₀ : Around} {base h₀ : Heap} {L : Addr} {m : Str → Option Value} {news : List (Addr × Obj)} {s : Shared}
  {Q E : Value → Shared → Prop} {qq : Program} {loose : List Str} {mean : ExcName → Option Value} {mg mb : Str → Option Value}

theorem lparr_spec (d : Nat) (IH : PartsSpec w d) {x : Addr} {us : List Value} {ku : Nat} {es : List Parts} {least : Bool} (B : Below A₀ base outer h₀) (F : Fr h₀ L s.heap m) (X : (KF w.params).In h₀) (N : News h₀ L s.heap news) (T : Top qq loose mean mg mb h₀) (hk : cs.kind = .function) (hx : (x, listOf us.toArray ku) ∈ news) (ha : All2 (Is w news d) us es) (hz : (arrE es least).length ≤ 2000) (hd : dp + 20 * (d + 1) < 600) (hu : un + 40 * (d + 1) < 3000)
  (ret : ∀ r vs k h' tk', Octs vs (arrE es least) → Fr h₀ L h' m → News h₀ L h' ((r, listOf vs.toArray k) :: news) → (∀ q ∈ news, @LT.lt Nat instLTNat q.1 r) → Q (.ref r) { s with heap := h', toks := tk' }) :
  wpAny (model PySem.Challenge.rw_og0174_01.row.prog w) (ktrTop dp un gd cn cs L a ccd cl outer) (call (.ref 392) [.ref x, .bool least]) Q E s := by
  revert X
  k_fill
  intro X
  have hz2 : (es.flatMap (· least)).length + 2 ≤ 2000 := by simpa [arrE] using hz
  obtain ⟨f, hI, f1⟩ : ∃ f, Isi w news (.ref x) f ∧ f (.type "list") = true := ⟨_, isi_list (w := w) hx, rfl⟩
  refine' enterC [(Str.ofString "value", .ref x), (Str.ofString "is_least", .bool least)] B F X N T hk ?ho ?hcd (by omega) ?hb ?hl ?hnd ?e1 ?e2 ?e3 ?_
  (case ho => k_is)
  (case hcd => k_is)
  (case hb => exact BindsTo.of_eq rfl)
  (case hl => exact rfl)
  (case hnd => decide +kernel)
  (case e1 => exact rfl)
  (case e2 => exact rfl)
  (case e3 => exact rfl)
  intro g' L' h' tk' cells' FG' F' N' Y' B' X' T' l1
  k_fold
  k_cells Y'
  (try simp only [List.cons_append, List.nil_append] at N')
  have d1 : (by assumption : Obj).data = .cell (some (.bool least)) := by assumption
  k_with "isi" => (
    refine hI _ _ _ _ _ _ _ (by with_unfolding_all rfl) (by assumption) (news_tail (by assumption)) (by assumption) _ (by decide) ?_
    intro tki)
  k_steps
  all_goals (try k_data)
  refine src2_of (its := us) (fun i ys => ∃ bs, Octs ys bs ∧ bs ++ (es.drop i).flatMap (· least) = es.flatMap (· least)) rfl (by assumption) (by assumption) (.tail _ (.tail _ hx)) ⟨[], .nil, rfl⟩ ?turn ?fin
  case turn =>
    rintro i v I oI C oC D m₂ ys h5 tk5 E' hi hv ⟨bs, hO, hb⟩ hC hx2 F5 N5 off ne
    obtain ⟨fe, hfe, hIs⟩ := ha.get i v hv
    rw [drop_get hfe, List.flatMap_cons] at hb
    have hln := congrArg List.length hb
    simp only [List.length_append] at hln
    have hOl := hO.length
    k_with "lay" => (
      k_dflt (refine IH (e := fe) (by assumption) F5 (by assumption) N5 (by assumption) rfl (Is.mono (fun q hq => .tail _ (.tail _ (.tail _ (.tail _ (.tail _ hq))))) _ _ _ hIs) (by omega) (by omega) (by omega) ?_)
      intro r2 vs2 k2 h2 tk2 O2 F2 N2 lt2
      have O2l := O2.length
      exact ⟨r2, vs2, k2, h2, tk2, rfl, rfl, F2, N2, lt2, by rw [sizeLine_eq]; omega, _, hO.append O2, by rw [← hb]; simp⟩)
    k_steps
  case fin =>
    rintro D h5 tk5 ys ⟨bs, hO, hb⟩ F5 N5 off
    rw [ha.length, List.drop_length, List.flatMap_nil, List.append_nil] at hb
    subst hb
    have hOl := hO.length
    replace N5 := (show News _ _ _ ((D, listOf ys.toArray ys.length) :: _) from N5)
    k_with "add" => (
      k_dflt (refine add_led (by assumption) (by assumption) (by first | exact .tail _ (.head _) | exact .head _) (by first | exact .head _ | exact .tail _ (.head _)) (by simp only [List.length_append, List.length_cons, List.length_nil]; omega) ?_)
      intro D6 h6 F6 N6 l6)
    k_steps
    all_goals (try k_data)
    rename_i kF kN _ _
    exact ret D6 _ _ _ _ ((Octs.cons [91] _ hO).append (Octs.cons [93] _ .nil)) kF (news_drop2 (news_drop2 (news_drop2 (news_drop2 (news_drop2 kN))))) (fun q hq => l6 q (.tail _ (.tail _ (.tail _ (.tail _ (.tail _ hq))))))

end
end
section
local macro_rules | `(tactic| walk_at "call builtin:isinstance") => `(tactic| k_extra "isi")

local macro_rules | `(tactic| k_mem) => `(tactic| exact List.Mem.tail _ (List.Mem.tail _ (List.Mem.tail _ (by assumption))))
local macro_rules | `(tactic| k_mem) => `(tactic| exact List.Mem.tail _ (List.Mem.tail _ (by assumption)))
local macro_rules | `(tactic| k_mem) => `(tactic| exact List.Mem.tail _ (by assumption))

local macro_rules | `(tactic| walk_at "eval Name") => `(tactic| (k_here; k_dflt (refine nameX_L (by k_asm) (by assumption) ?_)))

local macro_rules | `(tactic| walk_at "call ref") => `(tactic| k_extra "lay")
local macro_rules | `(tactic| walk_at "UnrEnd") => `(tactic| k_extra "uend")
local macro_rules | `(tactic| walk_at "exec For Name IfExp cons nil") => `(tactic| k_extra "for")
local macro_rules | `(tactic| walk_at "compareOp IsNot") => `(tactic| (k_here; (with_reducible show wpAny _ _ (compareOp CmpOp.IsNot _ Value.none) _ _ _); refine isnot_none_ne (by assumption) ?_))
local macro_rules | `(tactic| walk_at "call builtin:sorted") => `(tactic| k_extra "sorted")
local macro_rules | `(tactic| walk_at "call type:list") => `(tactic| k_extra "list")
local macro_rules | `(tactic| walk_at "subscriptTail") => `(tactic| k_extra "item")
local macro_rules | `(tactic| walk_at "binaryOp Add ref ref") => `(tactic| k_extra "add")
local macro_rules | `(tactic| walk_at "call ref") => `(tactic| (k_here; (with_reducible show wpAny _ _ (call (Value.ref 180) _) _ _ _); k_dflt (refine' mkname_spec ?B ?F ?X ?N ?T ?hk ?hd ?hu ?_; (case B => k_asm); (case F => k_asm); (case X => k_asm); (case N => k_asm); (case T => k_asm); (case hk => exact rfl); (case hd => omega); (case hu => omega)); intro x1 dx1 ta tb h1 tk1 F1 N1 lt1 lt2))
section
variable {w : World} {dp un : Nat} {gd : Option (List Code)} {cn : Str} {cs : Scope} {a : Addr} {ccd : Value} {cl : List (Str × Addr)} {outer : List Env} {A₀ : Around} {base h₀ : Heap} {L : Addr} {m : Str → Option Value} {news : List (Addr × Obj)} {s : Shared}
  {Q E : Value → Shared → Prop} {qq : Program} {loose : List Str} {mean : ExcName → Option Value} {mg mb : Str → Option Value}

theorem lpdict_spec (d : Nat) (IH : PartsSpec w d) {x : Addr} {o : Obj} {kvs : List (Str × Value)} {n : Nat} {g : Str → Parts} {least : Bool} (B : Below A₀ base outer h₀) (F : Fr h₀ L s.heap m) (X : (KF w.params).In h₀) (N : News h₀ L s.heap news) (T : Top qq loose mean mg mb h₀) (hk : cs.kind = .function)
  (hx : (x, o) ∈ news) (hdo : o.IsDictOf (strKind PySem.Challenge.rw_og0174_01.row.prog w) kvs) (lo : (x == sysModules) = false) (hn : n ≤ 4) (hkv : kvs.map (·.1) = dkeys.take n)
  (hg : ∀ k ∈ dkeys.take n, ∃ u, valueAt kvs k = some u ∧ ((u = .none ∧ g k = fun _ => []) ∨ (u ≠ .none ∧ ∃ f, Is w news d u f ∧ g k = fun b => nameL k :: f b)))
  (hz : (dictE n g least).length ≤ 2000) (hd : dp + 20 * (d + 1) < 600) (hu : un + 40 * (d + 1) < 3000)
  (ret : ∀ r vs k h' tk', Octs vs (dictE n g least) → Fr h₀ L h' m → News h₀ L h' ((r, listOf vs.toArray k) :: news) → (∀ q ∈ news, @LT.lt Nat instLTNat q.1 r) → Q (.ref r) { s with heap := h', toks := tk' }) :
  wpAny (model PySem.Challenge.rw_og0174_01.row.prog w) (ktrTop dp un gd cn cs L a ccd cl outer) (call (.ref 392) [.ref x, .bool least]) Q E s := by
  revert X
  k_fill
  intro X
  have hz2 : ((dorder n least).flatMap (fun k => g k least)).length + 2 ≤ 2000 := by simpa [dictE] using hz
  have hcls : o.cls = .type "dict" := by obtain ⟨_, _, h9, _⟩ := hdo; exact h9.1
  obtain ⟨f, hI, f1, f2⟩ : ∃ f, Isi w news (.ref x) f ∧ f (.type "list") = false ∧ f (.type "dict") = true := ⟨_, isi_dict (w := w) hx hcls, rfl, rfl⟩
  refine' enterC [(Str.ofString "value", .ref x), (Str.ofString "is_least", .bool least)] B F X N T hk ?ho ?hcd (by omega) ?hb ?hl ?hnd ?e1 ?e2 ?e3 ?_
  (case ho => k_is)
  (case hcd => k_is)
  (case hb => exact BindsTo.of_eq rfl)
  (case hl => exact rfl)
  (case hnd => decide +kernel)
  (case e1 => exact rfl)
  (case e2 => exact rfl)
  (case e3 => exact rfl)
  intro g' L' h' tk' cells' FG' F' N' Y' B' X' T' l1
  k_fold
  k_cells Y'
  (try simp only [List.cons_append, List.nil_append] at N')
  have d1 : (by assumption : Obj).data = .cell (some (.bool least)) := by assumption
  k_with "isi" => (
    refine hI _ _ _ _ _ _ _ (by with_unfolding_all rfl) (by assumption) (news_tail (by assumption)) (by assumption) _ (by decide) ?_
    intro tki)
  k_with "for" => (
    rename Fr g' L' _ _ => F9
    rename News g' L' _ _ => N9
    with_unfolding_all refine' For_invVF F9 ?k1 ?k2 ?_
    case k1 => exact rfl
    case k2 => exact rfl
    k_dflt (refine keysrc (prog := PySem.Challenge.rw_og0174_01.row.prog) (w := w) (keys := dorder n least) F9 N9 ?_ ?_))
  k_with "sorted" => (
    k_dflt (refine sorted_dict rfl F9 N9 (.tail _ (.tail _ hx)) hdo lo hn hkv ?_)
    intro D vsk ck h5 tk5 hS F5 N5 l5)
  k_with "list" => (
    k_dflt (refine list_dict rfl F9 N9 (.tail _ (.tail _ hx)) hdo lo hn hkv ?_)
    intro D vsk ck h5 tk5 hS F5 N5 l5)
  k_steps
  · have el : least = true := by assumption
    exact ⟨D, h5, tk5, [(D, listOf vsk.toArray ck)], rfl, rfl, F5, news_sub N5 swap2, .inl ⟨vsk, ck, .head _, by rw [el]; exact hS⟩, fun q hq => by rw [List.mem_singleton.mp hq]; exact Ne.symm (Nat.ne_of_lt (l5 _ (.head _)))⟩
  · have el : least = false := by assumption
    exact ⟨D, h5, tk5, [(D, listOf vsk.toArray ck)], rfl, rfl, F5, news_sub N5 swap2, .inl ⟨vsk, ck, .head _, by rw [el]; exact hS⟩, fun q hq => by rw [List.mem_singleton.mp hq]; exact Ne.symm (Nat.ne_of_lt (l5 _ (.head _)))⟩
  · rename_i xv s1 hsrc
    obtain ⟨D, h5, tk5, nw2, rfl, rfl, F5, N5, hkeys, hne⟩ := hsrc
    clear F9 N9
    obtain ⟨T, hT⟩ : ∃ T, T = nw2 ++ (L' + 1, (by assumption : Obj)) :: news := ⟨_, rfl⟩
    rw [← hT] at N5 hkeys
    have hTm : ∀ q ∈ news, q ∈ T := fun q hq => by rw [hT]; exact List.mem_append.mpr (.inr (.tail _ hq))
    have hTc : (L' + 1, (by assumption : Obj)) ∈ T := by rw [hT]; exact List.mem_append.mpr (.inr (.head _))
    have hord := dorder_sub hn least
    clear hT hne
    refine iter_keysInv (fun l m1 nw => ∃ f1 fs1 kf bs1, nw = (f1, listOf fs1.toArray kf) :: T ∧ Octs fs1 bs1 ∧ (∀ k ∈ l, k ∈ dkeys.take n) ∧ bs1 ++ l.flatMap (fun k => g k least) = [[60, 60]] ++ (dorder n least).flatMap (fun k => g k least) ∧ m1 (Str.ofString "found") = some (.ref f1) ∧ m1 (Str.ofString "value") = some (.ref x))
      (nwk := T) hkeys rfl F5 N5 ?a ?k ?b ?c
    case a => exact ⟨_, _, _, _, rfl, .cons [60, 60] _ .nil, hord, rfl, rfl, rfl⟩
    case k =>
      rintro l m1 nw ⟨f1, fs1, kf, bs1, rfl, _⟩
      exact fun q hq => .tail _ hq
    case b =>
      rintro k r m1 nw I it u h1 tk1 ⟨f1, fs1, kf, bs1, rfl, ho1, hk1, he1, hm1, hm2⟩ off F1 N1
      have hofI := off _ (.head _)
      have offn := fun q hq => off q (.tail _ hq)
      dsimp only [envOfC] at F1 N1 hofI
      dsimp only
      obtain ⟨v, hv, hcase⟩ := hg k (hk1 k (.head _))
      have hpk := dkeys_plain k (List.mem_of_mem_take (hk1 k (.head _)))
      have hx' : (x, o) ∈ T := hTm _ hx
      have hln := congrArg List.length he1
      have hl1 := ho1.length
      simp only [List.flatMap_cons, List.length_append, List.length_cons, List.length_nil] at he1 hln
      k_with "item" => (k_dflt (refine kda_item (by assumption) (by first | exact .tail _ (.tail _ hx') | exact .tail _ (.tail _ (.tail _ (.tail _ (.tail _ (.tail _ hx')))))) hdo (strKind_is _ _ _ _) hv ?_))
      have fin : ∀ (s1 : Shared) f2 fs2 kf2 h2 tk2 m2, Fr g' L' h2 m2 → News g' L' h2 ((I, it) :: (f2, listOf fs2.toArray kf2) :: T) → @Ne Nat f2 I → m2 (Str.ofString "found") = some (.ref f2) → m2 (Str.ofString "value") = some (.ref x) → Octs fs2 (bs1 ++ g k least) →
          UnrEnd g' L' s1 I it (fun m1 nw => ∃ f1 fs1 kf bs1, nw = (f1, listOf fs1.toArray kf) :: T ∧ Octs fs1 bs1 ∧ (∀ k ∈ r, k ∈ dkeys.take n) ∧ bs1 ++ r.flatMap (fun k => g k least) = [[60, 60]] ++ (dorder n least).flatMap (fun k => g k least) ∧ m1 (Str.ofString "found") = some (.ref f1) ∧ m1 (Str.ofString "value") = some (.ref x)) { s1 with heap := h2, toks := tk2 } := by
        intro s1 f2 fs2 kf2 h2 tk2 m2 F2 N2 hfI e1 e2 ho2
        exact UnrEnd.intro F2 N2 ((f2, listOf fs2.toArray kf2) :: T) (fun q hq => hq) (List.forall_mem_cons.mpr ⟨hfI, offn⟩) ⟨f2, fs2, kf2, _, rfl, ho2, fun k hk => hk1 k (.tail _ hk), by rw [← he1]; simp, e1, e2⟩
      rcases hcase with ⟨rfl, hgk⟩ | ⟨hvn, fe, hf, hgk⟩
      · rw [hgk] at fin
        k_with "uend" => (k_dflt (exact fin _ f1 fs1 kf _ _ _ F1 N1 hofI hm1 hm2 (by simpa using ho1)))
        k_steps
      · rw [hgk] at hln fin
        k_with "lay" => (
          k_dflt (refine IH (e := fe) (by assumption) (by assumption) (by assumption) (by assumption) (by assumption) rfl (Is.mono (fun q hq => .tail _ (.tail _ (.tail _ (.tail _ (.tail _ (.tail _ (hTm q hq))))))) _ _ _ hf) (by simp only [List.length_cons] at hln; omega) (by omega) (by omega) ?_)
          intro r2 vs2 k2 h2 tk2 O2 F2 N2 lt2
          have O2l := O2.length)
        k_with "lay" => (
          k_dflt (refine lppl_spec (by assumption) (by assumption) (by assumption) (by assumption) (by assumption) rfl (.name _ _ k _ _ (.head _) (.tail _ (.head _)) hpk) (by omega) (by omega) ?_)
          intro r3 vs3 k3 h3 tk3 O3 F3 N3 lt3
          have O3l := O3.length
          simp only [List.length_cons, List.length_nil] at O3l)
        k_with "add" => (
          k_dflt (refine add_led (by assumption) (by assumption) (by k_mem) (by k_mem) (by simp only [List.length_append, List.length_cons, List.length_nil] at *; omega) ?_)
          intro D6 h6 F6 N6 l6)
        k_steps
        rename News g' L' _ _ => N9
        rename Fr g' L' _ _ => F9
        refine fin _ D6 (fs1 ++ vs3 ++ vs2) 0 _ _ _ F9 (news_sub N9 fun q hq => ?_) (Ne.symm (Nat.ne_of_lt (l6 (I, it) (.tail _ (.tail _ (.tail _ (.tail _ (.tail _ (.head _))))))))) rfl hm2 (by simpa using (ho1.append O3).append O2)
        rcases List.mem_cons.mp hq with rfl | hq
        · exact .tail _ (.tail _ (.tail _ (.tail _ (.tail _ (.tail _ (.head _))))))
        · rcases List.mem_cons.mp hq with rfl | hq
          · exact .head _
          · exact .tail _ (.tail _ (.tail _ (.tail _ (.tail _ (.tail _ (.tail _ (.tail _ hq)))))))
    case c =>
      rintro m1 nw h1 tk1 ⟨f1, fs1, kf, bs1, rfl, ho1, hk1, he1, hm1, hm2⟩ F1 N1
      dsimp only [envOfC] at F1 N1
      dsimp only
      simp only [List.flatMap_nil, List.append_nil] at he1
      have hl1 := ho1.length
      have hln := congrArg List.length he1
      simp only [List.length_append, List.length_cons, List.length_nil] at hln
      k_with "add" => (
        k_dflt (refine add_led (by assumption) (by assumption) (by k_mem) (by k_mem) (by simp only [List.length_append, List.length_cons, List.length_nil]; omega) ?_)
        intro D6 h6 F6 N6 l6)
      k_steps
      all_goals (try k_data)
      rename_i kF kN _ _
      have kN2 : News h₀ L _ ((D6, listOf (fs1 ++ [Value.bytes ([62, 62] : List UInt8).toArray tk1]).toArray 0) :: news) := news_sub kN (fun q hq => (List.mem_cons.mp hq).elim (fun e => e ▸ .head _) (fun h => .tail _ (.tail _ (.tail _ (hTm q h)))))
      have hO := ho1.snoc [62, 62] tk1
      rw [he1] at hO
      exact ret D6 _ _ _ _ hO kF kN2 (fun q hq => l6 q (.tail _ (.tail _ (hTm q hq))))

end
end
section
theorem parts_all (w : World) : ∀ d, PartsSpec w d := by
  intro d
  induction d with
  | zero =>
    intro dp un gd cn cs a ccd cl outer A₀ base h₀ L m news s Q E qq loose mean mg mb v e least B F X N T hk hI hz hd hu ret
    cases hI with
    | plain v k e h => exact lppl_spec B F X N T hk h (by omega) (by omega) ret
    | ref x dx n a b c d h1 h2 hn => exact lprf_spec B F X N T hk h1 h2 hn (by omega) (by omega) ret
  | succ d IH =>
    intro dp un gd cn cs a ccd cl outer A₀ base h₀ L m news s Q E qq loose mean mg mb v e least B F X N T hk hI hz hd hu ret
    rcases hI with hI | ⟨x, us, k, es, rfl, hx, hl, ha, rfl⟩ | ⟨x, o, kvs, n, g, rfl, hx, hdo, lo, hn, hkv, hg, rfl⟩
    · cases hI with
      | plain v k e h => exact lppl_spec B F X N T hk h (by omega) (by omega) ret
      | ref x dx n a b c d h1 h2 hn => exact lprf_spec B F X N T hk h1 h2 hn (by omega) (by omega) ret
    · exact lparr_spec d IH B F X N T hk hx ha hz hd hu ret
    · exact lpdict_spec d IH B F X N T hk hx hdo lo hn hkv hg hz hd hu ret
end
section
def sepB (least : Bool) (a b : List UInt8) : Bool := !least || rtB a b
def tailO (least : Bool) : List UInt8 → List (List UInt8) → List UInt8
  | _, [] => []
  | p, b :: bs => (if sepB least p b then [32] else []) ++ (b ++ tailO least b bs)
theorem tail_glue : ∀ (bs : List (List UInt8)) (p : List UInt8), (glue p bs).flatten = tailO true p bs := by
  intro bs
  induction bs with
  | nil => intro p; rfl
  | cons b bs ih =>
    intro p
    simp only [glue, tailO, sepB, Bool.not_true, Bool.false_or, List.flatten_append, List.flatten_cons, ih b]
    cases rtB p b <;> simp
theorem tail_join : ∀ (bs : List (List UInt8)) (p : List UInt8), bs.flatMap ([32] ++ ·) = tailO false p bs := by
  intro bs
  induction bs with
  | nil => intro p; rfl
  | cons b bs ih =>
    intro p
    simp only [List.flatMap_cons, tailO, sepB, Bool.not_false, Bool.true_or, if_true, ih b, List.append_assoc]
theorem joinOut_eq (least : Bool) (b : List UInt8) (bs : List (List UInt8)) : joinOut least (b :: bs) = b ++ tailO least b bs := by
  cases least
  · show joinL [32] (b :: bs) = _
    rw [joinL, tail_join bs b]
  · show (b :: glue b bs).flatten = _
    rw [List.flatten_cons, tail_glue]
def remO (least : Bool) (bs : List (List UInt8)) : Nat → List UInt8
  | 0 => joinOut least bs
  | i + 1 => tailO least (bs.getD i []) (bs.drop (i + 1))
theorem rem_zero {least : Bool} {bs : List (List UInt8)} {b : List UInt8} (h : bs[0]? = some b) : remO least bs 0 = b ++ remO least bs 1 := by
  cases bs with
  | nil => simp at h
  | cons c cs =>
    have e : c = b := by simpa using h
    subst e
    exact joinOut_eq least c cs
theorem rem_succ {least : Bool} {bs : List (List UInt8)} {i : Nat} {a b : List UInt8} (ha : bs[i]? = some a) (hb : bs[i + 1]? = some b) :
    remO least bs (i + 1) = (if sepB least a b then [32] else []) ++ (b ++ remO least bs (i + 2)) := by
  show tailO least (bs.getD i []) (bs.drop (i + 1)) = _
  rw [getD_of ha, drop_get hb]
  show (if sepB least a b then [32] else []) ++ (b ++ tailO least b (bs.drop (i + 2))) = _
  show _ = (if sepB least a b then [32] else []) ++ (b ++ tailO least (bs.getD (i + 1) []) (bs.drop (i + 1 + 1)))
  rw [getD_of hb]
theorem rem_end {least : Bool} {bs : List (List UInt8)} (h : 0 < bs.length) : remO least bs bs.length = [] := by
  obtain ⟨n, hn⟩ : ∃ n, bs.length = n + 1 := ⟨bs.length - 1, by omega⟩
  rw [hn]
  show tailO least (bs.getD n []) (bs.drop (n + 1)) = []
  rw [List.drop_of_length_le (by omega)]
  rfl
theorem tail_len (least : Bool) : ∀ (bs : List (List UInt8)) (p : List UInt8), (∀ b ∈ bs, b.length ≤ 100) → (tailO least p bs).length ≤ 101 * bs.length := by
  intro bs
  induction bs with
  | nil => intro p _; simp [tailO]
  | cons b bs ih =>
    intro p h
    have h1 := ih b fun x hx => h x (.tail _ hx)
    have h2 := h b (.head _)
    have h3 : (if sepB least p b then [32] else ([] : List UInt8)).length ≤ 1 := by split <;> simp
    simp only [tailO, List.length_append, List.length_cons]
    omega
theorem joinOut_len {least : Bool} {bs : List (List UInt8)} (h : ∀ b ∈ bs, b.length ≤ 100) (hn : bs.length ≤ 500) : (joinOut least bs).length ≤ 1000000 := by
  cases bs with
  | nil => cases least <;> simp [joinOut, joinL]
  | cons b bs =>
    have h1 := tail_len least bs b fun x hx => h x (.tail _ hx)
    have h2 := h b (.head _)
    simp only [List.length_cons] at hn
    rw [joinOut_eq, List.length_append]
    omega
end
section
local macro_rules | `(tactic| k_mem) => `(tactic| exact List.Mem.tail _ (List.Mem.tail _ (List.Mem.tail _ (by assumption))))
local macro_rules | `(tactic| k_mem) => `(tactic| exact List.Mem.tail _ (List.Mem.tail _ (by assumption)))
local macro_rules | `(tactic| k_mem) => `(tactic| exact List.Mem.tail _ (by assumption))

local macro_rules | `(tactic| walk_at "call ref") => `(tactic| k_extra "call")
local macro_rules | `(tactic| walk_at "subscriptTail") => `(tactic| k_extra "item")
local macro_rules | `(tactic| walk_at "compareOp NotEq ref ref") => `(tactic| k_extra "neq")
local macro_rules | `(tactic| walk_at "call type:enumerate") => `(tactic| (k_here; k_dflt (refine stop_intro ?_)))
local macro_rules | `(tactic| walk_at "UnrEndW") => `(tactic| (k_dflt (refine stop_intro ?_)))
local macro_rules | `(tactic| walk_at "exec For Tuple Call cons nil") => `(tactic| (k_here; (rename Fr _ _ _ _ => lF'); (with_unfolding_all refine' For_turns lF' ?_); k_whole))
local macro_rules | `(tactic| walk_at "eval Call") => `(tactic| (k_here; k_dflt (refine Call_ ?_)))
local macro_rules | `(tactic| walk_at "eval Name") => `(tactic| (k_here; k_dflt (refine' ld ?k1 ?k2 ?_; (case k1 => k_asm); (case k2 => assumption); k_whole)))
theorem at_is {z z' : Int} {t : Tok} (h : z = z') : some (Value.int z t) = some (Value.int z' t) := h ▸ rfl
theorem item_known {prog : Program} {w : World} {A : Around} {E : Value → Shared → Prop} {s : Shared} {value slice : PySem.Expr} {l : Addr} {vs : List Value} {bs : List (List UInt8)} {k : Int} {c : Nat} {u : Tok} {b : List UInt8} {Q : Value → Shared → Prop} (i : Nat) (hl : s.heap.get? l = some (listOf vs.toArray c)) (ho : Octs vs bs) (hk : k = (i : Int)) (hb : bs[i]? = some b) (hz : bs.length ≤ 3000)
    (h : ∀ t, Q (.bytes b.toArray t) s) (hs : subscripted slice false (.ref l) (.int k u) = operate [.ref l, .int k u] (getItem (.ref l) (.int k u)) := by with_unfolding_all rfl) :
    wpAny (model prog w) A (subscriptTail value slice (.ref l) (.int k u)) Q E s := by
  have hle := ho.length
  subst hk
  have hlt : i < bs.length := by
    rcases Nat.lt_or_ge i bs.length with h1 | h1
    · exact h1
    · rw [List.getElem?_eq_none h1] at hb; cases hb
  refine item_octs hl ho (by omega) (by omega) (by omega) (fun t => ?_) hs
  rw [Int.toNat_natCast, getD_of hb]
  exact h t

section
variable {w : World} {dp un : Nat} {gd : Option (List Code)} {cn : Str} {cs : Scope} {a : Addr} {ccd : Value} {cl : List (Str × Addr)} {outer : List Env} {A₀ : Around} {base h₀ : Heap} {L : Addr} {m : Str → Option Value} {news : List (Addr × Obj)} {s : Shared}
  {Q E : Value → Shared → Prop} {qq : Program} {loose : List Str} {mean : ExcName → Option Value} {mg mb : Str → Option Value}

theorem one_is {a0 b0 : List UInt8} {ta tb : Tok} {r : Bool} (B : Below A₀ base outer h₀) (F : Fr h₀ L s.heap m) (X : (KF w.params).In h₀) (N : News h₀ L s.heap news) (T : Top qq loose mean mg mb h₀) (hk : cs.kind = .function) (ha : goodP a0) (hb : goodP b0) (hr : rtB a0 b0 = r) (hd : dp < 750) (hu : un < 6000)
  (ret : ∀ h' tk', Fr h₀ L h' m → News h₀ L h' news → Q (.bool r) { s with heap := h', toks := tk' }) :
  wpAny (model PySem.Challenge.rw_og0174_01.row.prog w) (ktrTop dp un gd cn cs L a ccd cl outer) (call (.ref 397) [.bytes a0.toArray ta, .bytes b0.toArray tb]) Q E s :=
  isone_spec B F X N T hk ha.1 hb.1 ha.2.1 hb.2.1 hd hu (by rw [rt_one ha hb, hr]; exact ret)
theorem run_is {a0 b0 : List UInt8} {ta tb : Tok} {r : Bool} (B : Below A₀ base outer h₀) (F : Fr h₀ L s.heap m) (X : (KF w.params).In h₀) (N : News h₀ L s.heap news) (T : Top qq loose mean mg mb h₀) (hk : cs.kind = .function) (ha : goodP a0) (hb : goodP b0) (hr : rtB a0 b0 = r) (hd : dp < 750) (hu : un < 6000)
  (ret : ∀ h' tk', Fr h₀ L h' m → News h₀ L h' news → Q (.bool r) { s with heap := h', toks := tk' }) :
  wpAny (model PySem.Challenge.rw_og0174_01.row.prog w) (ktrTop dp un gd cn cs L a ccd cl outer) (call (.ref 356) [.bytes a0.toArray ta, .bytes b0.toArray tb]) Q E s :=
  run_spec B F X N T hk ha.1 hb.1 ha.2.1 hb.2.1 hd hu (by rw [hr]; exact ret)
theorem law_body {Q : Flow → Shared → Prop} {x : Addr} {us : List Value} {ks : List Int} (B : Below A₀ base outer h₀) (F : Fr h₀ L s.heap (fun y => ([(Str.ofString "script", Value.ref x)]).reverse.lookup y)) (X : (KF w.params).In h₀) (N : News h₀ L s.heap []) (T : Top qq loose mean mg mb h₀)
  (hx : h₀.IsList x us.toArray) (hi : IntsAre us ks) (hl : us.length ≤ 63) (hd : dp < 400) (hu : un < 2000)
  (ret : ∀ h' tk' m', Fr h₀ L h' m' → Q (.ret (.bool true)) { s with heap := h', toks := tk' }) :
  wpAny (model PySem.Challenge.rw_og0174_01.row.prog w) (ktrTop dp un gd (Str.ofString "law") (fS (stp 46)) L a ccd [] outer) (execs (fB (stp 46)) (envOf (Str.ofString "law") (fS (stp 46)) L a ccd)) Q (fun _ _ => False) s := by
  revert X
  k_fill
  intro X
  refine' body_of ?ho ?_
  (case ho => k_is)
  try k_fold
  have hx2 : s.heap.IsList x us.toArray := hx.at fun o e => F.keep _ _ e
  k_with "call" => (k_dflt (first
    | (refine pen_spec (by assumption) (by assumption) (by assumption) (by assumption) (by assumption) rfl hx hi hl (by omega) (by omega) ?_
       intro p c vs ns kp kc tn tr h1 tk1 F1 N1 hi1 hl1 hp1 hc1 hpc)
    | (refine obj_all w 3 (news := []) (by assumption) (by assumption) (by assumption) (by assumption) (by assumption) rfl hpc hp1 hc1 hi1 hl1 (by omega) (by omega) ?_
       intro v e nw n2 r2 tn2 tr2 kp2 kc2 vs2 ns2 h2 tk2 hIs F2 N2 hnw hi2 hl2)))
  k_steps
  all_goals (try k_data)
  rename_i D _ kF kN kL
  have lD : ∀ q ∈ nw, @Ne Nat q.1 D := fun q hq => Nat.ne_of_lt (ktn_ltOf kL.2.2 q (List.mem_append_left _ hq))
  have fine := fine_is 3 v e hIs
  refine tup_inv (lo := { cls := .type "tuple", data := .seq #[.bool true, .bool false] 0 }) (vs := [.bool true, .bool false]) (k := 0) (fun l m1 nw1 => (∀ u ∈ l, ∃ b, u = Value.bool b) ∧ nw1 = (D, { cls := .type "tuple", data := .seq #[.bool true, .bool false] 0 }) :: nw ∧ m1 (Str.ofString "value") = some v) rfl kF
    (news_sub (l' := (D, { cls := .type "tuple", data := .seq #[.bool true, .bool false] 0 }) :: nw) kN (fun q hq => by
      rcases List.mem_cons.mp hq with rfl | hq
      · exact .head _
      · exact .tail _ (.tail _ (.tail _ (List.mem_append_left _ hq))))) rfl rfl ?ha ?hk ?turn ?done
  case ha =>
    refine ⟨?_, rfl, rfl⟩
    intro u hu
    simp only [List.mem_cons, List.not_mem_nil, or_false] at hu
    rcases hu with rfl | rfl
    · exact ⟨_, rfl⟩
    · exact ⟨_, rfl⟩
  case hk =>
    rintro l m1 nw1 ⟨_, rfl, _⟩
    exact .head _
  case done =>
    rintro m1 nw1 h3 tk3 ⟨_, rfl, hm⟩ F3 N3
    dsimp only [envOf] at F3 N3
    dsimp only
    k_steps
    all_goals (try k_data)
    all_goals (exact ret _ _ _ (by assumption))
  case turn =>
    rintro u r I oi m1 nw1 h3 tk3 ⟨hb, rfl, hm⟩ off F3 N3
    obtain ⟨least, rfl⟩ := hb u (.head _)
    have offI := off _ (.head _)
    have offn := fun q hq => off q (.tail _ hq)
    dsimp only [envOf] at F3 N3
    dsimp only
    obtain ⟨gd1, gd2, gd3⟩ := fine least
    have gd4 : (e least).length ≤ 318 := gd3
    k_with "call" => (k_dflt (first
      | (refine lay_all w 3 (vs := []) (bs := []) (e := e) (by assumption) (by assumption) (by assumption) (by assumption) (by assumption) rfl (by k_all) .nil (Is.mono (fun q hq => .tail _ (.tail _ hq)) _ _ _ hIs) (by simp; omega) (by omega) (by omega) ?_
         intro vsP kpP h4 tk4 oP F4 N4
         rw [List.nil_append] at oP)
      | (refine parts_all w 3 (e := e) (by assumption) (by assumption) (by assumption) (by assumption) (by assumption) rfl (Is.mono (fun q hq => .tail _ (.tail _ (.tail _ hq))) _ _ _ hIs) (by omega) (by omega) (by omega) ?_
         intro rQ vsQ kQ h5 tk5 oQ F5 N5 lQ)
      | (refine joinp_spec (bs := e least) (by assumption) (by assumption) (by assumption) (by assumption) (by assumption) rfl (by k_mem) oP (by omega) (by omega) (fun b hb => ⟨(gd1 b hb).1, (gd1 b hb).2.1⟩) (by omega) (by omega) ?_
         intro tJ h6 tk6 F6 N6)))
    k_with "neq" => (k_dflt (refine ne_octs (News.get (by assumption) (by k_mem)) (News.get (by assumption) (by k_mem)) oP oQ (by first | omega | ktr_units) ?_))
    k_steps
    all_goals (try k_data)
    unfold Stop
    rename_i pp _ kL2 _ _ D2 _ kL3 _ _ _ kF3 kN3
    have oPl := oP.length
    have hX : (joinOut least (e least)).length ≤ 1000000 := joinOut_len (fun b hb => (gd1 b hb).2.1) (by omega)
    obtain ⟨X0, hX0⟩ : ∃ X0, X0 = joinOut least (e least) := ⟨_, rfl⟩
    rw [← hX0] at kF3 hX
    refine enum_inv (k := kpP) (vs := vsP) (fun i m2 nw2 => nw2 = (pp, listOf vsP.toArray kpP) :: (I, oi) :: (D, { cls := .type "tuple", data := .seq #[.bool true, .bool false] 0 }) :: nw ∧ ∃ pre t, X0 = pre ++ remO least (e least) i ∧ m2 (Str.ofString "at") = some (.int ((pre.length : Nat) : Int) t) ∧ m2 (Str.ofString "octets") = some (.bytes X0.toArray tJ) ∧ m2 (Str.ofString "parts") = some (.ref pp) ∧ m2 (Str.ofString "is_least") = some (.bool least) ∧ m2 (Str.ofString "value") = some v) rfl kF3 (news_tail (news_tail kN3)) ?ea ?ek ?eturn ?edone
    case ea => exact ⟨rfl, [], _, hX0, rfl, rfl, rfl, rfl, hm⟩
    case ek =>
      rintro i m2 nw2 ⟨rfl, _⟩
      exact .head _
    case edone =>
      rintro m2 nw2 h7 tk7 ⟨rfl, pre, t7, hpre, m2a, m2b, m2c, m2d, m2e⟩ F7 N7
      rw [oPl, rem_end gd2, List.append_nil] at hpre
      subst hpre
      dsimp only [envOf] at F7 N7
      dsimp only
      k_steps
      all_goals (try k_data)
      · exact absurd (show ((X0.length : Nat) : Int) = ((X0.toArray.size : Nat) : Int) by simp) (by assumption)
      · unfold Stop
        exact ⟨_, _, _, _, rfl, F7, news_tail N7, fun q hq z hz => by rw [List.mem_singleton.mp hz]; exact off q hq, fun u hu => hb u (.tail _ hu), rfl, m2e⟩
    case eturn =>
      rintro i u7 I7 oe7 oi7 T7 t7 m2 nw2 h7 tk7 hu7 ⟨rfl, pre, t8, hpre, m2a, m2b, m2c, m2d, m2e⟩ off7 hT7 F7 N7
      have hi7 : i < vsP.length := by
        rcases Nat.lt_or_ge i vsP.length with h1 | h1
        · exact h1
        · rw [List.getElem?_eq_none h1] at hu7; cases hu7
      obtain ⟨b, hbb⟩ : ∃ b, (e least)[i]? = some b := ⟨_, List.getElem?_eq_getElem (by omega)⟩
      obtain ⟨tb, htb⟩ := oP.get i hi7
      rw [getD_of hbb, hu7] at htb
      obtain rfl := Option.some.inj htb
      have gb := gd1 b (List.mem_of_getElem? hbb)
      have gb2 := gb.2.1
      dsimp only [envOf] at F7 N7
      dsimp only
      rcases i with _ | j
      · rw [rem_zero hbb] at hpre
        have c1 := hpre
        have c2 := hpre
        have ga := gb
        have hba := hbb
        obtain ⟨j, hj⟩ : ∃ j : Nat, j = 0 := ⟨_, rfl⟩
        obtain ⟨rr, hr⟩ : ∃ rr, rtB b b = rr := ⟨_, rfl⟩
        k_with "call" => (k_dflt (first
          | (refine one_is (by assumption) (by assumption) (by assumption) (by assumption) (by assumption) rfl ga gb hr (by omega) (by omega) ?_; intro h8 tk8 F8 N8)
          | (refine run_is (by assumption) (by assumption) (by assumption) (by assumption) (by assumption) rfl ga gb hr (by omega) (by omega) ?_; intro h8 tk8 F8 N8)))
        k_with "item" => (k_dflt (first
          | (refine item_known j (News.get (by assumption) (by k_mem)) oP (by push_cast; omega) hba (by omega) ?_; intro t9)
          | (refine cut_own (s := ⟨_, _, _, _, _⟩) (by assumption) (by assumption) c1 hX (by first | rfl | (simp; done) | (simp; omega)) (by first | rfl | (simp; done) | (simp; omega)) ?_; intro h9 t9 k9 F9 N9)
          | (refine cut_own (s := ⟨_, _, _, _, _⟩) (by assumption) (by assumption) c2 hX (by first | rfl | (simp; done) | (simp; omega)) (by first | rfl | (simp; done) | (simp; omega)) ?_; intro h9 t9 k9 F9 N9)))
        k_steps
        all_goals (try k_data)
        all_goals first
          | (exact absurd (by assumption : (b.toArray.toList != b.toArray.toList) = true) (by simp))
          | (exact absurd (by assumption : (rr != rr) = true) (by simp))
          | (exact absurd rfl (by assumption : rr ≠ rr))
          | (unfold Stop; rename_i kF9 kN9; exact ⟨_, _, _, _, rfl, kF9, kN9, off7, rfl, pre ++ b, _, (by rw [hpre]; simp), at_is (by (simp only [List.length_append, List.size_toArray, List.length_cons, List.length_nil]); omega), m2b, m2c, m2d, m2e⟩)
      · obtain ⟨a1, hba⟩ : ∃ a1, (e least)[j]? = some a1 := ⟨_, List.getElem?_eq_getElem (by omega)⟩
        have ga := gd1 a1 (List.mem_of_getElem? hba)
        rw [rem_succ hba hbb] at hpre
        obtain ⟨rr, hr⟩ : ∃ rr, rtB a1 b = rr := ⟨_, rfl⟩
        unfold sepB at hpre
        rw [hr] at hpre
        cases least
        · have c1 : X0 = pre ++ ([32] ++ (b ++ remO false (e false) (j + 2))) := hpre
          have c2 : X0 = (pre ++ [32]) ++ (b ++ remO false (e false) (j + 2)) := by rw [c1]; simp
          k_with "call" => (k_dflt (first
            | (refine one_is (by assumption) (by assumption) (by assumption) (by assumption) (by assumption) rfl ga gb hr (by omega) (by omega) ?_; intro h8 tk8 F8 N8)
            | (refine run_is (by assumption) (by assumption) (by assumption) (by assumption) (by assumption) rfl ga gb hr (by omega) (by omega) ?_; intro h8 tk8 F8 N8)))
          k_with "item" => (k_dflt (first
            | (refine item_known j (News.get (by assumption) (by k_mem)) oP (by push_cast; omega) hba (by omega) ?_; intro t9)
            | (refine cut_own (s := ⟨_, _, _, _, _⟩) (by assumption) (by assumption) c1 hX (by first | rfl | (simp; done) | (simp; omega)) (by first | rfl | (simp; done) | (simp; omega)) ?_; intro h9 t9 k9 F9 N9)
            | (refine cut_own (s := ⟨_, _, _, _, _⟩) (by assumption) (by assumption) c2 hX (by first | rfl | (simp; done) | (simp; omega)) (by first | rfl | (simp; done) | (simp; omega)) ?_; intro h9 t9 k9 F9 N9)))
          k_steps
          all_goals (try k_data)
          all_goals first
            | (exact absurd (by assumption : (b.toArray.toList != b.toArray.toList) = true) (by simp))
            | (exact absurd (by assumption : (rr != rr) = true) (by simp))
            | (exact absurd rfl (by assumption : rr ≠ rr))
            | (unfold Stop; rename_i kF9 kN9; exact ⟨_, _, _, _, rfl, kF9, kN9, off7, rfl, pre ++ [32] ++ b, _, (by rw [hpre]; simp), at_is (by (simp only [List.length_append, List.size_toArray, List.length_cons, List.length_nil]); omega), m2b, m2c, m2d, m2e⟩)
        · cases rr
          · have c1 : X0 = pre ++ (b ++ remO true (e true) (j + 2)) := hpre
            have c2 := c1
            k_with "call" => (k_dflt (first
              | (refine one_is (by assumption) (by assumption) (by assumption) (by assumption) (by assumption) rfl ga gb hr (by omega) (by omega) ?_; intro h8 tk8 F8 N8)
              | (refine run_is (by assumption) (by assumption) (by assumption) (by assumption) (by assumption) rfl ga gb hr (by omega) (by omega) ?_; intro h8 tk8 F8 N8)))
            k_with "item" => (k_dflt (first
              | (refine item_known j (News.get (by assumption) (by k_mem)) oP (by push_cast; omega) hba (by omega) ?_; intro t9)
              | (refine cut_own (s := ⟨_, _, _, _, _⟩) (by assumption) (by assumption) c1 hX (by first | rfl | (simp; done) | (simp; omega)) (by first | rfl | (simp; done) | (simp; omega)) ?_; intro h9 t9 k9 F9 N9)
              | (refine cut_own (s := ⟨_, _, _, _, _⟩) (by assumption) (by assumption) c2 hX (by first | rfl | (simp; done) | (simp; omega)) (by first | rfl | (simp; done) | (simp; omega)) ?_; intro h9 t9 k9 F9 N9)))
            k_steps
            all_goals (try k_data)
            all_goals first
              | (exact absurd (by assumption : (b.toArray.toList != b.toArray.toList) = true) (by simp))
              | (exact absurd (by assumption : (rr != rr) = true) (by simp))
              | (exact absurd rfl (by assumption : rr ≠ rr))
              | (unfold Stop; rename_i kF9 kN9; exact ⟨_, _, _, _, rfl, kF9, kN9, off7, rfl, pre ++ b, _, (by rw [hpre]; simp), at_is (by (simp only [List.length_append, List.size_toArray, List.length_cons, List.length_nil]); omega), m2b, m2c, m2d, m2e⟩)
          · have c1 : X0 = pre ++ ([32] ++ (b ++ remO true (e true) (j + 2))) := hpre
            have c2 : X0 = (pre ++ [32]) ++ (b ++ remO true (e true) (j + 2)) := by rw [c1]; simp
            k_with "call" => (k_dflt (first
              | (refine one_is (by assumption) (by assumption) (by assumption) (by assumption) (by assumption) rfl ga gb hr (by omega) (by omega) ?_; intro h8 tk8 F8 N8)
              | (refine run_is (by assumption) (by assumption) (by assumption) (by assumption) (by assumption) rfl ga gb hr (by omega) (by omega) ?_; intro h8 tk8 F8 N8)))
            k_with "item" => (k_dflt (first
              | (refine item_known j (News.get (by assumption) (by k_mem)) oP (by push_cast; omega) hba (by omega) ?_; intro t9)
              | (refine cut_own (s := ⟨_, _, _, _, _⟩) (by assumption) (by assumption) c1 hX (by first | rfl | (simp; done) | (simp; omega)) (by first | rfl | (simp; done) | (simp; omega)) ?_; intro h9 t9 k9 F9 N9)
              | (refine cut_own (s := ⟨_, _, _, _, _⟩) (by assumption) (by assumption) c2 hX (by first | rfl | (simp; done) | (simp; omega)) (by first | rfl | (simp; done) | (simp; omega)) ?_; intro h9 t9 k9 F9 N9)))
            k_steps
            all_goals (try k_data)
            all_goals first
              | (exact absurd (by assumption : (b.toArray.toList != b.toArray.toList) = true) (by simp))
              | (exact absurd (by assumption : (rr != rr) = true) (by simp))
              | (exact absurd rfl (by assumption : rr ≠ rr))
              | (unfold Stop; rename_i kF9 kN9; exact ⟨_, _, _, _, rfl, kF9, kN9, off7, rfl, pre ++ [32] ++ b, _, (by rw [hpre]; simp), at_is (by (simp only [List.length_append, List.size_toArray, List.length_cons, List.length_nil]); omega), m2b, m2c, m2d, m2e⟩)

end
end
theorem left_o : LeftO PySem.Challenge.pw_og0174_01 QV LO (fun s => xlAt QV [] s && recOk (RowW.records PySem.Challenge.rw_og0174_01.row.toRowW) s) (Hook.obs (kHook KF KA (fun _ => rfl))) (Hook.val (kHook KF KA (fun _ => rfl))) 5600 := left_all
theorem said : PySem.Challenge.rw_og0174_01.wellSaid = true := by k_qdec
end Mine
open Mine
theorem PySem.Challenge.cw_og0174_01_holds : PySem.Challenge.rw_og0174_01.Holds := by
  w_on
  refine holds_law said fun said => ?_
  refine holds_open (q := QV) (loose := LO) (Xt := fun s => xlAt QV [] s && recOk (RowW.records PySem.Challenge.rw_og0174_01.row.toRowW) s) (XP := XL QV []) (Yf := Hook.obs (kHook KF KA (fun _ => rfl))) (Ya := Hook.val (kHook KF KA (fun _ => rfl))) (YP := Hook.says (kHook KF KA (fun _ => rfl))) (N := 5600) left_o (Hook.of _) (Hook.keeps _) (fun s e => xl_of s (Bool.and_eq_true_iff.mp e).1) XL.keeps (by rfl) (by rfl) (by rfl) (fun s e => recFacts_of (Bool.and_eq_true_iff.mp e).2) (by rfl) (by assumption) (by decide +kernel) ⟨rfl, rfl, rfl, rfl, rfl, by decide +kernel⟩ ?hw ?hc
  (case hw => w_witness2)
  k_go0
  rename (IntsAre _ _) => hI
  have hlen := hI.length
  refine wpAny_mono (law_body (A₀ := callerA) (outer := []) (us := _) (ks := _) (below_caller _) (by assumption) (by assumption) (by assumption) (by assumption) (by assumption) hI ?hl ?hd ?hu ?ret) (fun _ _ h => h) (fun _ _ h => h.elim)
  (case hl => omega)
  (case hd => decide)
  (case hu => decide)
  intro h9 tk9 m9 F9
  dsimp only
  wrow_close
